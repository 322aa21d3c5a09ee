import PyProof.Rows.All
import HandS.ForMost
import HandS.Gcd
import HandS.IsInst
import HandS.Conv
import HandS.Wide
import HandS.Walk
import HandS.Rev
import HandS.RevRange
import HandS.Flow
import HandS.Zip
import HandS.RaiseMore
import HandS.TupAny
import HandS.TupMul
import HandS.TupLe
import HandS.WideBits
import HandS.EndBits
import KE.IntBitsLaws
import HandS.Sort
import PySem.Challenge.RW_leastnest_k04_boxes_hold
set_option Elab.async false
set_option linter.all false
set_option maxRecDepth 100000
set_option maxHeartbeats 4000000
set_option exponentiation.threshold 2000000
namespace DL
open PySem PySem.Spec PyProof.Rows L2
/-! what is asked of sizes, shut off from unfolding -/
structure Fit (n : Nat) : Prop where
  le : n ≤ sizeLine
theorem Fit.of {n : Nat} (h : n ≤ 16777216) : Fit n := ⟨by rw [sizeLine_eq]; exact h⟩
structure MulOk (i j : Int) : Prop where
  ok : IntMulOk i j
theorem MulOk.of_le {a b : Int} {m n : Nat} (ha : Builtin.Int.intBits a ≤ m) (hb : Builtin.Int.intBits b ≤ n) (h : m + n ≤ 134217728) : MulOk a b := ⟨IntMulOk.of_le ha hb h⟩
structure CDivZ (i j : Int) : Prop where
  nz : j ≠ 0
  np : Builtin.divisionGoesByPylong i j = false
structure PowOk (i j : Int) : Prop where
  ok : CPow i j
structure ShlOk (i j : Int) : Prop where
  ok : CShl i j
structure Rng (j : Int) : Prop where
  lo : -(2 ^ 62) ≤ j
  hi : j < 2 ^ 62
theorem Rng.of {j : Int} (h : -1000000000000 ≤ j) (h' : j ≤ 1000000000000) : Rng j := ⟨by omega, by omega⟩
abbrev D := PyData
abbrev Frag := PySem.W.Frag

/-! ### heaps: F what stays, H what is there -/
theorem Mut.some_of {o : Option HO} (m : Mut o) : ∃ u, o = some u := by
  cases o with
  | none => exact m.elim
  | some u => exact ⟨u, rfl⟩
theorem mut_same {H H' : Hp} {p : Addr} (e : Same H H') (m : Mut (H p)) : H' p = H p := by
  obtain ⟨u, hu⟩ := Mut.some_of m
  rw [hu]
  exact e p u hu
structure Gr (F H F' H' : Hp) : Prop where
  ff : Same F F'
  hh : Same H H'
  fh : Same F' H'
  own : ∀ p, F p = none → Mut (H p) → F' p = none
theorem Gr.refl {F H : Hp} (e : Same F H) : Gr F H F H := ⟨Same.refl F, Same.refl H, e, fun _ h _ => h⟩
theorem Gr.trans {F H F1 H1 F2 H2 : Hp} (a : Gr F H F1 H1) (b : Gr F1 H1 F2 H2) : Gr F H F2 H2 :=
  ⟨a.ff.trans b.ff, a.hh.trans b.hh, b.fh, fun p h m => b.own p (a.own p h m) (by rw [mut_same a.hh m]; exact m)⟩
theorem same_new {H : Hp} {p : Addr} {o : HO} (h : H p = none) : Same H (upd H p o) := fun b u e => by
  rw [upd_ne (ne_of_none e h)]
  exact e
theorem same_upd2 {F H : Hp} {p : Addr} {o : HO} (e : Same F H) : Same (upd F p o) (upd H p o) := fun b u q => by
  by_cases hb : b = p
  · subst hb
    rw [upd_same] at q ⊢
    exact q
  · rw [upd_ne hb] at q ⊢
    exact e b u q
/-- a new object that stays -/
theorem Gr.new {F H : Hp} {p : Addr} {o : HO} (e : Same F H) (h : H p = none) : Gr F H (upd F p o) (upd H p o) :=
  ⟨same_new (e.free h), same_new h, same_upd2 e, fun q hq m => by
    have : q ≠ p := fun z => by
      rw [z, h] at m
      exact m
    rw [upd_ne this]
    exact hq⟩
/-- a new object that may change -/
theorem Gr.newO {F H : Hp} {p : Addr} {o : HO} (e : Same F H) (h : H p = none) : Gr F H F (upd H p o) :=
  ⟨Same.refl F, same_new h, e.trans (same_new h), fun _ hq _ => hq⟩
end DL
namespace L2
open PySem PySem.Spec PyProof.Rows
theorem Same.seqT {K : PySem.W.Frag} {H H' : Hp} {a : Addr} {xs : List V} (e : Same H H') (h : SqT K H a xs) : SqT K H' a xs := by
  rcases h with (h | ⟨o, h⟩) | h
  · exact .inl (.inl (e _ _ h))
  · exact .inl (.inr ⟨o, e _ _ h⟩)
  · exact .inr h

end L2
namespace DL
open PySem PySem.Spec PyProof.Rows L2
/-! ### data over a heap -/
mutual
theorem dp_mono {K : Frag} {H H' : Hp} (e : Same H H') : ∀ (d : D) {v : V}, Dp K H v d → Dp K H' v d
  | .none, _, h => by cases h; exact .non
  | .bool b, _, h => by cases h; exact .bl _
  | .int i, _, h => by cases h; exact .int _
  | .str x, _, h => by cases h; exact .str _
  | .list ds, _, h => by
    cases h with
    | lst hs ha => exact .lst (e.seq hs) (dpAll_mono e ds ha)
  | .tuple ds, _, h => by
    cases h with
    | tup hs ha => exact .tup (Same.seqT e hs) (dpAll_mono e ds ha)
  | .dict _, _, h => by cases h
theorem dpAll_mono {K : Frag} {H H' : Hp} (e : Same H H') : ∀ (ds : List D) {vs : List V}, DpAll K H vs ds → DpAll K H' vs ds
  | [], _, h => by cases h; exact .nil
  | d :: ds, _, h => by
    cases h with
    | cons h1 h2 => exact .cons (dp_mono e d h1) (dpAll_mono e ds h2)
end
end DL
namespace L2
open PySem PySem.Spec PyProof.Rows DL
theorem Dp.mono {K : Frag} {H H' : Hp} {v : V} {d : D} (h : Dp K H v d) (e : Same H H') : Dp K H' v d := dp_mono e d h
theorem DpAll.mono {K : Frag} {H H' : Hp} {vs : List V} {ds : List D} (h : DpAll K H vs ds) (e : Same H H') : DpAll K H' vs ds := dpAll_mono e ds h
theorem DpAll.length {K : Frag} {H : Hp} : ∀ {vs : List V} {ds : List D}, DpAll K H vs ds → vs.length = ds.length
  | [], ds, h => by cases h; rfl
  | v :: vs, ds, h => by
    cases h with
    | cons _ h2 => rw [List.length_cons, List.length_cons, DpAll.length h2]
theorem DpAll.get {K : Frag} {H : Hp} : ∀ {vs : List V} {ds : List D} {i : Nat} {d : D}, DpAll K H vs ds → ds[i]? = some d → ∃ v, vs[i]? = some v ∧ Dp K H v d
  | [], ds, i, d, h, e => by cases h; simp at e
  | v :: vs, ds, i, d, h, e => by
    cases h with
    | cons h1 h2 =>
      cases i with
      | zero =>
        simp at e
        subst e
        exact ⟨v, rfl, h1⟩
      | succ i =>
        obtain ⟨u, hu, r⟩ := DpAll.get h2 (show _ = some d by simpa using e)
        exact ⟨u, by simpa using hu, r⟩
theorem DpAll.append {K : Frag} {H : Hp} : ∀ {vs us : List V} {ds es : List D}, DpAll K H vs ds → DpAll K H us es → DpAll K H (vs ++ us) (ds ++ es)
  | [], us, ds, es, h, g => by cases h; exact g
  | v :: vs, us, ds, es, h, g => by
    cases h with
    | cons h1 h2 => exact .cons h1 (DpAll.append h2 g)
theorem DpAll.set {K : Frag} {H : Hp} {u : V} {e : D} (r : Dp K H u e) : ∀ {vs : List V} {ds : List D} (i : Nat), DpAll K H vs ds → DpAll K H (vs.set i u) (ds.set i e)
  | [], ds, i, h => by cases h; exact .nil
  | v :: vs, ds, i, h => by
    cases h with
    | cons h1 h2 =>
      cases i with
      | zero => exact .cons r h2
      | succ i => exact .cons h1 (DpAll.set r i h2)
theorem DpAll.take {K : Frag} {H : Hp} : ∀ {vs : List V} {ds : List D} (n : Nat), DpAll K H vs ds → DpAll K H (vs.take n) (ds.take n)
  | [], ds, n, h => by cases h; simp; exact .nil
  | v :: vs, ds, n, h => by
    cases h with
    | cons h1 h2 =>
      cases n with
      | zero => exact .nil
      | succ n => exact .cons h1 (DpAll.take n h2)
theorem DpAll.drop {K : Frag} {H : Hp} : ∀ {vs : List V} {ds : List D} (n : Nat), DpAll K H vs ds → DpAll K H (vs.drop n) (ds.drop n)
  | [], ds, n, h => by cases h; simp; exact .nil
  | v :: vs, ds, n, h => by
    cases n with
    | zero => exact h
    | succ n =>
      cases h with
      | cons h1 h2 => exact DpAll.drop n h2
theorem DpAll.reverse {K : Frag} {H : Hp} : ∀ {vs : List V} {ds : List D}, DpAll K H vs ds → DpAll K H vs.reverse ds.reverse
  | [], ds, h => by cases h; exact .nil
  | v :: vs, ds, h => by
    cases h with
    | cons h1 h2 =>
      rw [List.reverse_cons, List.reverse_cons]
      exact DpAll.append (DpAll.reverse h2) (.cons h1 .nil)
theorem DpAll.dropLast {K : Frag} {H : Hp} {vs : List V} {ds : List D} (h : DpAll K H vs ds) : DpAll K H vs.dropLast ds.dropLast := by
  rw [List.dropLast_eq_take, List.dropLast_eq_take, h.length]
  exact h.take _
theorem DpAll.eraseIdx {K : Frag} {H : Hp} : ∀ {vs : List V} {ds : List D} (i : Nat), DpAll K H vs ds → DpAll K H (vs.eraseIdx i) (ds.eraseIdx i)
  | [], ds, i, h => by cases h; exact .nil
  | v :: vs, ds, i, h => by
    cases h with
    | cons h1 h2 =>
      cases i with
      | zero => exact h2
      | succ i => exact .cons h1 (DpAll.eraseIdx i h2)
theorem DpAll.replicate {K : Frag} {H : Hp} {v : V} {d : D} (r : Dp K H v d) : ∀ n : Nat, DpAll K H (List.replicate n v) (List.replicate n d)
  | 0 => .nil
  | n + 1 => .cons r (DpAll.replicate r n)
theorem DpAll.flatRep {K : Frag} {H : Hp} {vs : List V} {ds : List D} (r : DpAll K H vs ds) : ∀ n : Nat, DpAll K H (List.replicate n vs).flatten (List.replicate n ds).flatten
  | 0 => .nil
  | n + 1 => by
    rw [List.replicate_succ, List.replicate_succ, List.flatten_cons, List.flatten_cons]
    exact DpAll.append r (DpAll.flatRep r n)
theorem DpAll.ints {K : Frag} {H : Hp} : ∀ (ns : List Int), DpAll K H (ns.map V.int) (ns.map PyData.int)
  | [] => .nil
  | n :: r => .cons (.int n) (DpAll.ints r)
theorem DpAll.ints_of {K : Frag} {H : Hp} : ∀ {vs : List V} (ns : List Int), DpAll K H vs (ns.map PyData.int) → vs = ns.map V.int
  | [], ns, h => by
    cases ns with
    | nil => rfl
    | cons n r => cases h
  | v :: vs, ns, h => by
    cases ns with
    | nil => cases h
    | cons n r =>
      cases h with
      | cons h1 h2 =>
        cases h1
        rw [List.map_cons, ← DpAll.ints_of r h2]
theorem DpAll.bools_of {K : Frag} {H : Hp} : ∀ {vs : List V} (ns : List Bool), DpAll K H vs (ns.map PyData.bool) → vs = ns.map V.bl
  | [], ns, h => by
    cases ns with
    | nil => rfl
    | cons n r => cases h
  | v :: vs, ns, h => by
    cases ns with
    | nil => cases h
    | cons n r =>
      cases h with
      | cons h1 h2 =>
        cases h1
        rw [List.map_cons, ← DpAll.bools_of r h2]
theorem DpAll.strs_of {K : Frag} {H : Hp} : ∀ {vs : List V} (ns : List Str), DpAll K H vs (ns.map PyData.str) → vs = ns.map V.str
  | [], ns, h => by
    cases ns with
    | nil => rfl
    | cons n r => cases h
  | v :: vs, ns, h => by
    cases ns with
    | nil => cases h
    | cons n r =>
      cases h with
      | cons h1 h2 =>
        cases h1
        rw [List.map_cons, ← DpAll.strs_of r h2]

end L2
namespace DL
open PySem PySem.Spec PyProof.Rows L2
/-! no list within: it leans on tuples alone -/
mutual
def noLst : D → Bool
  | .list _ => false
  | .dict _ => false
  | .tuple ds => noLstAll ds
  | _ => true
def noLstAll : List D → Bool
  | [] => true
  | d :: ds => noLst d && noLstAll ds
end
mutual
theorem dp_cut {K : Frag} {H H' : Hp} (e : ∀ b u, H b = some u → ¬ Mut (some u) → H' b = some u) : ∀ (d : D) {v : V}, noLst d = true → Dp K H v d → Dp K H' v d
  | .none, _, _, h => by cases h; exact .non
  | .bool b, _, _, h => by cases h; exact .bl _
  | .int i, _, _, h => by cases h; exact .int _
  | .str x, _, _, h => by cases h; exact .str _
  | .list ds, _, n, h => by simp [noLst] at n
  | .tuple ds, _, n, h => by
    cases h with
    | tup hs ha =>
      refine .tup ?_ (dpAll_cut e ds (by simpa [noLst] using n) ha)
      rcases hs with (h | ⟨o, h⟩) | h
      · exact .inl (.inl (e _ _ h fun z => z))
      · exact .inl (.inr ⟨o, e _ _ h fun z => z⟩)
      · exact .inr h
  | .dict _, _, _, h => by cases h
theorem dpAll_cut {K : Frag} {H H' : Hp} (e : ∀ b u, H b = some u → ¬ Mut (some u) → H' b = some u) : ∀ (ds : List D) {vs : List V}, noLstAll ds = true → DpAll K H vs ds → DpAll K H' vs ds
  | [], _, _, h => by cases h; exact .nil
  | d :: ds, _, n, h => by
    cases h with
    | cons h1 h2 =>
      simp only [noLstAll, Bool.and_eq_true] at n
      exact .cons (dp_cut e d n.1 h1) (dpAll_cut e ds n.2 h2)
end

/-! ### slots -/
/-- a slot: data that stays, or a list of one's own -/
inductive DV where
  | val (d : D)
  | own (ds : List D)
abbrev Rho := List (Option DV)
def SlotOk (K : Frag) (B F H : Hp) : DV → V → Prop
  | .val d, v => Dp K F v d
  | .own ds, v => ∃ p vs, v = .ref p ∧ B p = none ∧ F p = none ∧ H p = some (.lst vs) ∧ DpAll K F vs ds
structure EnvOk (K : Frag) (B F H : Hp) (ρ : Rho) (σ : L2.St) : Prop where
  fh : Same F H
  bh : Same B H
  len : ρ.length = σ.length
  at' : ∀ (i : Nat) dv, ρ[i]? = some (some dv) → ∃ v, σ[i]? = some (some v) ∧ SlotOk K B F H dv v
  sep : ∀ (i j : Nat) (p : Addr) (a b : List D), i ≠ j → ρ[i]? = some (some (.own a)) → ρ[j]? = some (some (.own b)) → σ[i]? = some (some (.ref p)) → σ[j]? ≠ some (some (.ref p))
theorem SlotOk.grow {K : Frag} {B F H F' H' : Hp} {dv : DV} {v : V} (h : SlotOk K B F H dv v) (g : Gr F H F' H') : SlotOk K B F' H' dv v := by
  cases dv with
  | val d => exact Dp.mono h g.ff
  | own ds =>
    obtain ⟨p, vs, e, hb, hf, hh, ha⟩ := h
    exact ⟨p, vs, e, hb, g.own p hf (by rw [hh]; trivial), g.hh p _ hh, ha.mono g.ff⟩
theorem EnvOk.grow {K : Frag} {B F H F' H' : Hp} {ρ : Rho} {σ : L2.St} (E : EnvOk K B F H ρ σ) (g : Gr F H F' H') : EnvOk K B F' H' ρ σ :=
  ⟨g.fh, E.bh.trans g.hh, E.len, fun i dv e => let ⟨v, h1, h2⟩ := E.at' i dv e; ⟨v, h1, h2.grow g⟩, E.sep⟩
theorem EnvOk.set {K : Frag} {B F H : Hp} {ρ : Rho} {σ : L2.St} (E : EnvOk K B F H ρ σ) (i : Nat) {d : D} {v : V} (r : Dp K F v d) : EnvOk K B F H (ρ.set i (some (.val d))) (σ.set i (some v)) := by
  refine ⟨E.fh, E.bh, by rw [List.length_set, List.length_set]; exact E.len, fun j dv e => ?_, fun j k p a b hjk e1 e2 e3 => ?_⟩
  · by_cases hij : i = j
    · subst hij
      have hi : i < ρ.length := by
        have h := (List.getElem?_eq_some_iff.mp e).1
        rw [List.length_set] at h
        exact h
      rw [List.getElem?_set_self hi] at e
      cases e
      exact ⟨v, by rw [List.getElem?_set_self (by rw [← E.len]; exact hi)], r⟩
    · rw [List.getElem?_set_ne hij] at e ⊢
      exact E.at' j dv e
  · have n1 : i ≠ j := fun z => by
      subst z
      have hi : i < ρ.length := by
        have h := (List.getElem?_eq_some_iff.mp e1).1
        rw [List.length_set] at h
        exact h
      rw [List.getElem?_set_self hi] at e1
      cases e1
    have n2 : i ≠ k := fun z => by
      subst z
      have hi : i < ρ.length := by
        have h := (List.getElem?_eq_some_iff.mp e2).1
        rw [List.length_set] at h
        exact h
      rw [List.getElem?_set_self hi] at e2
      cases e2
    rw [List.getElem?_set_ne n1] at e1 e3
    rw [List.getElem?_set_ne n2] at e2 ⊢
    exact E.sep j k p a b hjk e1 e2 e3
/-- a slot that holds an own list, the list new or changed -/
theorem EnvOk.setOwn {K : Frag} {B F H H' : Hp} {ρ : Rho} {σ : L2.St} (E : EnvOk K B F H ρ σ) (i : Nat) {ds : List D} {vs : List V} {p : Addr} (hb : B p = none) (hf : F p = none) (hp : H' p = some (.lst vs)) (ha : DpAll K F vs ds)
    (hs : ∀ (j : Nat) (a : List D), j ≠ i → ρ[j]? = some (some (.own a)) → σ[j]? ≠ some (some (.ref p))) (hk : ∀ b, b ≠ p → H' b = H b) : EnvOk K B F H' (ρ.set i (some (.own ds))) (σ.set i (some (.ref p))) := by
  have fh' : Same F H' := fun b u e => by
    have : b ≠ p := fun z => by
      rw [z, hf] at e
      cases e
    rw [hk b this]
    exact E.fh b u e
  have bh' : Same B H' := fun b u e => by
    have : b ≠ p := fun z => by
      rw [z, hb] at e
      cases e
    rw [hk b this]
    exact E.bh b u e
  have sl : ∀ (j : Nat) dv, i ≠ j → ρ[j]? = some (some dv) → ∃ v, σ[j]? = some (some v) ∧ SlotOk K B F H' dv v := fun j dv hij e => by
    obtain ⟨v, h1, h2⟩ := E.at' j dv e
    refine ⟨v, h1, ?_⟩
    cases dv with
    | val d => exact h2
    | own a =>
      obtain ⟨q, us, rfl, q0, q1, q2, q3⟩ := h2
      have : q ≠ p := fun z => by
        subst z
        exact hs j a (Ne.symm hij) e h1
      exact ⟨q, us, rfl, q0, q1, by rw [hk q this]; exact q2, q3⟩
  refine ⟨fh', bh', by rw [List.length_set, List.length_set]; exact E.len, fun j dv e => ?_, fun j k q a b hjk e1 e2 e3 => ?_⟩
  · by_cases hij : i = j
    · subst hij
      have hi : i < ρ.length := by
        have h := (List.getElem?_eq_some_iff.mp e).1
        rw [List.length_set] at h
        exact h
      rw [List.getElem?_set_self hi] at e
      cases e
      exact ⟨.ref p, by rw [List.getElem?_set_self (by rw [← E.len]; exact hi)], p, vs, rfl, hb, hf, hp, ha⟩
    · rw [List.getElem?_set_ne hij] at e ⊢
      exact sl j dv hij e
  · by_cases hij : i = j
    · subst hij
      have n2 : i ≠ k := hjk
      have hi : i < ρ.length := by
        have h := (List.getElem?_eq_some_iff.mp e1).1
        rw [List.length_set] at h
        exact h
      rw [List.getElem?_set_self (by rw [← E.len]; exact hi)] at e3
      cases e3
      rw [List.getElem?_set_ne n2] at e2 ⊢
      exact hs k b (Ne.symm n2) e2
    · rw [List.getElem?_set_ne hij] at e1 e3
      by_cases hik : i = k
      · subst hik
        have hi : i < ρ.length := by
          have h := (List.getElem?_eq_some_iff.mp e2).1
          rw [List.length_set] at h
          exact h
        rw [List.getElem?_set_self (by rw [← E.len]; exact hi)]
        intro z
        cases z
        exact hs j a (Ne.symm hij) e1 e3
      · rw [List.getElem?_set_ne hik] at e2 ⊢
        exact E.sep j k q a b hjk e1 e2 e3
/-- everything stays (while nothing of one's own is changed) -/
def look : Option DV → Option DV
  | some (.own ds) => some (.val (.list ds))
  | o => o
def view (ρ : Rho) : Rho := ρ.map look
theorem EnvOk.view {K : Frag} {B F H : Hp} {ρ : Rho} {σ : L2.St} (E : EnvOk K B F H ρ σ) : EnvOk K B H H (view ρ) σ := by
  have noown : ∀ (i : Nat) a, (DL.view ρ)[i]? ≠ some (some (.own a)) := fun i a e => by
    unfold DL.view at e
    rw [List.getElem?_map] at e
    cases q : ρ[i]? with
    | none => rw [q] at e; cases e
    | some o =>
      rw [q] at e
      cases o with
      | none => cases e
      | some dv => cases dv <;> cases e
  refine ⟨Same.refl H, E.bh, by unfold DL.view; rw [List.length_map]; exact E.len, fun i dv e => ?_, fun i j p a b _ e _ _ => absurd e (noown i a)⟩
  unfold DL.view at e
  rw [List.getElem?_map] at e
  cases q : ρ[i]? with
  | none => rw [q] at e; cases e
  | some o =>
    rw [q] at e
    cases o with
    | none => cases e
    | some dv0 =>
      obtain ⟨v, h1, h2⟩ := E.at' i dv0 q
      refine ⟨v, h1, ?_⟩
      cases dv0 with
      | val d =>
        cases e
        exact Dp.mono h2 E.fh
      | own ds =>
        cases e
        obtain ⟨p, vs, rfl, _, _, h3, h4⟩ := h2
        exact Dp.lst (.inl (.inl h3)) (h4.mono E.fh)
/-- one own list is kept for good -/
theorem EnvOk.frz {K : Frag} {B F H : Hp} {ρ : Rho} {σ : L2.St} (E : EnvOk K B F H ρ σ) {i : Nat} {ds : List D} (e : ρ[i]? = some (some (.own ds))) :
    ∃ F', Same F F' ∧ (∀ p, F p = none → Mut (B p) → F' p = none) ∧ EnvOk K B F' H (ρ.set i (some (.val (.list ds)))) σ := by
  obtain ⟨v, h1, p, vs, rfl, hb, hf, hh, ha⟩ := E.at' i _ e
  have sF : Same F (upd F p (.lst vs)) := same_new hf
  have fh : Same (upd F p (.lst vs)) H := fun b u q => by
    by_cases hb : b = p
    · subst hb
      rw [upd_same] at q
      cases q
      exact hh
    · rw [upd_ne hb] at q
      exact E.fh b u q
  have hi : i < ρ.length := (List.getElem?_eq_some_iff.mp e).1
  have E' : EnvOk K B (upd F p (.lst vs)) H (ρ.set i (some (.val (.list ds)))) σ := by
    refine ⟨fh, E.bh, by rw [List.length_set]; exact E.len, fun j dv q => ?_, fun j k q a b hjk e1 e2 e3 => ?_⟩
    · by_cases hij : i = j
      · subst hij
        rw [List.getElem?_set_self hi] at q
        cases q
        exact ⟨.ref p, h1, Dp.lst (.inl (.inl upd_same)) (ha.mono sF)⟩
      · rw [List.getElem?_set_ne hij] at q
        obtain ⟨v, h2, h3⟩ := E.at' j dv q
        refine ⟨v, h2, ?_⟩
        cases dv with
        | val d => exact Dp.mono h3 sF
        | own a =>
          obtain ⟨p', us, rfl, g0, g1, g2, g3⟩ := h3
          have : p' ≠ p := fun z => by
            subst z
            exact E.sep j i p' a ds (Ne.symm hij) q e h2 h1
          exact ⟨p', us, rfl, g0, by rw [upd_ne this]; exact g1, g2, g3.mono sF⟩
    · have nn : ∀ (j : Nat) a, (ρ.set i (some (.val (.list ds))))[j]? = some (some (.own a)) → i ≠ j := fun j a z w => by
        subst w
        rw [List.getElem?_set_self hi] at z
        cases z
      rw [List.getElem?_set_ne (nn j a e1)] at e1
      rw [List.getElem?_set_ne (nn k b e2)] at e2
      exact E.sep j k q a b hjk e1 e2 e3
  refine ⟨_, sF, fun q hq m => ?_, E'⟩
  have : q ≠ p := fun z => by
    rw [z, hb] at m
    exact m
  rw [upd_ne this]
  exact hq
end DL

namespace DL
open PySem PySem.Spec PyProof.Rows L2

/-! ### readings over data -/
abbrev RE := Rho → (D → Prop) → Prop
abbrev RL := Rho → (List D → Prop) → Prop
abbrev RT := Rho → (Bool → Prop) → Prop
/-- a value that is read now: data that stays, or a list of one's own -/
def Bor (K : Frag) (F H : Hp) (v : V) (d : D) : Prop := Dp K F v d ∨ ∃ p vs xs, d = .list xs ∧ v = .ref p ∧ SqL K H p vs ∧ DpAll K F vs xs
theorem Bor.grow {K : Frag} {F H F' H' : Hp} {v : V} {d : D} (h : Bor K F H v d) (g : Gr F H F' H') : Bor K F' H' v d := by
  rcases h with h | ⟨p, vs, xs, e1, e2, h1, h2⟩
  · exact .inl (h.mono g.ff)
  · exact .inr ⟨p, vs, xs, e1, e2, g.hh.seq h1, h2.mono g.ff⟩
theorem Bor.lst {K : Frag} {F H : Hp} {v : V} {xs : List D} (fh : Same F H) (h : Bor K F H v (.list xs)) : ∃ p vs, v = .ref p ∧ SqL K H p vs ∧ DpAll K F vs xs := by
  rcases h with h | ⟨p, vs, xs', e1, e2, h1, h2⟩
  · cases h with
    | lst hs ha => exact ⟨_, _, rfl, fh.seq hs, ha⟩
  · cases e1
    exact ⟨p, vs, e2, h1, h2⟩
theorem Bor.tup {K : Frag} {F H : Hp} {v : V} {xs : List D} (fh : Same F H) (h : Bor K F H v (.tuple xs)) : ∃ p vs, v = .ref p ∧ SqT K F p vs ∧ SqT K H p vs ∧ DpAll K F vs xs := by
  rcases h with h | ⟨p, vs, xs', e1, e2, h1, h2⟩
  · cases h with
    | tup hs ha => exact ⟨_, _, rfl, hs, fh.seqT hs, ha⟩
  · cases e1
theorem Bor.int {K : Frag} {F H : Hp} {v : V} {i : Int} (h : Bor K F H v (.int i)) : v = .int i := by
  rcases h with h | ⟨p, vs, xs', e1, e2, h1, h2⟩
  · cases h; rfl
  · cases e1
theorem Bor.bl {K : Frag} {F H : Hp} {v : V} {i : Bool} (h : Bor K F H v (.bool i)) : v = .bl i := by
  rcases h with h | ⟨p, vs, xs', e1, e2, h1, h2⟩
  · cases h; rfl
  · cases e1
theorem Bor.str {K : Frag} {F H : Hp} {v : V} {i : Str} (h : Bor K F H v (.str i)) : v = .str i := by
  rcases h with h | ⟨p, vs, xs', e1, e2, h1, h2⟩
  · cases h; rfl
  · cases e1
theorem Bor.non {K : Frag} {F H : Hp} {v : V} (h : Bor K F H v .none) : v = .non := by
  rcases h with h | ⟨p, vs, xs', e1, e2, h1, h2⟩
  · cases h; rfl
  · cases e1
theorem Bor.dp {K : Frag} {F H : Hp} {v : V} {d : D} (fh : Same F H) (h : Bor K F H v d) : Dp K H v d := by
  rcases h with h | ⟨p, vs, xs', e1, e2, h1, h2⟩
  · exact h.mono fh
  · subst e1 e2
    exact .lst h1 (h2.mono fh)
theorem Bor.nd {K : Frag} {F H : Hp} {v : V} {xs} (h : Bor K F H v (.dict xs)) : False := by
  rcases h with h | ⟨p, vs, xs', e1, e2, h1, h2⟩
  · cases h
  · cases e1
def BorAll (K : Frag) (F H : Hp) : List V → List D → Prop := Paired (Bor K F H)
theorem BorAll.grow {K : Frag} {F H F' H' : Hp} {vs : List V} {ds : List D} (h : BorAll K F H vs ds) (g : Gr F H F' H') : BorAll K F' H' vs ds := L2.Paired.mapP h fun _ _ z => z.grow g
theorem BorAll.one {K : Frag} {F H : Hp} {vs : List V} {d : D} (h : BorAll K F H vs [d]) : ∃ v, vs = [v] ∧ Bor K F H v d := by
  cases h with
  | cons r t =>
    cases t
    exact ⟨_, rfl, r⟩
theorem BorAll.two {K : Frag} {F H : Hp} {vs : List V} {d e : D} (h : BorAll K F H vs [d, e]) : ∃ v u, vs = [v, u] ∧ Bor K F H v d ∧ Bor K F H u e := by
  cases h with
  | cons r t =>
    obtain ⟨u, rfl, b⟩ := BorAll.one t
    exact ⟨_, _, rfl, r, b⟩

section
variable (K : Frag)
def SimE (te : TE) (de : RE) : Prop := ∀ (B F H : Hp) (ρ : Rho) (σ : L2.St), EnvOk K B F H ρ σ → ∀ q : D → Prop, de ρ q → ∀ Q : VK, (∀ v d F' H', Gr F H F' H' → Dp K F' v d → q d → Q v H') → te σ H Q
def SimB (te : TE) (de : RE) : Prop := ∀ (B F H : Hp) (ρ : Rho) (σ : L2.St), EnvOk K B F H ρ σ → ∀ q : D → Prop, de ρ q → ∀ Q : VK, (∀ v d F' H', Gr F H F' H' → Bor K F' H' v d → q d → Q v H') → te σ H Q
/-- a new list, of one's own -/
def SimL (te : TE) (dl : RL) : Prop := ∀ (B F H : Hp) (ρ : Rho) (σ : L2.St), EnvOk K B F H ρ σ → ∀ q : List D → Prop, dl ρ q → ∀ Q : VK,
  (∀ p vs ds F' H', Gr F H F' H' → H p = none → F' p = none → H' p = some (.lst vs) → DpAll K F' vs ds → q ds → Q (.ref p) H') → te σ H Q
def SimT (tt : TT) (dt : RT) : Prop := ∀ (B F H : Hp) (ρ : Rho) (σ : L2.St), EnvOk K B F H ρ σ → ∀ q : Bool → Prop, dt ρ q → ∀ Q : Bool → Hp → Prop, (∀ b F' H', Gr F H F' H' → q b → Q b H') → tt σ H Q
def SimA (n : Nat) (ta : TA) (da : RL) : Prop := ∀ (B F H : Hp) (ρ : Rho) (σ : L2.St), EnvOk K B F H ρ σ → ∀ q : List D → Prop, da ρ q → ∀ Q : List V → Hp → Prop, (∀ vs ds F' H', Gr F H F' H' → DpAll K F' vs ds → ds.length = n → q ds → Q vs H') → ta σ H Q
def SimAB (ta : TA) (da : RL) : Prop := ∀ (B F H : Hp) (ρ : Rho) (σ : L2.St), EnvOk K B F H ρ σ → ∀ q : List D → Prop, da ρ q → ∀ Q : List V → Hp → Prop, (∀ vs ds F' H', Gr F H F' H' → BorAll K F' H' vs ds → q ds → Q vs H') → ta σ H Q
def SimO (to : TO) (do' : Rho → (Option Int → Prop) → Prop) : Prop := ∀ (B F H : Hp) (ρ : Rho) (σ : L2.St), EnvOk K B F H ρ σ → ∀ q : Option Int → Prop, do' ρ q → ∀ Q : Option Int → Hp → Prop, (∀ o F' H', Gr F H F' H' → q o → Q o H') → to σ H Q
end
def DE (X : Cx) (e : Expr) (de : RE) : Prop := ∃ te, PE X e te ∧ SimE X.K te de
def DB (X : Cx) (e : Expr) (de : RE) : Prop := ∃ te, PE X e te ∧ SimB X.K te de
def DLs (X : Cx) (e : Expr) (dl : RL) : Prop := ∃ te, PE X e te ∧ SimL X.K te dl
def DT (X : Cx) (e : Expr) (dt : RT) : Prop := ∃ tt, PT X e tt ∧ SimT X.K tt dt
def DW (X : Cx) (e : Expr) (dt : RT) : Prop := ∃ tt, PW X e tt ∧ SimT X.K tt dt
def DA (X : Cx) (es : List Expr) (da : RL) : Prop := ∃ ta, PA X es ta ∧ SimA X.K es.length ta da
def DAB (X : Cx) (es : List Expr) (da : RL) : Prop := ∃ ta, PA X es ta ∧ SimAB X.K ta da
def DO (X : Cx) (e : Option Expr) (do' : Rho → (Option Int → Prop) → Prop) : Prop := ∃ to, PO X e to ∧ SimO X.K to do'

section
variable {X : Cx} {e a b c : Expr} {es : List Expr} {de da db dc : RE} {dl : RL} {dt du : RT} {pos : Pos}
/-- data that stays may be read -/
theorem DE.toB (h : DE X e de) : DB X e de := by
  obtain ⟨te, h1, h2⟩ := h
  exact ⟨te, h1, fun B F H ρ σ E q hq Q k => h2 B F H ρ σ E q hq Q fun v d F' H' g r z => k v d F' H' g (.inl r) z⟩
/-- a new list is data, if one wants -/
def dLst (dl : RL) : RE := fun ρ q => dl ρ fun ds => q (.list ds)
theorem DLs.toE (h : DLs X e dl) : DE X e (dLst dl) := by
  obtain ⟨te, h1, h2⟩ := h
  refine ⟨te, h1, fun B F H ρ σ E q hq Q k => h2 B F H ρ σ E _ hq Q fun p vs ds F' H' g hp hf hh ha z => ?_⟩
  have fh : Same (upd F' p (.lst vs)) H' := fun b u w => by
    by_cases hb : b = p
    · subst hb
      rw [upd_same] at w
      cases w
      exact hh
    · rw [upd_ne hb] at w
      exact g.fh b u w
  refine k (.ref p) (.list ds) (upd F' p (.lst vs)) H' ⟨g.ff.trans (same_new hf), g.hh, fh, fun q hq m => ?_⟩ (.lst (.inl (.inl upd_same)) (ha.mono (same_new hf))) z
  have : q ≠ p := fun w => by
    rw [w, hp] at m
    exact m
  rw [upd_ne this]
  exact g.own q hq m
/- the heap without what is of one's own -/
open Classical in
noncomputable def keepOff (F H H' : Hp) : Hp := fun p => if F p = none ∧ Mut (H p) then none else H' p
theorem keepOff_gr {F H H' : Hp} (fh : Same F H) (g : Same H H') : Gr F H (keepOff F H H') H' := by
  refine ⟨fun p o e => ?_, g, fun p o e => ?_, fun p hf m => ?_⟩
  · unfold keepOff
    rw [if_neg (by rw [e]; rintro ⟨z, _⟩; cases z)]
    exact g p o (fh p o e)
  · unfold keepOff at e
    split at e
    · cases e
    · exact e
  · unfold keepOff
    rw [if_pos ⟨hf, m⟩]
theorem keepOff_keep {F H H' : Hp} (g : Same H H') : ∀ b u, H' b = some u → ¬ Mut (some u) → keepOff F H H' b = some u := fun b u e nm => by
  unfold keepOff
  rw [if_neg]
  · exact e
  · rintro ⟨_, m⟩
    have z := mut_same g m
    rw [e] at z
    rw [← z] at m
    exact nm m
/-- read with own lists as data; what comes has no list -/
def dView (de : RE) : RE := fun ρ q => de (view ρ) fun d => noLst d = true ∧ q d
theorem DE.vw (h : DE X e de) : DE X e (dView de) := by
  obtain ⟨te, h1, h2⟩ := h
  refine ⟨te, h1, fun B F H ρ σ E q hq Q k => h2 B H H (view ρ) σ E.view _ hq Q fun v d F' H' g r z => ?_⟩
  have r2 : Dp X.K H' v d := r.mono g.fh
  exact k v d (keepOff F H H') H' (keepOff_gr E.fh g.hh) (dp_cut (keepOff_keep g.hh) d z.1 r2) z.2
/-- the test of it (no value comes) -/
def tView (dt : RT) : RT := fun ρ q => dt (view ρ) q
theorem DT.vw (h : DT X e dt) : DT X e (tView dt) := by
  obtain ⟨te, h1, h2⟩ := h
  exact ⟨te, h1, fun B F H ρ σ E q hq Q k => h2 B H H (view ρ) σ E.view _ hq Q fun b F' H' g z => k b (keepOff F H H') H' (keepOff_gr E.fh g.hh) z⟩
/-- a new list, read with own lists as data; its items have no list -/
def lView (dl : RL) : RL := fun ρ q => dl (view ρ) fun ds => noLstAll ds = true ∧ q ds
theorem DLs.vw (h : DLs X e dl) : DLs X e (lView dl) := by
  obtain ⟨te, h1, h2⟩ := h
  refine ⟨te, h1, fun B F H ρ σ E q hq Q k => h2 B H H (view ρ) σ E.view _ hq Q fun p vs ds F' H' g hp hf hh ha z => ?_⟩
  have g2 := keepOff_gr (H' := H') E.fh g.hh
  have fp : F p = none := E.fh.free hp
  -- the new list itself stays off
  have F2 : ∃ F2 : Hp, Gr F H F2 H' ∧ F2 p = none ∧ DpAll X.K F2 vs ds := by
    classical
    refine ⟨fun q => if q = p then none else keepOff F H H' q, ⟨fun b u w => ?_, g.hh, fun b u w => ?_, fun b w m => ?_⟩, by simp, ?_⟩
    · have : b ≠ p := ne_of_none w fp
      show (if b = p then none else _) = _
      rw [if_neg this]
      exact g2.ff b u w
    · have w : (if b = p then none else keepOff F H H' b) = some u := w
      split at w
      · cases w
      · exact g2.fh b u w
    · show (if b = p then none else _) = _
      split
      · rfl
      · exact g2.own b w m
    · refine dpAll_cut (H := H') (fun b u w nm => ?_) ds z.1 (ha.mono g.fh)
      have : b ≠ p := fun y => by
        subst y
        rw [hh] at w
        cases w
        exact nm trivial
      show (if b = p then none else _) = _
      rw [if_neg this]
      exact keepOff_keep g.hh b u w nm
  obtain ⟨F2, g3, f3, a3⟩ := F2
  exact k p vs ds F2 H' g3 hp f3 hh a3 z.2

/-! ### names, constants -/
def dVar (i : Nat) : RE := fun ρ q => match ρ[i]? with | some (some (.val d)) => q d | _ => False
def bVar (i : Nat) : RE := fun ρ q => match ρ[i]? with | some (some (.val d)) => q d | some (some (.own ds)) => q (.list ds) | _ => False
theorem dv (i : Nat) {x : Str} (hN : X.N[i]? = some x := by rfl) (hv : Vis X.env.scope x := by first | exact Or.inl rfl | exact Or.inr (Or.inl rfl) | exact Or.inr (Or.inr rfl)) (hd : (x == ("__debug__" : Str)) = false := by decide)
    (hcd : (x == ("__classdict__" : Str)) = false := by decide) : DE X (.Name x pos) (dVar i) := by
  refine ⟨_, pe_var hN hv hd hcd, fun B F H ρ σ E q hq Q k => ?_⟩
  unfold dVar at hq
  split at hq
  · rename_i d e
    obtain ⟨v, h1, h2⟩ := E.at' i _ e
    exact ⟨v, h1, k v d F H (Gr.refl E.fh) h2 hq⟩
  · exact hq.elim
theorem bv (i : Nat) {x : Str} (hN : X.N[i]? = some x := by rfl) (hv : Vis X.env.scope x := by first | exact Or.inl rfl | exact Or.inr (Or.inl rfl) | exact Or.inr (Or.inr rfl)) (hd : (x == ("__debug__" : Str)) = false := by decide)
    (hcd : (x == ("__classdict__" : Str)) = false := by decide) : DB X (.Name x pos) (bVar i) := by
  refine ⟨_, pe_var hN hv hd hcd, fun B F H ρ σ E q hq Q k => ?_⟩
  unfold bVar at hq
  split at hq
  · rename_i d e
    obtain ⟨v, h1, h2⟩ := E.at' i _ e
    exact ⟨v, h1, k v d F H (Gr.refl E.fh) (.inl h2) hq⟩
  · rename_i ds e
    obtain ⟨v, h1, p, vs, rfl, f0, f1, f2, f3⟩ := E.at' i _ e
    exact ⟨.ref p, h1, k (.ref p) (.list ds) F H (Gr.refl E.fh) (.inr ⟨p, vs, ds, rfl, rfl, .inl (.inl f2), f3⟩) hq⟩
  · exact hq.elim
def dC (d : D) : RE := fun _ q => q d
theorem de_int {i j} : DE X (.Constant (.int i) j pos) (dC (.int i)) := ⟨_, pe_int, fun B F H ρ σ E q hq Q k => k _ _ F H (Gr.refl E.fh) (.int _) hq⟩
theorem de_bl {i j} : DE X (.Constant (.bool i) j pos) (dC (.bool i)) := ⟨_, pe_bl, fun B F H ρ σ E q hq Q k => k _ _ F H (Gr.refl E.fh) (.bl _) hq⟩
theorem de_non {j} : DE X (.Constant .none j pos) (dC .none) := ⟨_, pe_non, fun B F H ρ σ E q hq Q k => k _ _ F H (Gr.refl E.fh) .non hq⟩
theorem de_str {i j} : DE X (.Constant (.str i) j pos) (dC (.str i)) := ⟨_, pe_str, fun B F H ρ σ E q hq Q k => k _ _ F H (Gr.refl E.fh) (.str _) hq⟩

/-! ### operators -/
abbrev G2 := D → D → (D → Prop) → Prop
abbrev G1 := D → (D → Prop) → Prop
abbrev GA := List D → (D → Prop) → Prop
/-- what an operator's reading gives over data -/
def Sim2 (K : Frag) (r : R2) (g : G2) : Prop := ∀ (F H : Hp) (v u : V) (x y : D), Same F H → Bor K F H v x → Bor K F H u y → ∀ q : D → Prop, g x y q → ∀ Q : VK, (∀ w d F' H', Gr F H F' H' → Dp K F' w d → q d → Q w H') → r v u H Q
def Sim1 (K : Frag) (r : V → Hp → VK → Prop) (g : G1) : Prop := ∀ (F H : Hp) (v : V) (x : D), Same F H → Bor K F H v x → ∀ q : D → Prop, g x q → ∀ Q : VK, (∀ w d F' H', Gr F H F' H' → Dp K F' w d → q d → Q w H') → r v H Q
def SimC (K : Frag) (r : List V → Hp → VK → Prop) (g : GA) : Prop := ∀ (F H : Hp) (vs : List V) (xs : List D), Same F H → BorAll K F H vs xs → ∀ q : D → Prop, g xs q → ∀ Q : VK, (∀ w d F' H', Gr F H F' H' → Dp K F' w d → q d → Q w H') → r vs H Q
/-- .. a new list -/
def SimCL (K : Frag) (r : List V → Hp → VK → Prop) (g : List D → (List D → Prop) → Prop) : Prop := ∀ (F H : Hp) (vs : List V) (xs : List D), Same F H → BorAll K F H vs xs → ∀ q : List D → Prop, g xs q → ∀ Q : VK,
  (∀ p us ds F' H', Gr F H F' H' → H p = none → F' p = none → H' p = some (.lst us) → DpAll K F' us ds → q ds → Q (.ref p) H') → r vs H Q
def Sim2L (K : Frag) (r : R2) (g : D → D → (List D → Prop) → Prop) : Prop := ∀ (F H : Hp) (v u : V) (x y : D), Same F H → Bor K F H v x → Bor K F H u y → ∀ q : List D → Prop, g x y q → ∀ Q : VK,
  (∀ p us ds F' H', Gr F H F' H' → H p = none → F' p = none → H' p = some (.lst us) → DpAll K F' us ds → q ds → Q (.ref p) H') → r v u H Q
def OpD (X : Cx) (f : Value → Value → Sem Value) (g : G2) : Prop := ∃ r, OpR X f r ∧ Sim2 X.K r g
def OpL (X : Cx) (f : Value → Value → Sem Value) (g : D → D → (List D → Prop) → Prop) : Prop := ∃ r, OpR X f r ∧ Sim2L X.K r g
def IxD (X : Cx) (g : G2) : Prop := ∃ r, IxR X r ∧ Sim2 X.K r g
def UnD (X : Cx) (f : Value → Sem Value) (g : G1) : Prop := ∃ r, UnR X f r ∧ Sim1 X.K r g
def CallD (X : Cx) (f : Value) (g : GA) : Prop := ∃ r, CallR X f r ∧ SimC X.K r g
def CallL (X : Cx) (f : Value) (g : List D → (List D → Prop) → Prop) : Prop := ∃ r, CallR X f r ∧ SimCL X.K r g
def d2 (g : G2) (da db : RE) : RE := fun ρ q => da ρ fun x => db ρ fun y => g x y q
def d1 (g : G1) (da : RE) : RE := fun ρ q => da ρ fun x => g x q
def l2 (g : D → D → (List D → Prop) → Prop) (da db : RE) : RL := fun ρ q => da ρ fun x => db ρ fun y => g x y q
theorem sim_two {K : Frag} {ta tb : TE} {r : R2} {g : G2} (ha : SimB K ta da) (hb : SimB K tb db) (hr : Sim2 K r g) : SimE K (tOp r ta tb) (d2 g da db) := fun B F H ρ σ E q hq Q k =>
  ha B F H ρ σ E _ hq _ fun v x F1 H1 g1 r1 z1 => hb B F1 H1 ρ σ (E.grow g1) _ z1 _ fun u y F2 H2 g2 r2 z2 =>
    hr F2 H2 v u x y g2.fh (r1.grow g2) r2 q z2 Q fun w d F3 H3 g3 r3 z3 => k w d F3 H3 ((g1.trans g2).trans g3) r3 z3
theorem de_op {op : Operator} {g : G2} (ho : OpD X (binaryOp op) g) (ha : DB X a da) (hb : DB X b db) : DE X (.BinOp a op b pos) (d2 g da db) := by
  obtain ⟨r, o1, o2⟩ := ho
  obtain ⟨ta, a1, a2⟩ := ha
  obtain ⟨tb, b1, b2⟩ := hb
  exact ⟨_, pe_op o1 a1 b1, sim_two a2 b2 o2⟩
theorem dl_op {op : Operator} {g : D → D → (List D → Prop) → Prop} (ho : OpL X (binaryOp op) g) (ha : DB X a da) (hb : DB X b db) : DLs X (.BinOp a op b pos) (l2 g da db) := by
  obtain ⟨r, o1, o2⟩ := ho
  obtain ⟨ta, a1, a2⟩ := ha
  obtain ⟨tb, b1, b2⟩ := hb
  refine ⟨_, pe_op o1 a1 b1, fun B F H ρ σ E q hq Q k =>
    a2 B F H ρ σ E _ hq _ fun v x F1 H1 g1 r1 z1 => b2 B F1 H1 ρ σ (E.grow g1) _ z1 _ fun u y F2 H2 g2 r2 z2 =>
      o2 F2 H2 v u x y g2.fh (r1.grow g2) r2 q z2 Q fun p us ds F3 H3 g3 hp hf hh r3 z3 => k p us ds F3 H3 ((g1.trans g2).trans g3) ((g1.trans g2).hh.free hp) hf hh r3 z3⟩
theorem de_ix {g : G2} (ho : IxD X g) (ha : DB X a da) (hb : DB X b db) (hs : PlainIx b := by exact fun _ _ => rfl) : DE X (.Subscript a b pos) (d2 g da db) := by
  obtain ⟨r, o1, o2⟩ := ho
  obtain ⟨ta, a1, a2⟩ := ha
  obtain ⟨tb, b1, b2⟩ := hb
  exact ⟨_, pe_ix o1 a1 b1 hs, sim_two a2 b2 o2⟩
theorem de_cmp {op : CmpOp} {g : G2} (ho : OpD X (compareOp op) g) (ha : DB X a da) (hb : DB X b db) (hm : behindInMarks op b = false := by first | exact nomark _ | rfl) : DE X (.Compare a [op] [b] pos) (d2 g da db) := by
  obtain ⟨r, o1, o2⟩ := ho
  obtain ⟨ta, a1, a2⟩ := ha
  obtain ⟨tb, b1, b2⟩ := hb
  exact ⟨_, pe_cmpR o1 a1 b1 hm, sim_two a2 b2 o2⟩
/-- a value that is True or False -/
def tBool (de : RE) : RT := fun ρ q => de ρ fun d => match d with | .bool k => q k | _ => False
theorem sim_bool {K : Frag} {te : TE} (h : SimE K te de) : SimT K (tTest te) (tBool de) := fun B F H ρ σ E q hq Q k =>
  h B F H ρ σ E _ hq _ fun v d F' H' g r z => by
    cases d with
    | bool b =>
      cases r
      exact ⟨b, rfl, k b F' H' g z⟩
    | none => exact z.elim
    | int _ => exact z.elim
    | str _ => exact z.elim
    | list _ => exact z.elim
    | tuple _ => exact z.elim
    | dict _ => exact z.elim
theorem dt_cmp {op : CmpOp} {g : G2} (ho : OpD X (compareOp op) g) (ha : DB X a da) (hb : DB X b db) (hm : behindInMarks op b = false := by first | exact nomark _ | rfl) : DT X (.Compare a [op] [b] pos) (tBool (d2 g da db)) := by
  obtain ⟨r, o1, o2⟩ := ho
  obtain ⟨ta, a1, a2⟩ := ha
  obtain ⟨tb, b1, b2⟩ := hb
  exact ⟨_, pt_cmpR o1 a1 b1 hm, sim_bool (sim_two a2 b2 o2)⟩
theorem de_un {op : UnaryOp} {g : G1} (ho : UnD X (unaryOp op) g) (ha : DB X a da) : DE X (.UnaryOp op a pos) (d1 g da) := by
  obtain ⟨r, o1, o2⟩ := ho
  obtain ⟨ta, a1, a2⟩ := ha
  exact ⟨_, pe_un o1 a1, fun B F H ρ σ E q hq Q k => a2 B F H ρ σ E _ hq _ fun v x F1 H1 g1 r1 z1 => o2 F1 H1 v x g1.fh r1 q z1 Q fun w d F3 H3 g3 r3 z3 => k w d F3 H3 (g1.trans g3) r3 z3⟩

/-! ### argument lists, displays -/
def dNil : RL := fun _ q => q []
def dCons (da : RE) (dr : RL) : RL := fun ρ q => da ρ fun x => dr ρ fun xs => q (x :: xs)
theorem da_nil : DA X [] dNil := ⟨_, pa_nil, fun B F H ρ σ E q hq Q k => k [] [] F H (Gr.refl E.fh) .nil rfl hq⟩
theorem da_cons {dr : RL} (ha : DE X a da) (hr : DA X es dr) (hs : starEach (a :: es) X.env = (false, eval a X.env) :: starEach es X.env := by rfl) : DA X (a :: es) (dCons da dr) := by
  obtain ⟨ta, a1, a2⟩ := ha
  obtain ⟨tr, r1, r2⟩ := hr
  exact ⟨_, pa_cons a1 r1 hs, fun B F H ρ σ E q hq Q k => a2 B F H ρ σ E _ hq _ fun v x F1 H1 g1 d1 z1 => r2 B F1 H1 ρ σ (E.grow g1) _ z1 _ fun vs xs F2 H2 g2 d2 ln z2 =>
    k (v :: vs) (x :: xs) F2 H2 (g1.trans g2) (.cons (d1.mono g2.ff) d2) (by rw [List.length_cons, List.length_cons, ln]) z2⟩
theorem ab_nil : DAB X [] dNil := ⟨_, pa_nil, fun B F H ρ σ E q hq Q k => k [] [] F H (Gr.refl E.fh) .nil hq⟩
theorem ab_cons {dr : RL} (ha : DB X a da) (hr : DAB X es dr) (hs : starEach (a :: es) X.env = (false, eval a X.env) :: starEach es X.env := by rfl) : DAB X (a :: es) (dCons da dr) := by
  obtain ⟨ta, a1, a2⟩ := ha
  obtain ⟨tr, r1, r2⟩ := hr
  exact ⟨_, pa_cons a1 r1 hs, fun B F H ρ σ E q hq Q k => a2 B F H ρ σ E _ hq _ fun v x F1 H1 g1 d1 z1 => r2 B F1 H1 ρ σ (E.grow g1) _ z1 _ fun vs xs F2 H2 g2 d2 z2 =>
    k (v :: vs) (x :: xs) F2 H2 (g1.trans g2) (.cons (d1.grow g2) d2) z2⟩
/-- (a, b, ..) -/
def dTup (da : RL) : RE := fun ρ q => da ρ fun xs => q (.tuple xs)
theorem de_tup {x1 : _} {da' : RL} (h : DA X es da') (hl : es.length ≤ sizeLine := by (show _ ≤ sizeLine; rw [sizeLine_eq]; decide)) : DE X (.Tuple es x1 pos) (dTup da') := by
  obtain ⟨ta, a1, a2⟩ := h
  refine ⟨_, pe_tup a1, fun B F H ρ σ E q hq Q k => a2 B F H ρ σ E _ hq _ fun vs xs F1 H1 g1 d1 ln z1 => ⟨by rw [d1.length, ln]; exact hl, fun p hp => ?_⟩⟩
  have g2 := Gr.new (o := .tup vs) g1.fh hp
  exact k (.ref p) (.tuple xs) _ _ (g1.trans g2) (.tup (.inl (.inl upd_same)) (d1.mono g2.ff)) z1
theorem dl_lst {da' : RL} (h : DA X es da') (hl : es.length ≤ sizeLine := by (show _ ≤ sizeLine; rw [sizeLine_eq]; decide)) : DLs X (.List es pos) da' := by
  obtain ⟨ta, a1, a2⟩ := h
  refine ⟨_, pe_lst a1, fun B F H ρ σ E q hq Q k => a2 B F H ρ σ E _ hq _ fun vs xs F1 H1 g1 d1 ln z1 => ⟨by rw [d1.length, ln]; exact hl, fun p hp => ?_⟩⟩
  have g2 := Gr.newO (o := .lst vs) g1.fh hp
  exact k p vs xs _ _ (g1.trans g2) (g1.hh.free hp) (g1.fh.free hp) upd_same d1 z1
end
end DL

namespace DL
open PySem PySem.Spec PyProof.Rows L2
section
variable {X : Cx}
theorem OpD.or {f : Value → Value → Sem Value} {g g' h : G2} (a : OpD X f g) (b : OpD X f g') (e : ∀ x y q, h x y q → g x y q ∨ g' x y q) : OpD X f h := by
  obtain ⟨r, h1, h2⟩ := a
  obtain ⟨r', h1', h2'⟩ := b
  refine ⟨_, h1.or h1', fun F H v u x y fh bx bY q hq Q k => ?_⟩
  rcases e x y q hq with z | z
  · exact .inl (h2 F H v u x y fh bx bY q z Q k)
  · exact .inr (h2' F H v u x y fh bx bY q z Q k)
theorem OpD.imp {f : Value → Value → Sem Value} {g h : G2} (a : OpD X f g) (e : ∀ x y q, h x y q → g x y q) : OpD X f h := by
  obtain ⟨r, h1, h2⟩ := a
  exact ⟨r, h1, fun F H v u x y fh bx bY q hq Q k => h2 F H v u x y fh bx bY q (e x y q hq) Q k⟩

/-! ### whole numbers -/
def gI (C : Int → Int → Prop) (g : Int → Int → D) : G2 := fun x y q => match x, y with | .int i, .int j => C i j ∧ q (g i j) | _, _ => False
theorem gI_ok {C : Int → Int → Prop} {g : Int → Int → D} {x y : D} {q : D → Prop} (h : gI C g x y q) : ∃ i j, x = .int i ∧ y = .int j ∧ C i j ∧ q (g i j) := by
  unfold gI at h
  split at h
  · exact ⟨_, _, rfl, rfl, h⟩
  · exact h.elim
/-- a result without objects -/
def Flat : V → D → Prop
  | .non, .none => True | .bl b, .bool c => b = c | .int i, .int j => i = j | .str x, .str y => x = y
  | _, _ => False
theorem Flat.dp {K : Frag} {H : Hp} {v : V} {d : D} (h : Flat v d) : Dp K H v d := by
  cases v <;> cases d <;> first | exact h.elim | (cases h; constructor)
theorem opd_I {f : Value → Value → Sem Value} {C : Int → Int → Prop} {g : Int → Int → V} {gd : Int → Int → D} (h : OpR X f (rI C g)) (e : ∀ i j, Flat (g i j) (gd i j)) : OpD X f (gI C gd) := by
  refine ⟨_, h, fun F H v u x y fh bx bY q hq Q k => ?_⟩
  obtain ⟨i, j, rfl, rfl, c, z⟩ := gI_ok hq
  exact ⟨i, j, bx.int, bY.int, c, k _ _ F H (Gr.refl fh) (e i j).dp z⟩
theorem opd_I0 {f : Value → Value → Sem Value} {g : Int → Int → V} {gd : Int → Int → D} (h : OpR X f (rI0 g)) (e : ∀ i j, Flat (g i j) (gd i j)) : OpD X f (gI (fun _ _ => True) gd) := by
  refine ⟨_, h, fun F H v u x y fh bx bY q hq Q k => ?_⟩
  obtain ⟨i, j, rfl, rfl, c, z⟩ := gI_ok hq
  exact ⟨i, j, bx.int, bY.int, k _ _ F H (Gr.refl fh) (e i j).dp z⟩
theorem op_mulZ : OpR X (binaryOp .Mult) (rI MulOk fun i j => .int (i * j)) := opI fun _ _ _ _ _ _ _ hc q => mul_int q hc.ok
theorem op_fdivZ : OpR X (binaryOp .FloorDiv) (rI CDivZ fun i j => .int (i.fdiv j)) := opI fun i j _ _ _ _ _ hc q => floordiv_int hc.nz q (.inl hc.np)
def gSubI : G2 := gI (fun _ _ => True) fun i j => .int (i - j)
def gMulI : G2 := gI MulOk fun i j => .int (i * j)
def gFdiv : G2 := gI CDivZ fun i j => .int (i.fdiv j)
def gMod : G2 := gI (fun _ j => j ≠ 0) fun i j => .int (i.fmod j)
def gPow : G2 := gI PowOk fun i j => .int (i ^ j.toNat)
def gShl : G2 := gI ShlOk fun i j => .int (i * 2 ^ j.toNat)
def gShr : G2 := gI (fun _ j => 0 ≤ j) fun i j => .int (i / 2 ^ j.toNat)
theorem o_sub : OpD X (binaryOp .Sub) gSubI := opd_I0 op_sub fun _ _ => rfl
theorem o_mulI : OpD X (binaryOp .Mult) gMulI := opd_I op_mulZ fun _ _ => rfl
theorem o_mul : OpD X (binaryOp .Mult) gMulI := o_mulI
theorem o_fdiv : OpD X (binaryOp .FloorDiv) gFdiv := opd_I op_fdivZ fun _ _ => rfl
theorem o_mod : OpD X (binaryOp .Mod) gMod := opd_I op_modN fun _ _ => rfl
theorem rI_imp {f : Value → Value → Sem Value} {C C' : Int → Int → Prop} {g : Int → Int → V} (h : OpR X f (rI C g)) (e : ∀ i j, C' i j → C i j) : OpR X f (rI C' g) := fun pins s σ H x y v u Q I rx ry ⟨i, j, e1, e2, c, q⟩ => h pins s σ H x y v u Q I rx ry ⟨i, j, e1, e2, e i j c, q⟩
theorem o_pow : OpD X (binaryOp .Pow) gPow := opd_I (rI_imp op_pow fun _ _ (c : PowOk _ _) => c.ok) fun _ _ => rfl
theorem o_shl : OpD X (binaryOp .LShift) gShl := opd_I (rI_imp op_shlW fun _ _ (c : ShlOk _ _) => c.ok) fun _ _ => rfl
theorem o_shr : OpD X (binaryOp .RShift) gShr := opd_I op_shr fun _ _ => rfl
def gAnd : G2 := gI (fun _ _ => True) fun i j => .int (Builtin.bitAnd i j)
theorem o_and : OpD X (binaryOp .BitAnd) gAnd := opd_I0 op_and fun _ _ => rfl
def gXor : G2 := gI (fun _ _ => True) fun i j => .int (Builtin.bitXor i j)
theorem o_xor : OpD X (binaryOp .BitXor) gXor := opd_I0 op_xor fun _ _ => rfl
def gLt : G2 := gI (fun _ _ => True) fun i j => .bool (decide (i < j))
def gLe : G2 := gI (fun _ _ => True) fun i j => .bool (decide (i ≤ j))
def gGt : G2 := gI (fun _ _ => True) fun i j => .bool (decide (j < i))
def gGe : G2 := gI (fun _ _ => True) fun i j => .bool (decide (j ≤ i))
theorem o_lt : OpD X (compareOp .Lt) gLt := opd_I0 op_lt fun _ _ => rfl
theorem o_le : OpD X (compareOp .LtE) gLe := opd_I0 op_le fun _ _ => rfl
theorem o_gt : OpD X (compareOp .Gt) gGt := opd_I0 op_gt fun _ _ => rfl
theorem o_ge : OpD X (compareOp .GtE) gGe := opd_I0 op_ge fun _ _ => rfl

/-! ### + of texts, tuples, lists -/
def gCatS : G2 := fun x y q => match x, y with | .str i, .str j => Fit (i.length + j.length) ∧ q (.str (i ++ j)) | _, _ => False
theorem o_catS : OpD X (binaryOp .Add) gCatS := by
  refine ⟨_, op_add_str, fun F H v u x y fh bx bY q hq Q k => ?_⟩
  unfold gCatS at hq
  split at hq
  · exact ⟨_, _, bx.str, bY.str, hq.1.le, k _ _ F H (Gr.refl fh) (.str _) hq.2⟩
  · exact hq.elim
def gCatT : G2 := fun x y q => match x, y with | .tuple xs, .tuple ys => Fit (xs.length + ys.length) ∧ q (.tuple (xs ++ ys)) | _, _ => False
theorem o_catT : OpD X (binaryOp .Add) gCatT := by
  refine ⟨_, op_catA, fun F H v u x y fh bx bY q hq Q k => ?_⟩
  unfold gCatT at hq
  split at hq
  · rename_i xs ys
    obtain ⟨a, vs, rfl, f1, h1, d1⟩ := bx.tup fh
    obtain ⟨b, us, rfl, f2, h2, d2⟩ := bY.tup fh
    refine ⟨a, b, vs, us, rfl, rfl, h1, h2, by rw [d1.length, d2.length]; exact hq.1.le, fun e => ?_, fun _ e => ?_, fun _ _ p hp => ?_⟩
    · subst e
      cases d1
      exact k _ _ F H (Gr.refl fh) (.tup f2 d2) hq.2
    · subst e
      cases d2
      rw [List.append_nil] at hq
      exact k _ _ F H (Gr.refl fh) (.tup f1 d1) hq.2
    · have g := Gr.new (o := .tup (vs ++ us)) fh hp
      exact k _ _ _ _ g (.tup (.inl (.inl upd_same)) ((d1.append d2).mono g.ff)) hq.2
  · exact hq.elim
def rCatG (K : Frag) : R2 := fun x y H Q => ∃ l b xs zs, x = .ref l ∧ y = .ref b ∧ SqL K H l xs ∧ SqL K H b zs ∧ xs.length + zs.length ≤ sizeLine ∧ ∀ p, H p = none → Q (.ref p) (upd H p (.lst (xs ++ zs)))
theorem op_catG : OpR X (binaryOp .Add) (rCatG X.K) := by
  intro pins s σ H x y v u Q I rx ry h
  obtain ⟨l, b, xs, zs, rfl, rfl, hH, hB, hz, q⟩ := h
  cases rx
  cases ry
  obtain ⟨its, r, ⟨⟨cls, dd, data, sl⟩, n, ho, hc, hd0, hd⟩, hs⟩ := I.list hH
  obtain ⟨its2, r2, ⟨⟨cls2, dd2, data2, sl2⟩, n2, ho2, hc2, hd02, hd2⟩, hs2⟩ := I.list hB
  simp only at hc hd hd0 hc2 hd2 hd02
  subst hc hd hd0 hc2 hd2 hd02
  have ea : its.toArray ++ its2.toArray = (its ++ its2).toArray := by simp
  refine concat_meets ⟨_, ho, rfl⟩ ⟨_, ho2, rfl⟩ noFill_list_add seq_list_add PySem.F.slot_list_add PySem.F.entry_list_add (PySem.F.args_list_add_2 _ _) (list_addW l b its.toArray its2.toArray n n2 none none sl sl2 (by
    have := r.length
    have := r2.length
    simp only [List.size_toArray]
    omega)) ⟨ho, ho2, ?_⟩
  rw [ea]
  exact ⟨.ref _, _, I.lnew (t' := s.toks) (r.append r2) (by rw [List.length_append]; omega), rfl, q _ I.fresh⟩
def lCat : D → D → (List D → Prop) → Prop := fun x y q => match x, y with | .list xs, .list ys => Fit (xs.length + ys.length) ∧ q (xs ++ ys) | _, _ => False
theorem o_catL : OpL X (binaryOp .Add) lCat := by
  refine ⟨_, op_catG, fun F H v u x y fh bx bY q hq Q k => ?_⟩
  unfold lCat at hq
  split at hq
  · rename_i xs ys
    obtain ⟨a, vs, rfl, h1, d1⟩ := bx.lst fh
    obtain ⟨b, us, rfl, h2, d2⟩ := bY.lst fh
    refine ⟨a, b, vs, us, rfl, rfl, h1, h2, by rw [d1.length, d2.length]; exact hq.1.le, fun p hp => ?_⟩
    exact k _ _ _ _ _ (Gr.newO fh hp) hp (fh.free hp) upd_same (d1.append d2) hq.2
  · exact hq.elim
/-- a new list as data -/
def toG (g : D → D → (List D → Prop) → Prop) : G2 := fun x y q => g x y fun ds => q (.list ds)
theorem gr_frz {F H F' H' : Hp} {p : Addr} {us : List V} (g : Gr F H F' H') (hp : H p = none) (hf : F' p = none) (hh : H' p = some (.lst us)) : Gr F H (upd F' p (.lst us)) H' := by
  refine ⟨g.ff.trans (same_new hf), g.hh, fun b u w => ?_, fun q hq m => ?_⟩
  · by_cases hb : b = p
    · subst hb
      rw [upd_same] at w
      cases w
      exact hh
    · rw [upd_ne hb] at w
      exact g.fh b u w
  · have : q ≠ p := fun w => by
      rw [w, hp] at m
      exact m
    rw [upd_ne this]
    exact g.own q hq m
theorem OpL.d {f : Value → Value → Sem Value} {g : D → D → (List D → Prop) → Prop} (h : OpL X f g) : OpD X f (toG g) := by
  obtain ⟨r, h1, h2⟩ := h
  refine ⟨r, h1, fun F H v u x y fh bx bY q hq Q k => h2 F H v u x y fh bx bY _ hq Q fun p us ds F' H' g hp hf hh ha z => ?_⟩
  exact k (.ref p) (.list ds) _ _ (gr_frz g hp hf hh) (.lst (.inl (.inl upd_same)) (ha.mono (same_new hf))) z
/-- + of whole numbers, texts, tuples, lists -/
def gAdd : G2 := fun x y q => match x, y with
  | .int i, .int j => q (.int (i + j))
  | .str i, .str j => Fit (i.length + j.length) ∧ q (.str (i ++ j))
  | .tuple xs, .tuple ys => Fit (xs.length + ys.length) ∧ q (.tuple (xs ++ ys))
  | .list xs, .list ys => Fit (xs.length + ys.length) ∧ q (.list (xs ++ ys))
  | _, _ => False
theorem o_add : OpD X (binaryOp .Add) gAdd :=
  (opd_I0 (gd := fun i j => .int (i + j)) op_add fun _ _ => rfl).or ((o_catS.or (g := gCatS) (o_catT.or (g := gCatT) (h := fun x y q => gCatT x y q ∨ toG lCat x y q) o_catL.d fun _ _ _ z => z) (h := fun x y q => gCatS x y q ∨ (gCatT x y q ∨ toG lCat x y q)) fun _ _ _ z => z)) fun x y q h => by
    unfold gAdd at h
    split at h
    · exact .inl ⟨trivial, h⟩
    · exact .inr (.inl h)
    · exact .inr (.inr (.inl h))
    · exact .inr (.inr (.inr h))
    · exact h.elim

/-! ### * of lists, tuples -/
def lRep : D → D → (List D → Prop) → Prop := fun x y q => match x, y with | .list xs, .int k => (-(2 ^ 63) ≤ k ∧ k < 2 ^ 63 ∧ Fit (xs.length * k.toNat)) ∧ q (List.replicate k.toNat xs).flatten | _, _ => False
def rRepG (K : Frag) : R2 := fun x y H Q => ∃ l k xs, x = .ref l ∧ y = .int k ∧ H l = some (.lst xs) ∧ -(2 ^ 63) ≤ k ∧ k < 2 ^ 63 ∧ xs.length * k.toNat ≤ sizeLine ∧
  ∀ p, H p = none → Q (.ref p) (upd H p (.lst (List.replicate k.toNat xs).flatten))

/-! ### == -/
def eqOk : D → D → Bool
  | .str _, .str _ => true
  | x, y => SeqAt.shaped x && SeqAt.shaped y
theorem eqOk_ii (i j : Int) : eqOk (.int i) (.int j) = true := by simp [eqOk, SeqAt.shaped, PyData.canLay0, PyData.depth]
theorem eqOk_bb (i j : Bool) : eqOk (.bool i) (.bool j) = true := by simp [eqOk, SeqAt.shaped, PyData.canLay0, PyData.depth]
theorem eqOk_ss (i j : Str) : eqOk (.str i) (.str j) = true := rfl
def gEq : G2 := fun x y q => eqOk x y = true ∧ q (.bool (PyData.eqv x y))
def gNe : G2 := fun x y q => eqOk x y = true ∧ q (.bool (!PyData.eqv x y))
theorem eqOk_or {x y : D} (h : eqOk x y = true) : (SeqAt.shaped x = true ∧ SeqAt.shaped y = true) ∨ ∃ i j, x = .str i ∧ y = .str j := by
  unfold eqOk at h
  split at h
  · exact .inr ⟨_, _, rfl, rfl⟩
  · rw [Bool.and_eq_true] at h
    exact .inl h
theorem eqv_ss (i j : Str) : PyData.eqv (.str i) (.str j) = decide (V.str i = V.str j) := by rw [dec_str]; simp [PyData.eqv]
theorem o_eq (hu : X.A.units + 64 < cLine) : OpD X (compareOp .Eq) gEq := by
  refine ⟨_, (op_eqD hu).or op_eq, fun F H v u x y fh bx bY q hq Q k => ?_⟩
  rcases eqOk_or hq.1 with ⟨h1, h2⟩ | ⟨i, j, rfl, rfl⟩
  · exact .inl ⟨x, y, bx.dp fh, bY.dp fh, h1, h2, k _ _ F H (Gr.refl fh) (.bl _) hq.2⟩
  · cases bx.str
    cases bY.str
    refine .inr ⟨rfl, ?_⟩
    rw [← eqv_ss]
    exact k _ _ F H (Gr.refl fh) (.bl _) hq.2
theorem o_ne (hu : X.A.units + 64 < cLine) : OpD X (compareOp .NotEq) gNe := by
  refine ⟨_, (op_neD hu).or op_ne, fun F H v u x y fh bx bY q hq Q k => ?_⟩
  rcases eqOk_or hq.1 with ⟨h1, h2⟩ | ⟨i, j, rfl, rfl⟩
  · exact .inl ⟨x, y, bx.dp fh, bY.dp fh, h1, h2, k _ _ F H (Gr.refl fh) (.bl _) hq.2⟩
  · cases bx.str
    cases bY.str
    refine .inr ⟨rfl, ?_⟩
    rw [← eqv_ss]
    exact k _ _ F H (Gr.refl fh) (.bl _) hq.2

/-! ### is -/
def isNone : D → Bool
  | .none => true
  | _ => false
theorem dp_isNone {K : Frag} {H : Hp} {v : V} {d : D} (h : Dp K H v d) : decide (v = .non) = isNone d := by
  cases h <;> rfl
def gIsN : G2 := fun x y q => match y with | .none => q (.bool (isNone x)) | _ => False
def gNotN : G2 := fun x y q => match y with | .none => q (.bool (!isNone x)) | _ => False
theorem o_isN : OpD X (compareOp .Is) gIsN := by
  refine ⟨_, op_isN, fun F H v u x y fh bx bY q hq Q k => ?_⟩
  unfold gIsN at hq
  split at hq
  · refine ⟨bY.non, ?_⟩
    rw [dp_isNone (bx.dp fh)]
    exact k _ _ F H (Gr.refl fh) (.bl _) hq
  · exact hq.elim
theorem o_notN : OpD X (compareOp .IsNot) gNotN := by
  refine ⟨_, op_notN, fun F H v u x y fh bx bY q hq Q k => ?_⟩
  unfold gNotN at hq
  split at hq
  · refine ⟨bY.non, ?_⟩
    rw [dp_isNone (bx.dp fh)]
    exact k _ _ F H (Gr.refl fh) (.bl _) hq
  · exact hq.elim
def gIsB : G2 := fun x y q => match x, y with | .bool a, .bool b => q (.bool (decide (a = b))) | _, _ => False
def gNotB : G2 := fun x y q => match x, y with | .bool a, .bool b => q (.bool (!decide (a = b))) | _, _ => False
theorem o_isB : OpD X (compareOp .Is) gIsB := by
  refine ⟨_, op_is_bl, fun F H v u x y fh bx bY q hq Q k => ?_⟩
  unfold gIsB at hq
  split at hq
  · exact ⟨_, _, bx.bl, bY.bl, k _ _ F H (Gr.refl fh) (.bl _) hq⟩
  · exact hq.elim
theorem o_notB : OpD X (compareOp .IsNot) gNotB := by
  refine ⟨_, op_isnot_bl, fun F H v u x y fh bx bY q hq Q k => ?_⟩
  unfold gNotB at hq
  split at hq
  · exact ⟨_, _, bx.bl, bY.bl, k _ _ F H (Gr.refl fh) (.bl _) hq⟩
  · exact hq.elim
/-- is: None, True, False on the right -/
def gIs : G2 := fun x y q => match y with | .none => q (.bool (isNone x)) | .bool b => (match x with | .bool a => q (.bool (decide (a = b))) | _ => False) | _ => False
def gIsNot : G2 := fun x y q => match y with | .none => q (.bool (!isNone x)) | .bool b => (match x with | .bool a => q (.bool (!decide (a = b))) | _ => False) | _ => False
theorem o_is : OpD X (compareOp .Is) gIs := o_isN.or o_isB fun x y q h => by
  cases y with
  | none => exact .inl h
  | bool b =>
    cases x with
    | bool a => exact .inr h
    | _ => exact h.elim
  | _ => exact h.elim
theorem o_isNot : OpD X (compareOp .IsNot) gIsNot := o_notN.or o_notB fun x y q h => by
  cases y with
  | none => exact .inl h
  | bool b =>
    cases x with
    | bool a => exact .inr h
    | _ => exact h.elim
  | _ => exact h.elim

/-! ### in: flat items -/
def flatD : D → Bool
  | .none => true
  | .bool _ => true
  | .int _ => true
  | .str _ => true
  | _ => false
theorem flat_dp {K : Frag} {H : Hp} {v : V} {d : D} (h : Dp K H v d) : flatV v = flatD d := by
  cases h <;> rfl
theorem flat_all {K : Frag} {H : Hp} : ∀ {vs : List V} {ds : List D}, DpAll K H vs ds → vs.all flatV = ds.all flatD
  | [], ds, h => by cases h; rfl
  | v :: vs, ds, h => by
    cases h with
    | cons h1 h2 => rw [List.all_cons, List.all_cons, flat_dp h1, flat_all h2]
theorem eqV_dp {K : Frag} {H : Hp} {v u : V} {d e : D} (h : Dp K H v d) (g : Dp K H u e) (f : flatD d = true) (f' : flatD e = true) : eqV v u = PyData.eqv d e := by
  cases h <;> cases g <;> first | (simp [flatD] at f; done) | (simp [flatD] at f'; done) | (simp [eqV, PyData.eqv]; done) | rfl
theorem inV_dp {K : Frag} {H : Hp} {v : V} {d : D} (h : Dp K H v d) (f : flatD d = true) : ∀ {vs : List V} {ds : List D}, DpAll K H vs ds → ds.all flatD = true → inV v vs = ds.any fun y => PyData.eqv y d
  | [], ds, h, _ => by cases h; rfl
  | w :: vs, ds, h', fa => by
    cases h' with
    | cons h1 h2 =>
      rw [List.all_cons, Bool.and_eq_true] at fa
      have := inV_dp h f h2 fa.2
      unfold inV at this ⊢
      rw [List.any_cons, List.any_cons, this, eqV_dp h1 h fa.1 f]
def inD (x : D) (ys : List D) : Bool := ys.any fun y => PyData.eqv y x
def gIn (neg : Bool) : G2 := fun x y q => match y with
  | .list ys => flatD x = true ∧ ys.all flatD = true ∧ q (.bool (if neg then !inD x ys else inD x ys))
  | .tuple ys => flatD x = true ∧ ys.all flatD = true ∧ q (.bool (if neg then !inD x ys else inD x ys))
  | _ => False
theorem sim_in {neg : Bool} : Sim2 X.K (rIn X.K neg) (gIn neg) := fun F H v u x y fh bx bY q hq Q k => by
  unfold gIn at hq
  split at hq
  · rename_i ys
    obtain ⟨a, vs, rfl, h1, d1⟩ := bY.lst fh
    have dx := bx.dp fh
    have d1 := d1.mono fh
    refine ⟨a, vs, rfl, .inl h1, by rw [flat_dp dx]; exact hq.1, by rw [flat_all d1]; exact hq.2.1, ?_⟩
    rw [inV_dp dx hq.1 d1 hq.2.1]
    exact k _ _ F H (Gr.refl fh) (.bl _) hq.2.2
  · rename_i ys
    obtain ⟨a, vs, rfl, _, h1, d1⟩ := bY.tup fh
    have dx := bx.dp fh
    have d1 := d1.mono fh
    refine ⟨a, vs, rfl, .inr h1, by rw [flat_dp dx]; exact hq.1, by rw [flat_all d1]; exact hq.2.1, ?_⟩
    rw [inV_dp dx hq.1 d1 hq.2.1]
    exact k _ _ F H (Gr.refl fh) (.bl _) hq.2.2
  · exact hq.elim
theorem o_in : OpD X (compareOp .In) (gIn false) := ⟨_, op_in_seq, sim_in⟩
theorem o_notIn : OpD X (compareOp .NotIn) (gIn true) := ⟨_, op_notIn_seq, sim_in⟩

/-! ### one-place -/
def gNeg : G1 := fun x q => match x with | .int i => q (.int (-i)) | _ => False
theorem u_neg : UnD X (unaryOp .USub) gNeg := by
  refine ⟨_, un_neg, fun F H v x fh bx q hq Q k => ?_⟩
  unfold gNeg at hq
  split at hq
  · exact ⟨_, bx.int, k _ _ F H (Gr.refl fh) (.int _) hq⟩
  · exact hq.elim

/-! ### items -/
def gIx : G2 := fun x y q => match x, y with
  | .list xs, .int i => (match atI xs i with | some d => q d | none => False)
  | .tuple xs, .int i => (match atI xs i with | some d => q d | none => False)
  | .str z, .int i => Fit z.length ∧ (match atI z.cps.toList i with | some c => q (.str ⟨#[c]⟩) | none => False)
  | _, _ => False
theorem atI_dp {K : Frag} {H : Hp} {vs : List V} {ds : List D} {i : Int} {d : D} (h : DpAll K H vs ds) (e : atI ds i = some d) : ∃ v, atI vs i = some v ∧ Dp K H v d := by
  unfold atI at e ⊢
  rw [h.length]
  cases q : ixN ds.length i with
  | none => rw [q] at e; cases e
  | some j =>
    rw [q] at e
    exact h.get e
theorem x_ix : IxD X gIx := by
  refine ⟨_, ix_seq, fun F H v u x y fh bx bY q hq Q k => ?_⟩
  unfold gIx at hq
  split at hq
  · split at hq
    · rename_i d e
      obtain ⟨a, vs, rfl, h1, d1⟩ := bx.lst fh
      obtain ⟨w, hw, r⟩ := atI_dp d1 e
      exact .inl ⟨a, vs, _, w, rfl, bY.int, h1, hw, k _ _ F H (Gr.refl fh) r hq⟩
    · exact hq.elim
  · split at hq
    · rename_i d e
      obtain ⟨a, vs, rfl, _, h1, d1⟩ := bx.tup fh
      obtain ⟨w, hw, r⟩ := atI_dp d1 e
      exact .inr (.inl ⟨a, vs, _, w, rfl, bY.int, h1, hw, k _ _ F H (Gr.refl fh) r hq⟩)
    · exact hq.elim
  · obtain ⟨hl, hq⟩ := hq
    split at hq
    · rename_i c e
      exact .inr (.inr ⟨_, _, c, bx.str, bY.int, hl.le, e, k _ _ F H (Gr.refl fh) (.str _) hq⟩)
    · exact hq.elim
  · exact hq.elim
end
end DL

namespace DL
open PySem PySem.Spec PyProof.Rows L2
section
variable {X : Cx}
theorem CallD.or {f : Value} {g g' h : GA} (a : CallD X f g) (b : CallD X f g') (e : ∀ x q, h x q → g x q ∨ g' x q) : CallD X f h := by
  obtain ⟨r, h1, h2⟩ := a
  obtain ⟨r', h1', h2'⟩ := b
  refine ⟨_, h1.or h1', fun F H v x fh bx q hq Q k => ?_⟩
  rcases e x q hq with z | z
  · exact .inl (h2 F H v x fh bx q z Q k)
  · exact .inr (h2' F H v x fh bx q z Q k)
theorem CallL.d {f : Value} {g : List D → (List D → Prop) → Prop} (h : CallL X f g) : CallD X f (fun x q => g x fun ds => q (.list ds)) := by
  obtain ⟨r, h1, h2⟩ := h
  refine ⟨r, h1, fun F H v x fh bx q hq Q k => h2 F H v x fh bx _ hq Q fun p us ds F' H' g hp hf hh ha z => ?_⟩
  exact k (.ref p) (.list ds) _ _ (gr_frz g hp hf hh) (.lst (.inl (.inl upd_same)) (ha.mono (same_new hf))) z

def gLen : GA := fun xs q => match xs with
  | [.list ys] => q (.int ys.length)
  | [.tuple ys] => q (.int ys.length)
  | [.str z] => Fit z.length ∧ q (.int z.length)
  | _ => False
theorem c_len : CallD X (.builtin "len") gLen := by
  refine ⟨_, call_len_seq.or call_len_str, fun F H vs xs fh bx q hq Q k => ?_⟩
  unfold gLen at hq
  split at hq
  · obtain ⟨v, rfl, b⟩ := bx.one
    obtain ⟨a, us, rfl, h1, d1⟩ := b.lst fh
    refine .inl ⟨a, us, rfl, .inl h1, ?_⟩
    rw [d1.length]
    exact k _ _ F H (Gr.refl fh) (.int _) hq
  · obtain ⟨v, rfl, b⟩ := bx.one
    obtain ⟨a, us, rfl, _, h1, d1⟩ := b.tup fh
    refine .inl ⟨a, us, rfl, .inr h1, ?_⟩
    rw [d1.length]
    exact k _ _ F H (Gr.refl fh) (.int _) hq
  · obtain ⟨v, rfl, b⟩ := bx.one
    exact .inr ⟨_, by rw [b.str], hq.1.le, k _ _ F H (Gr.refl fh) (.int _) hq.2⟩
  · exact hq.elim
def gInt : GA := fun xs q => match xs with
  | [.int i] => q (.int i)
  | [.bool b] => q (.int (if b then 1 else 0))
  | _ => False
theorem c_int : CallD X (.type "int") gInt := by
  refine ⟨_, call_int1, fun F H vs xs fh bx q hq Q k => ?_⟩
  unfold gInt at hq
  split at hq
  · obtain ⟨v, rfl, b⟩ := bx.one
    exact .inl ⟨_, by rw [b.int], k _ _ F H (Gr.refl fh) (.int _) hq⟩
  · obtain ⟨v, rfl, b⟩ := bx.one
    exact .inr ⟨_, by rw [b.bl], k _ _ F H (Gr.refl fh) (.int _) hq⟩
  · exact hq.elim
def gAbs : GA := fun xs q => match xs with
  | [.int i] => q (.int (if i < 0 then -i else i))
  | _ => False
theorem c_abs : CallD X (.builtin "abs") gAbs := by
  refine ⟨_, call_abs, fun F H vs xs fh bx q hq Q k => ?_⟩
  unfold gAbs at hq
  split at hq
  · obtain ⟨v, rfl, b⟩ := bx.one
    exact ⟨_, by rw [b.int], k _ _ F H (Gr.refl fh) (.int _) hq⟩
  · exact hq.elim
def gMax2 : GA := fun xs q => match xs with
  | [.int i, .int j] => q (.int (if j > i then j else i))
  | _ => False
theorem c_max2 (hc : X.calm = true := by rfl) : CallD X (.builtin "max") gMax2 := by
  refine ⟨_, call_max2 hc, fun F H vs xs fh bx q hq Q k => ?_⟩
  unfold gMax2 at hq
  split at hq
  · obtain ⟨v, u, rfl, b, c⟩ := bx.two
    exact ⟨_, _, by rw [b.int, c.int], k _ _ F H (Gr.refl fh) (.int _) hq⟩
  · exact hq.elim
def gMin2 : GA := fun xs q => match xs with
  | [.int i, .int j] => q (.int (if j < i then j else i))
  | _ => False
theorem c_min2 (hc : X.calm = true := by rfl) : CallD X (.builtin "min") gMin2 := by
  refine ⟨_, call_min2 hc, fun F H vs xs fh bx q hq Q k => ?_⟩
  unfold gMin2 at hq
  split at hq
  · obtain ⟨v, u, rfl, b, c⟩ := bx.two
    exact ⟨_, _, by rw [b.int, c.int], k _ _ F H (Gr.refl fh) (.int _) hq⟩
  · exact hq.elim
def gTuple : GA := fun xs q => match xs with
  | [.list ys] => q (.tuple ys)
  | [.tuple ys] => q (.tuple ys)
  | _ => False
theorem c_tuple : CallD X (.type "tuple") gTuple := by
  refine ⟨_, call_tuple_of, fun F H vs xs fh bx q hq Q k => ?_⟩
  unfold gTuple at hq
  split at hq
  · obtain ⟨v, rfl, b⟩ := bx.one
    obtain ⟨a, us, rfl, h1, d1⟩ := b.lst fh
    refine ⟨a, us, rfl, .inl ⟨h1, fun p hp => ?_⟩⟩
    have g := Gr.new (o := .tup us) fh hp
    exact k _ _ _ _ g (.tup (.inl (.inl upd_same)) (d1.mono g.ff)) hq
  · obtain ⟨v, rfl, b⟩ := bx.one
    obtain ⟨a, us, rfl, h0, h1, d1⟩ := b.tup fh
    exact ⟨a, us, rfl, .inr ⟨h1, k _ _ F H (Gr.refl fh) (.tup h0 d1) hq⟩⟩
  · exact hq.elim
def lList : List D → (List D → Prop) → Prop := fun xs q => match xs with
  | [.list ys] => q ys
  | [.tuple ys] => q ys
  | _ => False
theorem c_list : CallL X (.type "list") lList := by
  refine ⟨_, call_list_of, fun F H vs xs fh bx q hq Q k => ?_⟩
  unfold lList at hq
  split at hq
  · obtain ⟨v, rfl, b⟩ := bx.one
    obtain ⟨a, us, rfl, h1, d1⟩ := b.lst fh
    exact ⟨a, us, rfl, .inl h1, fun p hp => k p us _ F _ (Gr.newO fh hp) hp (fh.free hp) upd_same d1 hq⟩
  · obtain ⟨v, rfl, b⟩ := bx.one
    obtain ⟨a, us, rfl, h0, h1, d1⟩ := b.tup fh
    exact ⟨a, us, rfl, .inr h1, fun p hp => k p us _ F _ (Gr.newO fh hp) hp (fh.free hp) upd_same d1 hq⟩
  · exact hq.elim
/-! sums, least, greatest of whole numbers -/
def gSum : GA := fun xs q => ∃ ns : List Int, xs = [.list (ns.map .int)] ∧ q (.int ns.sum)
def gMax1 : GA := fun xs q => ∃ ns : List Int, xs = [.list (ns.map .int)] ∧ 0 < ns.length ∧ ∀ m, m ∈ ns → (∀ y, y ∈ ns → y ≤ m) → q (.int m)
def gMin1 : GA := fun xs q => ∃ ns : List Int, xs = [.list (ns.map .int)] ∧ 0 < ns.length ∧ ∀ m, m ∈ ns → (∀ y, y ∈ ns → m ≤ y) → q (.int m)
theorem lst_ints {F H : Hp} {v : V} {ns : List Int} (fh : Same F H) (b : Bor X.K F H v (.list (ns.map .int))) : ∃ a, v = .ref a ∧ SqL X.K H a (ns.map V.int) := by
  obtain ⟨a, us, rfl, h1, d1⟩ := b.lst fh
  rw [DpAll.ints_of ns d1] at h1
  exact ⟨a, rfl, h1⟩
theorem c_sum (hc : X.calm = true := by rfl) : CallD X (.builtin "sum") gSum := by
  refine ⟨_, cr_sum hc, fun F H vs xs fh bx q hq Q k => ?_⟩
  obtain ⟨ns, rfl, hq⟩ := hq
  obtain ⟨v, rfl, b⟩ := bx.one
  obtain ⟨a, rfl, h1⟩ := lst_ints fh b
  exact ⟨a, ns, rfl, h1, k _ _ F H (Gr.refl fh) (.int _) hq⟩
theorem c_max1 (hc : X.calm = true := by rfl) : CallD X (.builtin "max") gMax1 := by
  refine ⟨_, cr_max hc, fun F H vs xs fh bx q hq Q k => ?_⟩
  obtain ⟨ns, rfl, hn, hq⟩ := hq
  obtain ⟨v, rfl, b⟩ := bx.one
  obtain ⟨a, rfl, h1⟩ := lst_ints fh b
  exact ⟨a, ns, rfl, h1, hn, fun m e1 e2 => k _ _ F H (Gr.refl fh) (.int _) (hq m e1 e2)⟩
theorem c_min1 (hc : X.calm = true := by rfl) : CallD X (.builtin "min") gMin1 := by
  refine ⟨_, cr_min hc, fun F H vs xs fh bx q hq Q k => ?_⟩
  obtain ⟨ns, rfl, hn, hq⟩ := hq
  obtain ⟨v, rfl, b⟩ := bx.one
  obtain ⟨a, rfl, h1⟩ := lst_ints fh b
  exact ⟨a, ns, rfl, h1, hn, fun m e1 e2 => k _ _ F H (Gr.refl fh) (.int _) (hq m e1 e2)⟩
def gAny : GA := fun xs q => ∃ bs : List Bool, xs = [.list (bs.map .bool)] ∧ q (.bool (bs.any id))
def gAll : GA := fun xs q => ∃ bs : List Bool, xs = [.list (bs.map .bool)] ∧ q (.bool (bs.all id))
theorem c_any (hc : X.calm = true := by rfl) : CallD X (.builtin "any") gAny := by
  refine ⟨_, cr_any hc, fun F H vs xs fh bx q hq Q k => ?_⟩
  obtain ⟨ns, rfl, hq⟩ := hq
  obtain ⟨v, rfl, b⟩ := bx.one
  obtain ⟨a, us, rfl, h1, d1⟩ := b.lst fh
  rw [DpAll.bools_of ns d1] at h1
  exact ⟨a, ns, rfl, h1, k _ _ F H (Gr.refl fh) (.bl _) hq⟩
theorem c_all (hc : X.calm = true := by rfl) : CallD X (.builtin "all") gAll := by
  refine ⟨_, cr_all hc, fun F H vs xs fh bx q hq Q k => ?_⟩
  obtain ⟨ns, rfl, hq⟩ := hq
  obtain ⟨v, rfl, b⟩ := bx.one
  obtain ⟨a, us, rfl, h1, d1⟩ := b.lst fh
  rw [DpAll.bools_of ns d1] at h1
  exact ⟨a, ns, rfl, h1, k _ _ F H (Gr.refl fh) (.bl _) hq⟩
def gGcd : GA := fun xs q => match xs with
  | [.int a, .int b] => q (.int ((Nat.gcd a.natAbs b.natAbs : Nat) : Int))
  | _ => False
theorem c_gcd : CallD X (.builtin "math.gcd") gGcd := by
  refine ⟨_, cr_gcd, fun F H vs xs fh bx q hq Q k => ?_⟩
  unfold gGcd at hq
  split at hq
  · obtain ⟨v, u, rfl, b, c⟩ := bx.two
    exact ⟨_, _, by rw [b.int, c.int], k _ _ F H (Gr.refl fh) (.int _) hq⟩
  · exact hq.elim
def gIsqrt : GA := fun xs q => match xs with
  | [.int a] => 0 ≤ a ∧ a.toNat.log2 < 13000 ∧ q (.int (Float64.isqrt a.toNat : Nat))
  | _ => False
theorem c_isqrt : CallD X (.builtin "math.isqrt") gIsqrt := by
  refine ⟨fun vs H Q => ∃ a : Int, vs = [.int a] ∧ 0 ≤ a ∧ a.toNat.log2 < 13000 ∧ Q (.int (Float64.isqrt a.toNat : Nat)) H, ?_, fun F H vs xs fh bx q hq Q k => ?_⟩
  · intro pins s σ H vs us Q I r h
    obtain ⟨a, rfl, h0, h1, q⟩ := h
    obtain ⟨u, rfl, t, rfl⟩ := vals1 r
    exact call_function_meets PySem.W.MGF.kind_isqrt PySem.W.MGF.plain_isqrt PySem.W.MGF.entry_isqrt (PySem.W.MGF.args_isqrt _) (PySem.W.mg_run_isqrt a t (by omega) (by omega) (by omega)).meets ⟨.int _, H, I.tok _, ⟨_, rfl⟩, q⟩
  · unfold gIsqrt at hq
    split at hq
    · obtain ⟨v, rfl, b⟩ := bx.one
      exact ⟨_, by rw [b.int], hq.1, hq.2.1, k _ _ F H (Gr.refl fh) (.int _) hq.2.2⟩
    · exact hq.elim
/-! isinstance -/
def tyD : D → String
  | .none => "NoneType" | .bool _ => "bool" | .int _ => "int" | .str _ => "str" | .list _ => "list" | .tuple _ => "tuple" | .dict _ => "dict"
theorem dp_tyX {K : Frag} {H : Hp} {v : V} {d : D} (h : Dp K H v d) : TyX K H v (.type (tyD d)) := by
  cases h with
  | non => exact .base .non
  | bl => exact .base (.bl _)
  | int => exact .base (.int _)
  | str => exact .base (.str _)
  | lst hs _ =>
    rcases hs with (h | ⟨o, h⟩) | ⟨o, its, n, h, hc, _⟩
    · exact .base (.lst h)
    · exact .base (.frz h)
    · exact .kList h hc
  | tup hs _ =>
    rcases hs with (h | ⟨o, h⟩) | ⟨o, its, n, h, hc, _⟩
    · exact .base (.tup h)
    · exact .fTuple h
    · exact .kTuple h hc
/-- is it of one of these built-in types -/
def isTy (d : D) (T : String) : Bool := tyD d == T || (T == "int" && tyD d == "bool")
def tyOk (T : String) : Prop := kitB "NoneType" T = some (T == "NoneType") ∧ kitB "bool" T = some (T == "bool" || T == "int") ∧ kitB "int" T = some (T == "int") ∧ kitB "str" T = some (T == "str") ∧ kitB "list" T = some (T == "list") ∧ kitB "tuple" T = some (T == "tuple") ∧ kitB "dict" T = some (T == "dict")
theorem kit_d {T : String} (h : tyOk T) (d : D) : kitB (tyD d) T = some (isTy d T) := by
  obtain ⟨h1, h2, h3, h4, h5, h6, h7⟩ := h
  have cm : ∀ s : String, (T == s) = (s == T) := fun s => by
    rw [Bool.eq_iff_iff]
    simp only [beq_iff_eq]
    exact ⟨Eq.symm, Eq.symm⟩
  cases d with
  | none => show kitB "NoneType" T = _; rw [h1, cm]; unfold isTy; simp [tyD]
  | bool b => show kitB "bool" T = _; rw [h2, cm "bool"]; unfold isTy; simp [tyD]
  | int b => show kitB "int" T = _; rw [h3, cm]; unfold isTy; simp [tyD]
  | str b => show kitB "str" T = _; rw [h4, cm]; unfold isTy; simp [tyD]
  | list b => show kitB "list" T = _; rw [h5, cm]; unfold isTy; simp [tyD]
  | tuple b => show kitB "tuple" T = _; rw [h6, cm]; unfold isTy; simp [tyD]
  | dict b => show kitB "dict" T = _; rw [h7, cm]; unfold isTy; simp [tyD]
theorem ty_int : tyOk "int" := by refine ⟨?_, ?_, ?_, ?_, ?_, ?_, ?_⟩ <;> decide +kernel
theorem ty_bool : tyOk "bool" := by refine ⟨?_, ?_, ?_, ?_, ?_, ?_, ?_⟩ <;> decide +kernel
theorem ty_str : tyOk "str" := by refine ⟨?_, ?_, ?_, ?_, ?_, ?_, ?_⟩ <;> decide +kernel
theorem ty_list : tyOk "list" := by refine ⟨?_, ?_, ?_, ?_, ?_, ?_, ?_⟩ <;> decide +kernel
theorem ty_tuple : tyOk "tuple" := by refine ⟨?_, ?_, ?_, ?_, ?_, ?_, ?_⟩ <;> decide +kernel

variable {x : Str} {p pos : Pos} {e : Expr} {es : List Expr} {da : RL} {id T : String}
def dCall (g : GA) (da : RL) : RE := fun ρ q => da ρ fun xs => g xs q
def lCall (g : List D → (List D → Prop) → Prop) (da : RL) : RL := fun ρ q => da ρ fun xs => g xs q
theorem sim_call {K : Frag} {ta : TA} {r : List V → Hp → VK → Prop} {g : GA} (ha : SimAB K ta da) (hr : SimC K r g) : SimE K (tCB r ta) (dCall g da) := fun B F H ρ σ E q hq Q k =>
  ha B F H ρ σ E _ hq _ fun vs xs F1 H1 g1 b z => hr F1 H1 vs xs g1.fh b q z Q fun w d F2 H2 g2 r2 z2 => k w d F2 H2 (g1.trans g2) r2 z2
theorem sim_callL {K : Frag} {ta : TA} {r : List V → Hp → VK → Prop} {g : List D → (List D → Prop) → Prop} (ha : SimAB K ta da) (hr : SimCL K r g) : SimL K (tCB r ta) (lCall g da) := fun B F H ρ σ E q hq Q k =>
  ha B F H ρ σ E _ hq _ fun vs xs F1 H1 g1 b z => hr F1 H1 vs xs g1.fh b q z Q fun p us ds F2 H2 g2 hp hf hh r2 z2 => k p us ds F2 H2 (g1.trans g2) (g1.hh.free hp) hf hh r2 z2
/-- f(e, ..), f a built-in function -/
theorem de_B {g : GA} (hc : CallD X (.builtin id) g) (hm : X.mg x = none) (ha : DAB X (e :: es) da) (hg : Gl X x := by rfl) (hv : bootBuiltins x = some (.builtin id) := by decide +kernel) (hn : x ≠ "__name__" := by decide) (hdb : (x == ("__debug__" : Str)) = false := by decide)
    (he : starEach (e :: es) X.env = (false, eval e X.env) :: starEach es X.env := by rfl) (hpl : (backTo pos (starEach es X.env)).any (·.1) = false := by rfl) : DE X (.Call (.Name x p) (e :: es) [] pos) (dCall g da) := by
  obtain ⟨r, h1, h2⟩ := hc
  obtain ⟨ta, a1, a2⟩ := ha
  exact ⟨_, pe_callB h1 hg hm hv a1 hn hdb he hpl, sim_call a2 h2⟩
/-- f(e, ..), f a built-in class -/
theorem de_T {g : GA} (hc : CallD X (.type T) g) (hm : X.mg x = none) (ha : DAB X (e :: es) da) (hg : Gl X x := by rfl) (hv : bootBuiltins x = some (.type T) := by decide +kernel) (hn : x ≠ "__name__" := by decide) (hdb : (x == ("__debug__" : Str)) = false := by decide)
    (he : starEach (e :: es) X.env = (false, eval e X.env) :: starEach es X.env := by rfl) (hpl : (backTo pos (starEach es X.env)).any (·.1) = false := by rfl) : DE X (.Call (.Name x p) (e :: es) [] pos) (dCall g da) := by
  obtain ⟨r, h1, h2⟩ := hc
  obtain ⟨ta, a1, a2⟩ := ha
  exact ⟨_, pe_callTy h1 hg hm hv a1 hn hdb he hpl, sim_call a2 h2⟩
theorem dl_T {g : List D → (List D → Prop) → Prop} (hc : CallL X (.type T) g) (hm : X.mg x = none) (ha : DAB X (e :: es) da) (hg : Gl X x := by rfl) (hv : bootBuiltins x = some (.type T) := by decide +kernel) (hn : x ≠ "__name__" := by decide) (hdb : (x == ("__debug__" : Str)) = false := by decide)
    (he : starEach (e :: es) X.env = (false, eval e X.env) :: starEach es X.env := by rfl) (hpl : (backTo pos (starEach es X.env)).any (·.1) = false := by rfl) : DLs X (.Call (.Name x p) (e :: es) [] pos) (lCall g da) := by
  obtain ⟨r, h1, h2⟩ := hc
  obtain ⟨ta, a1, a2⟩ := ha
  exact ⟨_, pe_callTy h1 hg hm hv a1 hn hdb he hpl, sim_callL a2 h2⟩
theorem dl_B {g : List D → (List D → Prop) → Prop} (hc : CallL X (.builtin id) g) (hm : X.mg x = none) (ha : DAB X (e :: es) da) (hg : Gl X x := by rfl) (hv : bootBuiltins x = some (.builtin id) := by decide +kernel) (hn : x ≠ "__name__" := by decide) (hdb : (x == ("__debug__" : Str)) = false := by decide)
    (he : starEach (e :: es) X.env = (false, eval e X.env) :: starEach es X.env := by rfl) (hpl : (backTo pos (starEach es X.env)).any (·.1) = false := by rfl) : DLs X (.Call (.Name x p) (e :: es) [] pos) (lCall g da) := by
  obtain ⟨r, h1, h2⟩ := hc
  obtain ⟨ta, a1, a2⟩ := ha
  exact ⟨_, pe_callB h1 hg hm hv a1 hn hdb he hpl, sim_callL a2 h2⟩
/-- f(e, ..), f a name that the module took from another (gcd, isqrt) -/
theorem de_M {g : GA} (hc : CallD X (.builtin id) g) (hm : X.mg x = some (.builtin id)) (ha : DAB X (e :: es) da) (hg : Gl X x := by rfl) (hdb : (x == ("__debug__" : Str)) = false := by decide)
    (he : starEach (e :: es) X.env = (false, eval e X.env) :: starEach es X.env := by rfl) (hpl : (backTo pos (starEach es X.env)).any (·.1) = false := by rfl) : DE X (.Call (.Name x p) (e :: es) [] pos) (dCall g da) := by
  obtain ⟨r, h1, h2⟩ := hc
  obtain ⟨ta, a1, a2⟩ := ha
  exact ⟨_, pe_callBfun h1 hg hm a1 hdb he hpl, sim_call a2 h2⟩
/-- isinstance(e, T) -/
def dIsi (T : String) (de : RE) : RE := fun ρ q => de ρ fun d => q (.bool (isTy d T))
theorem de_isi {de : RE} {y : Str} {p2 : Pos} (ht : tyOk T) (hm : X.mg x = none) (hm2 : X.mg y = none) (ha : DB X e de) (hx : x = "isinstance" := by rfl) (hg : Gl X x := by rfl) (hg2 : Gl X y := by rfl) (hv : bootBuiltins y = some (.type T) := by decide +kernel)
    (hn : y ≠ "__name__" := by decide) (hd : (y == ("__debug__" : Str)) = false := by decide)
    (he : starEach [e, .Name y p2] X.env = (false, eval e X.env) :: starEach [.Name y p2] X.env := by rfl) (he2 : starEach [.Name y p2] X.env = [(false, eval (.Name y p2) X.env)] := by rfl) (hpl : (backTo pos (starEach [.Name y p2] X.env)).any (·.1) = false := by rfl) :
    DE X (.Call (.Name x p) [e, .Name y p2] [] pos) (dIsi T de) := by
  subst hx
  obtain ⟨te, a1, a2⟩ := ha
  refine ⟨_, pe_callB call_isi hg hm (by decide +kernel) (pa_cons a1 (pa_cons (pe_bltn (v := .ty T) hg2 hm2 hv rfl hn hd) pa_nil he2) he) (by decide) (by decide) he hpl, fun B F H ρ σ E q hq Q k => ?_⟩
  refine a2 B F H ρ σ E _ hq _ fun v d F' H' g b z => ⟨v, .ty T, .type (tyD d), .type T, isTy d T, rfl, .ty T, dp_tyX (b.dp g.fh), kit_ty (kit_d ht d), ?_⟩
  exact k _ _ F' H' g (.bl _) z
/-- isinstance(e, (T, U)) -/
def dIsi2 (T U : String) (de : RE) : RE := fun ρ q => de ρ fun d => q (.bool (isTy d T || isTy d U))
theorem de_isi2 {U : String} {de : RE} {y z : Str} {p2 p3 p4 : Pos} {k1 : _} (ht : tyOk T) (ht2 : tyOk U) (hm : X.mg x = none) (hm2 : X.mg y = none) (hm3 : X.mg z = none) (ha : DB X e de) (hx : x = "isinstance" := by rfl) (hg : Gl X x := by rfl) (hg2 : Gl X y := by rfl) (hg3 : Gl X z := by rfl)
    (hv : bootBuiltins y = some (.type T) := by decide +kernel) (hv3 : bootBuiltins z = some (.type U) := by decide +kernel)
    (hn : y ≠ "__name__" := by decide) (hd : (y == ("__debug__" : Str)) = false := by decide) (hn3 : z ≠ "__name__" := by decide) (hd3 : (z == ("__debug__" : Str)) = false := by decide)
    (he : starEach [e, .Tuple [.Name y p2, .Name z p3] k1 p4] X.env = (false, eval e X.env) :: starEach [.Tuple [.Name y p2, .Name z p3] k1 p4] X.env := by rfl) (he2 : starEach [.Tuple [.Name y p2, .Name z p3] k1 p4] X.env = [(false, eval (.Tuple [.Name y p2, .Name z p3] k1 p4) X.env)] := by rfl)
    (he3 : starEach [.Name y p2, .Name z p3] X.env = (false, eval (.Name y p2) X.env) :: starEach [.Name z p3] X.env := by rfl) (he4 : starEach [.Name z p3] X.env = [(false, eval (.Name z p3) X.env)] := by rfl)
    (hpl : (backTo pos (starEach [.Tuple [.Name y p2, .Name z p3] k1 p4] X.env)).any (·.1) = false := by rfl) :
    DE X (.Call (.Name x p) [e, .Tuple [.Name y p2, .Name z p3] k1 p4] [] pos) (dIsi2 T U de) := by
  subst hx
  obtain ⟨te, a1, a2⟩ := ha
  refine ⟨_, pe_callB call_isiT hg hm (by decide +kernel) (pa_cons a1 (pa_cons (pe_tup (pa_cons (pe_bltn (v := .ty T) hg2 hm2 hv rfl hn hd) (pa_cons (pe_bltn (v := .ty U) hg3 hm3 hv3 rfl hn3 hd3) pa_nil he4) he3)) pa_nil he2) he) (by decide) (by decide) he hpl, fun B F H ρ σ E q hq Q k => ?_⟩
  refine a2 B F H ρ σ E _ hq _ fun v d F' H' g b w => ⟨by show 2 ≤ sizeLine; rw [sizeLine_eq]; decide, fun tp hp => ?_⟩
  have g2 := Gr.new (o := .tup [.ty T, .ty U]) g.fh hp
  refine ⟨v, tp, [.ty T, .ty U], .type (tyD d), [.type T, .type U], isTy d T || isTy d U, rfl, upd_same, .cons (.ty T) (.cons (.ty U) .nil), dp_tyX ((b.grow g2).dp g2.fh), ?_, ?_⟩
  · refine kitAny_cons (kit_ty (kit_d ht d)) (fun h => kitAny_cons (r := isTy d T || isTy d U) (kit_ty (kit_d ht2 d)) (fun h2 => ?_) fun h2 => by rw [h2, Bool.or_true]) fun h => by rw [h, Bool.true_or]
    rw [h, h2]
    exact kitAny_nil
  · exact k _ _ _ _ (g.trans g2) (.bl _) w

/-! ### and, or, not; a if t else b -/
def tAndD (t u : RT) : RT := fun ρ q => t ρ fun b => (b = true → u ρ q) ∧ (b = false → q false)
def tOrD (t u : RT) : RT := fun ρ q => t ρ fun b => (b = true → q true) ∧ (b = false → u ρ q)
def tNotD (t : RT) : RT := fun ρ q => t ρ fun b => q (!b)
variable {a b c : Expr} {rest : List Expr} {dt du : RT} {de df : RE}
theorem sim_and {K : Frag} {t u : TT} (h1 : SimT K t dt) (h2 : SimT K u du) : SimT K (tAnd t u) (tAndD dt du) := fun B F H ρ σ E q hq Q k =>
  h1 B F H ρ σ E _ hq _ fun b F1 H1 g1 z => by
    cases b with
    | true =>
      show u σ H1 Q
      exact h2 B F1 H1 ρ σ (E.grow g1) q (z.1 rfl) Q fun b F2 H2 g2 w => k b F2 H2 (g1.trans g2) w
    | false =>
      show Q false H1
      exact k false F1 H1 g1 (z.2 rfl)
theorem sim_or {K : Frag} {t u : TT} (h1 : SimT K t dt) (h2 : SimT K u du) : SimT K (tOr t u) (tOrD dt du) := fun B F H ρ σ E q hq Q k =>
  h1 B F H ρ σ E _ hq _ fun b F1 H1 g1 z => by
    cases b with
    | true =>
      show Q true H1
      exact k true F1 H1 g1 (z.1 rfl)
    | false =>
      show u σ H1 Q
      exact h2 B F1 H1 ρ σ (E.grow g1) q (z.2 rfl) Q fun b F2 H2 g2 w => k b F2 H2 (g1.trans g2) w
theorem DW.pt (h : DW X e dt) : DT X e dt := by
  obtain ⟨t, h1, h2⟩ := h
  exact ⟨t, h1.pt, h2⟩
theorem dw_and1 (h : DT X a dt) : DW X (.BoolOp .And [a] pos) dt := by
  obtain ⟨t, h1, h2⟩ := h
  exact ⟨t, pw_and1 h1, h2⟩
theorem dw_or1 (h : DT X a dt) : DW X (.BoolOp .Or [a] pos) dt := by
  obtain ⟨t, h1, h2⟩ := h
  exact ⟨t, pw_or1 h1, h2⟩
theorem dw_and (h : DT X a dt) (g : DW X (.BoolOp .And (b :: rest) pos) du) : DW X (.BoolOp .And (a :: b :: rest) pos) (tAndD dt du) := by
  obtain ⟨t, h1, h2⟩ := h
  obtain ⟨u, g1, g2⟩ := g
  exact ⟨_, pw_and h1 g1, sim_and h2 g2⟩
theorem dw_or (h : DT X a dt) (g : DW X (.BoolOp .Or (b :: rest) pos) du) : DW X (.BoolOp .Or (a :: b :: rest) pos) (tOrD dt du) := by
  obtain ⟨t, h1, h2⟩ := h
  obtain ⟨u, g1, g2⟩ := g
  exact ⟨_, pw_or h1 g1, sim_or h2 g2⟩
theorem dt_not (h : DT X a dt) : DT X (.UnaryOp .Not a pos) (tNotD dt) := by
  obtain ⟨t, h1, h2⟩ := h
  exact ⟨_, pt_not h1, fun B F H ρ σ E q hq Q k => h2 B F H ρ σ E _ hq _ fun b F1 H1 g1 z => k (!b) F1 H1 g1 z⟩
/-- a value that is True or False, as a test -/
theorem dt_val (h : DE X e de) (he : ∀ whole, isTrue e X.env whole = (do let v ← whole; standAt e.pos; holding [v] (truthy v)) := by intro _; rfl) : DT X e (tBool de) := by
  obtain ⟨t, h1, h2⟩ := h
  exact ⟨_, pt_val h1 he, sim_bool h2⟩
/-- any value as a test -/
def truD : D → Option Bool
  | .none => some false | .bool b => some b | .int i => some (i != 0) | .list xs => some (!xs.isEmpty) | .tuple xs => some (!xs.isEmpty)
  | _ => none
def tTru (de : RE) : RT := fun ρ q => de ρ fun d => match truD d with | some b => q b | none => False
theorem isEmpty_dp {K : Frag} {H : Hp} {vs : List V} {ds : List D} (h : DpAll K H vs ds) : vs.isEmpty = ds.isEmpty := by
  cases h <;> rfl
theorem dt_tru (h : DB X e de) (he : ∀ whole, isTrue e X.env whole = (do let v ← whole; standAt e.pos; holding [v] (truthy v)) := by intro _; rfl) : DT X e (tTru de) := by
  obtain ⟨t, h1, h2⟩ := h
  refine ⟨_, pt_truth h1 he, fun B F H ρ σ E q hq Q k => h2 B F H ρ σ E _ hq _ fun v d F1 H1 g1 r z => ?_⟩
  have r := r.dp g1.fh
  cases r with
  | non => exact ⟨false, rfl, k _ F1 H1 g1 z⟩
  | bl b => exact ⟨b, rfl, k _ F1 H1 g1 z⟩
  | int i => exact ⟨_, rfl, k _ F1 H1 g1 z⟩
  | str x => exact z.elim
  | lst hs ha => exact ⟨_, .inl ⟨_, hs, by rw [isEmpty_dp ha]⟩, k _ F1 H1 g1 z⟩
  | tup hs ha => exact ⟨_, .inr (.inl ⟨_, hs, by rw [isEmpty_dp ha]⟩), k _ F1 H1 g1 z⟩
/-- and, or, not as values: all but the last are True or False -/
def dAndV (da db : RE) : RE := fun ρ q => da ρ fun x => match x with | .bool b => (b = true → db ρ q) ∧ (b = false → q (.bool false)) | _ => False
def dOrV (da db : RE) : RE := fun ρ q => da ρ fun x => match x with | .bool b => (b = true → q (.bool true)) ∧ (b = false → db ρ q) | _ => False
def dNotV (da : RE) : RE := fun ρ q => da ρ fun x => match x with | .bool b => q (.bool (!b)) | _ => False
theorem is_bool {f : Bool → Prop} {d : D} (h : (match d with | .bool b => f b | _ => False)) : ∃ b, d = .bool b ∧ f b := by
  cases d with
  | bool b => exact ⟨b, rfl, h⟩
  | none => exact h.elim
  | int _ => exact h.elim
  | str _ => exact h.elim
  | list _ => exact h.elim
  | tuple _ => exact h.elim
  | dict _ => exact h.elim
theorem de_one {op} (h : DE X a de) : DE X (.BoolOp op [a] pos) de := by
  obtain ⟨t, h1, h2⟩ := h
  exact ⟨t, pe_one h1, h2⟩
theorem de_and (h : DE X a de) (g : DE X (.BoolOp .And (b :: rest) pos) df) : DE X (.BoolOp .And (a :: b :: rest) pos) (dAndV de df) := by
  obtain ⟨t, h1, h2⟩ := h
  obtain ⟨u, g1, g2⟩ := g
  refine ⟨_, pe_and h1 g1, fun B F H ρ σ E q hq Q k => h2 B F H ρ σ E _ hq _ fun v d F1 H1 g3 r z => ?_⟩
  obtain ⟨c, rfl, z⟩ := is_bool z
  cases r
  refine ⟨c, rfl, ?_⟩
  cases c with
  | true =>
    show u σ H1 Q
    exact g2 B F1 H1 ρ σ (E.grow g3) q (z.1 rfl) Q fun v d F2 H2 g4 r w => k v d F2 H2 (g3.trans g4) r w
  | false =>
    show Q (.bl false) H1
    exact k _ _ F1 H1 g3 (.bl _) (z.2 rfl)
theorem de_or (h : DE X a de) (g : DE X (.BoolOp .Or (b :: rest) pos) df) : DE X (.BoolOp .Or (a :: b :: rest) pos) (dOrV de df) := by
  obtain ⟨t, h1, h2⟩ := h
  obtain ⟨u, g1, g2⟩ := g
  refine ⟨_, pe_or h1 g1, fun B F H ρ σ E q hq Q k => h2 B F H ρ σ E _ hq _ fun v d F1 H1 g3 r z => ?_⟩
  obtain ⟨c, rfl, z⟩ := is_bool z
  cases r
  refine ⟨c, rfl, ?_⟩
  cases c with
  | true =>
    show Q (.bl true) H1
    exact k _ _ F1 H1 g3 (.bl _) (z.1 rfl)
  | false =>
    show u σ H1 Q
    exact g2 B F1 H1 ρ σ (E.grow g3) q (z.2 rfl) Q fun v d F2 H2 g4 r w => k v d F2 H2 (g3.trans g4) r w
theorem de_not (h : DE X a de) : DE X (.UnaryOp .Not a pos) (dNotV de) := by
  obtain ⟨t, h1, h2⟩ := h
  refine ⟨_, pe_not h1, fun B F H ρ σ E q hq Q k => h2 B F H ρ σ E _ hq _ fun v d F1 H1 g3 r z => ?_⟩
  obtain ⟨c, rfl, z⟩ := is_bool z
  cases r
  exact ⟨c, rfl, k _ _ F1 H1 g3 (.bl _) z⟩
def dIf (t : RT) (da db : RE) : RE := fun ρ q => t ρ fun b => (b = true → da ρ q) ∧ (b = false → db ρ q)
theorem de_if {da' db' : RE} (h : DT X c dt) (ha : DE X a da') (hb : DE X b db') : DE X (.IfExp c a b pos) (dIf dt da' db') := by
  obtain ⟨t, h1, h2⟩ := h
  obtain ⟨ta, a1, a2⟩ := ha
  obtain ⟨tb, b1, b2⟩ := hb
  refine ⟨_, pe_ifExp h1 a1 b1, fun B F H ρ σ E q hq Q k => h2 B F H ρ σ E _ hq _ fun b F1 H1 g1 z => ?_⟩
  cases b with
  | true =>
    show ta σ H1 Q
    exact a2 B F1 H1 ρ σ (E.grow g1) q (z.1 rfl) Q fun v d F2 H2 g2 r w => k v d F2 H2 (g1.trans g2) r w
  | false =>
    show tb σ H1 Q
    exact b2 B F1 H1 ρ σ (E.grow g1) q (z.2 rfl) Q fun v d F2 H2 g2 r w => k v d F2 H2 (g1.trans g2) r w
/-- x.bit_length() -/
def dBits (de : RE) : RE := fun ρ q => de ρ fun d => match d with | .int i => q (.int (Builtin.Int.intBits i : Nat)) | _ => False
theorem de_bits {apos : Pos} (h : DE X e de) (hbase : attributeBase e "bit_length" X.env (eval e X.env) = eval e X.env := by rfl) (hline : (apos.endLine == pos.line) = true := by rfl) : DE X (.Call (.Attribute e "bit_length" apos) [] [] pos) (dBits de) := by
  obtain ⟨t, h1, h2⟩ := h
  refine ⟨_, pe_bits h1 hbase hline, fun B F H ρ σ E q hq Q k => h2 B F H ρ σ E _ hq _ fun v d F1 H1 g1 r z => ?_⟩
  cases r with
  | int i => exact ⟨i, rfl, k _ _ F1 H1 g1 (.int _) z⟩
  | _ => exact z.elim
/-! ### slices -/
def oNone : Rho → (Option Int → Prop) → Prop := fun _ q => q none
def oSome (de : RE) : Rho → (Option Int → Prop) → Prop := fun ρ q => de ρ fun d => match d with | .int i => q (some i) | _ => False
theorem do_none : DO X none oNone := ⟨_, po_none, fun B F H ρ σ E q hq Q k => k none F H (Gr.refl E.fh) hq⟩
theorem do_some (h : DE X e de) : DO X (some e) (oSome de) := by
  obtain ⟨t, h1, h2⟩ := h
  refine ⟨_, po_some h1, fun B F H ρ σ E q hq Q k => h2 B F H ρ σ E _ hq _ fun v d F1 H1 g1 r z => ?_⟩
  cases r with
  | int i => exact ⟨i, rfl, k _ F1 H1 g1 z⟩
  | _ => exact z.elim
def cutD (xs : List D) (lo hi : Option Int) : List D := (xs.drop (HT.sIx xs.length 0 lo)).take (HT.sIx xs.length xs.length hi - HT.sIx xs.length 0 lo)
theorem cut_dp {K : Frag} {H : Hp} {vs : List V} {ds : List D} (h : DpAll K H vs ds) (lo hi : Option Int) : DpAll K H (cutV vs lo hi) (cutD ds lo hi) := by
  unfold cutV cutD
  rw [h.length]
  exact (h.drop _).take _
def dSl (de : RE) (dl dh : Rho → (Option Int → Prop) → Prop) : RE := fun ρ q => de ρ fun d => dl ρ fun lo => dh ρ fun hi => match d with
  | .list xs => q (.list (cutD xs lo hi))
  | .tuple xs => q (.tuple (cutD xs lo hi))
  | _ => False
theorem cutV_all {xs : List V} {lo hi : Option Int} (h : HT.sIx xs.length 0 lo = 0 ∧ HT.sIx xs.length xs.length hi = xs.length) : cutV xs lo hi = xs := by
  unfold cutV
  rw [h.1, h.2]
  simp
theorem de_sl {lo hi : Option Expr} {dl dh : Rho → (Option Int → Prop) → Prop} {p2 : Pos} (h : DB X e de) (h1 : DO X lo dl) (h2 : DO X hi dh) : DE X (.Subscript e (.Slice lo hi none p2) pos) (dSl de dl dh) := by
  obtain ⟨te, e1, e2⟩ := h
  obtain ⟨tl, l1, l2⟩ := h1
  obtain ⟨th, u1, u2⟩ := h2
  refine ⟨_, pe_slice (sl_list.or sl_tupA) e1 l1 u1, fun B F H ρ σ E q hq Q k => e2 B F H ρ σ E _ hq _ fun v d F1 H1 g1 b z => l2 B F1 H1 ρ σ (E.grow g1) _ z _ fun lo F2 H2 g2 z => u2 B F2 H2 ρ σ (E.grow (g1.trans g2)) _ z _ fun hi F3 H3 g3 z => ?_⟩
  have g := (g1.trans g2).trans g3
  have b := b.grow (g2.trans g3)
  cases d with
  | list xs =>
    obtain ⟨a, vs, rfl, s1, d1⟩ := b.lst g3.fh
    refine .inl ⟨a, vs, rfl, s1, fun p hp => ?_⟩
    have gn := Gr.new (o := .lst (cutV vs lo hi)) g3.fh hp
    exact k _ _ _ _ (g.trans gn) (.lst (.inl (.inl upd_same)) ((cut_dp d1 lo hi).mono gn.ff)) z
  | tuple xs =>
    obtain ⟨a, vs, rfl, s0, s1, d1⟩ := b.tup g3.fh
    refine .inr ⟨a, vs, rfl, s1, fun w => ?_, fun _ p hp => ?_⟩
    · have ew := cutV_all w
      have d2 := cut_dp d1 lo hi
      rw [ew] at d2
      exact k _ _ _ _ g (.tup s0 d2) z
    · have gn := Gr.new (o := .tup (cutV vs lo hi)) g3.fh hp
      exact k _ _ _ _ (g.trans gn) (.tup (.inl (.inl upd_same)) ((cut_dp d1 lo hi).mono gn.ff)) z
  | _ => exact z.elim
/-- a slice of a list, of one's own -/
def lSl (de : RE) (dl dh : Rho → (Option Int → Prop) → Prop) : RL := fun ρ q => de ρ fun d => dl ρ fun lo => dh ρ fun hi => match d with
  | .list xs => q (cutD xs lo hi)
  | _ => False
theorem dl_sl {lo hi : Option Expr} {dl dh : Rho → (Option Int → Prop) → Prop} {p2 : Pos} (h : DB X e de) (h1 : DO X lo dl) (h2 : DO X hi dh) : DLs X (.Subscript e (.Slice lo hi none p2) pos) (lSl de dl dh) := by
  obtain ⟨te, e1, e2⟩ := h
  obtain ⟨tl, l1, l2⟩ := h1
  obtain ⟨th, u1, u2⟩ := h2
  refine ⟨_, pe_slice sl_list e1 l1 u1, fun B F H ρ σ E q hq Q k => e2 B F H ρ σ E _ hq _ fun v d F1 H1 g1 b z => l2 B F1 H1 ρ σ (E.grow g1) _ z _ fun lo F2 H2 g2 z => u2 B F2 H2 ρ σ (E.grow (g1.trans g2)) _ z _ fun hi F3 H3 g3 z => ?_⟩
  have g := (g1.trans g2).trans g3
  have b := b.grow (g2.trans g3)
  cases d with
  | list xs =>
    obtain ⟨a, vs, rfl, s1, d1⟩ := b.lst g3.fh
    exact ⟨a, vs, rfl, s1, fun p hp => k p _ _ _ _ (g.trans (Gr.newO g3.fh hp)) (g.hh.free hp) (g3.fh.free hp) upd_same (cut_dp d1 lo hi) z⟩
  | _ => exact z.elim
end
end DL

namespace DL
open PySem PySem.Spec PyProof.Rows L2

/-! ### statements over data -/
structure DEnds where
  nx : Rho → Prop
  rt : DV → Prop
  bk : Rho → Prop := fun _ => False
  ct : Rho → Prop := fun _ => False
abbrev RS := DEnds → Rho → Prop
/-- what is handed back: data, or a new list of the caller's own -/
def ResF (K : Frag) (B F H : Hp) (v : V) : DV → Prop
  | .val d => Dp K F v d
  | .own ds => ∃ p vs, v = .ref p ∧ B p = none ∧ F p = none ∧ H p = some (.lst vs) ∧ DpAll K F vs ds
structure EndsOk (K : Frag) (F0 B : Hp) (DD : DEnds) (E : Ends) : Prop where
  nx : ∀ F H ρ σ, Gr F0 B F H → EnvOk K B F H ρ σ → DD.nx ρ → E.nx σ H
  rt : ∀ v r F H, Gr F0 B F H → ResF K B F H v r → DD.rt r → E.rt v H
  bk : ∀ F H ρ σ, Gr F0 B F H → EnvOk K B F H ρ σ → DD.bk ρ → E.bk σ H
  ct : ∀ F H ρ σ, Gr F0 B F H → EnvOk K B F H ρ σ → DD.ct ρ → E.ct σ H
/-- the ground moves on: F0 to F1 -/
theorem Gr.on {F0 B F1 H1 F H : Hp} (a : Gr F0 B F1 H1) (b : Gr F1 B F H) : Gr F0 B F H := ⟨a.ff.trans b.ff, b.hh, b.fh, fun p h m => b.own p (a.own p h m) m⟩
theorem EndsOk.mono {K : Frag} {F0 B F1 H1 : Hp} {DD : DEnds} {E : Ends} (h : EndsOk K F0 B DD E) (e : Gr F0 B F1 H1) : EndsOk K F1 B DD E :=
  ⟨fun F H ρ σ s => h.nx F H ρ σ (e.on s), fun v r F H s => h.rt v r F H (e.on s), fun F H ρ σ s => h.bk F H ρ σ (e.on s), fun F H ρ σ s => h.ct F H ρ σ (e.on s)⟩
/-- at the ground itself -/
theorem Gr.self {F0 B F H : Hp} (a : Gr F0 B F H) : Gr F B F H := ⟨Same.refl F, a.hh, a.fh, fun _ h _ => h⟩
/-- one step further -/
theorem Gr.to {F0 B F H F' H' : Hp} (a : Gr F0 B F H) (g : Gr F H F' H') : Gr F0 B F' H' := ⟨a.ff.trans g.ff, a.hh.trans g.hh, g.fh, fun p h m => g.own p (a.own p h m) (by rw [mut_same a.hh m]; exact m)⟩
/-- a list of one's own is written -/
theorem Gr.wr {F0 B F H : Hp} {p : Addr} {o : HO} (a : Gr F0 B F H) (hb : B p = none) (hf : F p = none) : Gr F0 B F (upd H p o) := ⟨a.ff, fun b u e => by
  rw [upd_ne (ne_of_none e hb)]
  exact a.hh b u e, fun b u e => by
  rw [upd_ne (ne_of_none e hf)]
  exact a.fh b u e, a.own⟩
def SimS (K : Frag) (ts : TS) (ds : RS) : Prop := ∀ (F0 B F H : Hp) (ρ : Rho) (σ : L2.St), Gr F0 B F H → EnvOk K B F H ρ σ → ∀ (DD : DEnds), ds DD ρ → ∀ E : Ends, EndsOk K F0 B DD E → ts E σ H
def DS (X : Cx) (st : Stmt) (ds : RS) : Prop := ∃ ts, PS X st ts ∧ SimS X.K ts ds
def DSs (X : Cx) (st : List Stmt) (ds : RS) : Prop := ∃ ts, PSs X st ts ∧ SimS X.K ts ds

section
variable {X : Cx} {st : Stmt} {rest : List Stmt} {ds du : RS} {e a b : Expr} {de da db : RE} {dl : RL} {dt : RT} {pos : Pos}
def sNext : RS := fun DD ρ => DD.nx ρ
@[irreducible] def sSeq (t u : RS) (DD : DEnds) (ρ : Rho) : Prop := t { DD with nx := u DD } ρ
theorem sSeq_c {t u : RS} {DD : DEnds} {ρ : Rho} : sSeq t u DD ρ = t { DD with nx := u DD } ρ := by unfold sSeq; rfl
theorem ss_nil : DSs X [] sNext := ⟨_, pss_nil, fun F0 B F H ρ σ s E DD h D k => k.nx F H ρ σ s E h⟩
theorem sim_seq {K : Frag} {t u : TS} (h1 : SimS K t ds) (h2 : SimS K u du) : SimS K (tSeq t u) (sSeq ds du) := fun F0 B F H ρ σ s E DD h D k =>
  h1 F0 B F H ρ σ s E _ (Eq.mp sSeq_c h) _ ⟨fun F' H' ρ' σ' s' E' q => h2 F0 B F' H' ρ' σ' s' E' DD q D k, k.rt, k.bk, k.ct⟩
theorem ss_cons (h1 : DS X st ds) (h2 : DSs X rest du) : DSs X (st :: rest) (sSeq ds du) := by
  obtain ⟨t, a1, a2⟩ := h1
  obtain ⟨u, b1, b2⟩ := h2
  exact ⟨_, pss_cons a1 b1, sim_seq a2 b2⟩
theorem ss_one (h1 : DS X st ds) : DSs X [st] ds := by
  obtain ⟨t, a1, a2⟩ := h1
  exact ⟨_, pss_one a1, a2⟩
def sBreak : RS := fun DD ρ => DD.bk ρ
def sCont : RS := fun DD ρ => DD.ct ρ
theorem st_pass : DS X (.Pass pos) sNext := ⟨_, ps_pass, fun F0 B F H ρ σ s E DD h D k => k.nx F H ρ σ s E h⟩
theorem st_break : DS X (.Break pos) sBreak := ⟨_, ps_break, fun F0 B F H ρ σ s E DD h D k => k.bk F H ρ σ s E h⟩
theorem st_cont : DS X (.Continue pos) sCont := ⟨_, ps_continue, fun F0 B F H ρ σ s E DD h D k => k.ct F H ρ σ s E h⟩
theorem st_doc {x j pos'} : DS X (.Expr (.Constant (.str x) j pos) pos') sNext := ⟨_, ps_doc, fun F0 B F H ρ σ s E DD h D k => k.nx F H ρ σ s E h⟩
/-- return e -/
def sRet (de : RE) : RS := fun DD ρ => de ρ fun d => DD.rt (.val d)
theorem st_ret (h : DE X e de) : DS X (.Return (some e) pos) (sRet de) := by
  obtain ⟨t, a1, a2⟩ := h
  exact ⟨_, ps_ret a1, fun F0 B F H ρ σ s E DD h D k => a2 B F H ρ σ E _ h _ fun v d F' H' g r z => k.rt v (.val d) F' H' (s.to g) r z⟩
/-- return [..]: a new list -/
def sRetL (dl : RL) : RS := fun DD ρ => dl ρ fun ds => DD.rt (.own ds)
theorem st_retL (h : DLs X e dl) : DS X (.Return (some e) pos) (sRetL dl) := by
  obtain ⟨t, a1, a2⟩ := h
  exact ⟨_, ps_ret a1, fun F0 B F H ρ σ s E DD h D k => a2 B F H ρ σ E _ h _ fun p vs ds F' H' g hp hf hh ha z => k.rt (.ref p) (.own ds) F' H' (s.to g) ⟨p, vs, rfl, s.hh.free hp, hf, hh, ha⟩ z⟩
/-- return x, x an own list -/
def sRetO (i : Nat) : RS := fun DD ρ => match ρ[i]? with | some (some (.own ds)) => DD.rt (.own ds) | _ => False
theorem st_retO (i : Nat) {x : Str} {pos' : Pos} (hN : X.N[i]? = some x := by rfl) (hv : Vis X.env.scope x := by first | exact Or.inl rfl | exact Or.inr (Or.inl rfl) | exact Or.inr (Or.inr rfl)) (hd : (x == ("__debug__" : Str)) = false := by decide)
    (hcd : (x == ("__classdict__" : Str)) = false := by decide) : DS X (.Return (some (.Name x pos')) pos) (sRetO i) := by
  refine ⟨_, ps_ret (pe_var hN hv hd hcd), fun F0 B F H ρ σ s E DD h D k => ?_⟩
  unfold sRetO at h
  split at h
  · rename_i ds q
    obtain ⟨v, h1, p, vs, rfl, f0, f1, f2, f3⟩ := E.at' i _ q
    exact ⟨_, h1, k.rt (.ref p) (.own ds) F H s ⟨p, vs, rfl, f0, f1, f2, f3⟩ h⟩
  · exact h.elim
def sRetN : RS := fun DD _ => DD.rt (.val .none)
theorem st_retN : DS X (.Return none pos) sRetN := ⟨_, ps_retN, fun F0 B F H ρ σ s E DD h D k => k.rt .non (.val .none) F H s .non h⟩
def sIf (c : RT) (t u : RS) : RS := fun DD ρ => c ρ fun b => (b = true → t DD ρ) ∧ (b = false → u DD ρ)
theorem st_if {c : Expr} {p q : List Stmt} (hc : DT X c dt) (ha : DSs X p ds) (hb : DSs X q du) : DS X (.If c p q pos) (sIf dt ds du) := by
  obtain ⟨tc, c1, c2⟩ := hc
  obtain ⟨ta, a1, a2⟩ := ha
  obtain ⟨tb, b1, b2⟩ := hb
  refine ⟨_, ps_if c1 a1 b1, fun F0 B F H ρ σ s E DD h D k => c2 B F H ρ σ E _ h _ fun b F' H' g z => ?_⟩
  cases b with
  | true => exact a2 F0 B F' H' ρ σ (s.to g) (E.grow g) DD (z.1 rfl) D k
  | false => exact b2 F0 B F' H' ρ σ (s.to g) (E.grow g) DD (z.2 rfl) D k
/-- an own list is kept for good from here on -/
def frz1 (i : Nat) (ρ : Rho) : Rho := match ρ[i]? with | some (some (.own ds)) => ρ.set i (some (.val (.list ds))) | _ => ρ
def sFrz (i : Nat) (t : RS) : RS := fun DD ρ => t DD (frz1 i ρ)
theorem sim_frz {K : Frag} {t : TS} (i : Nat) (h : SimS K t ds) : SimS K t (sFrz i ds) := fun F0 B F H ρ σ s E DD hd D k => by
  unfold sFrz frz1 at hd
  split at hd
  · rename_i xs q
    obtain ⟨F', s', o', E'⟩ := E.frz q
    exact h F0 B F' H _ σ ⟨s.ff.trans s', s.hh, E'.fh, fun p h m => o' p (s.own p h m) m⟩ E' DD hd D k
  · exact h F0 B F H ρ σ s E DD hd D k
theorem st_frz (i : Nat) (h : DS X st ds) : DS X st (sFrz i ds) := by
  obtain ⟨t, a1, a2⟩ := h
  exact ⟨t, a1, sim_frz i a2⟩
theorem ss_frz (i : Nat) (h : DSs X rest ds) : DSs X rest (sFrz i ds) := by
  obtain ⟨t, a1, a2⟩ := h
  exact ⟨t, a1, sim_frz i a2⟩
/-- a name is forgotten -/
theorem EnvOk.forget {K : Frag} {B F H : Hp} {ρ : Rho} {σ : L2.St} (E : EnvOk K B F H ρ σ) (ρ' : Rho) (hl : ρ'.length = ρ.length) (w : ∀ (i : Nat) dv, ρ'[i]? = some (some dv) → ρ[i]? = some (some dv)) : EnvOk K B F H ρ' σ :=
  ⟨E.fh, E.bh, hl.trans E.len, fun i dv e => E.at' i dv (w i dv e), fun i j p a b n e1 e2 => E.sep i j p a b n (w _ _ e1) (w _ _ e2)⟩

/-! ### stores -/
/-- x = e -/
def sSet (i : Nat) (de : RE) : RS := fun DD ρ => de ρ fun d => DD.nx (ρ.set i (some (.val d)))
theorem st_set {i : Nat} {x : Str} {pos' : Pos} (hN : X.N.Nodup) (he : DE X e de) (hi : X.N[i]? = some x := by rfl) (hx : Loc X.env.scope x := by first | exact Or.inl rfl | exact Or.inr rfl) (hs : swapsWith e (some (.Name x pos')) pos.line X.env = pure false := by rfl)
    (hf : X.fn x = true ∨ X.env.scope.names.lookup x = some .local := by first | exact .inl rfl | exact .inr rfl | assumption) : DS X (.Assign [.Name x pos'] e pos) (sSet i de) := by
  obtain ⟨t, a1, a2⟩ := he
  exact ⟨_, ps_set hN hi hx a1 hs hf, fun F0 B F H ρ σ s E DD h D k => a2 B F H ρ σ E _ h _ fun v d F' H' g r z => k.nx F' H' _ _ (s.to g) ((E.grow g).set i r) z⟩
def sSetL (i : Nat) (dl : RL) : RS := fun DD ρ => dl ρ fun ds => DD.nx (ρ.set i (some (.own ds)))
theorem own_new {K : Frag} {B F H F' H' : Hp} {ρ : Rho} {σ : L2.St} (E : EnvOk K B F H ρ σ) (g : Gr F H F' H') (i : Nat) {p : Addr} {vs : List V} {ds : List D} (hp : H p = none) (hf : F' p = none) (hh : H' p = some (.lst vs)) (ha : DpAll K F' vs ds) :
    EnvOk K B F' H' (ρ.set i (some (.own ds))) (σ.set i (some (.ref p))) := by
  refine (E.grow g).setOwn i (E.bh.free hp) hf hh ha (fun j a hj e1 e2 => ?_) fun _ _ => rfl
  obtain ⟨v, h1, q, us, rfl, f0, f1, f2, f3⟩ := E.at' j _ e1
  rw [h1] at e2
  cases e2
  rw [hp] at f2
  cases f2
theorem st_setL {i : Nat} {x : Str} {pos' : Pos} (hN : X.N.Nodup) (he : DLs X e dl) (hi : X.N[i]? = some x := by rfl) (hx : Loc X.env.scope x := by first | exact Or.inl rfl | exact Or.inr rfl) (hs : swapsWith e (some (.Name x pos')) pos.line X.env = pure false := by rfl)
    (hf : X.fn x = true ∨ X.env.scope.names.lookup x = some .local := by first | exact .inl rfl | exact .inr rfl | assumption) : DS X (.Assign [.Name x pos'] e pos) (sSetL i dl) := by
  obtain ⟨t, a1, a2⟩ := he
  exact ⟨_, ps_set hN hi hx a1 hs hf, fun F0 B F H ρ σ s E DD h D k => a2 B F H ρ σ E _ h _ fun p vs ds F' H' g hp hf hh ha z => k.nx F' H' _ _ (s.to g) (own_new E g i hp hf hh ha) z⟩
/-- e; (its value dropped) -/
def sDrop (de : RE) : RS := fun DD ρ => de ρ fun _ => DD.nx ρ
theorem st_expr (he : DE X e de) (hs : swapsWith e none pos.line X.env = pure false := by rfl) : DS X (.Expr e pos) (sDrop de) := by
  obtain ⟨t, a1, a2⟩ := he
  exact ⟨_, ps_expr a1 hs, fun F0 B F H ρ σ s E DD h D k => a2 B F H ρ σ E _ h _ fun v d F' H' g r z => k.nx F' H' ρ σ (s.to g) (E.grow g) z⟩
/-! targets -/
abbrev RG := D → Rho → (Rho → Prop) → Prop
abbrev RGs := List D → Rho → (Rho → Prop) → Prop
def SimG (K : Frag) (g : TG) (dg : RG) : Prop := ∀ (B F H : Hp) (ρ : Rho) (σ : L2.St) (v : V) (d : D), EnvOk K B F H ρ σ → Dp K F v d → ∀ q : Rho → Prop, dg d ρ q → ∀ Q : L2.St → Hp → Prop, (∀ ρ' σ', EnvOk K B F H ρ' σ' → q ρ' → Q σ' H) → g v σ H Q
def SimGs (K : Frag) (g : TGs) (dg : RGs) : Prop := ∀ (B F H : Hp) (ρ : Rho) (σ : L2.St) (vs : List V) (xs : List D), EnvOk K B F H ρ σ → DpAll K F vs xs → ∀ q : Rho → Prop, dg xs ρ q → ∀ Q : L2.St → Hp → Prop, (∀ ρ' σ', EnvOk K B F H ρ' σ' → q ρ' → Q σ' H) → g vs σ H Q
def DG (X : Cx) (tg : Expr) (dg : RG) : Prop := ∃ g, PG X tg g ∧ SimG X.K g dg
def DGs (X : Cx) (tgs : List Expr) (dg : RGs) : Prop := ∃ g, PGs X tgs g ∧ SimGs X.K g dg
def rName (i : Nat) : RG := fun d ρ q => q (ρ.set i (some (.val d)))
theorem tg_name {i : Nat} {x : Str} (hN : X.N.Nodup) (hi : X.N[i]? = some x := by rfl) (hx : Loc X.env.scope x := by first | exact Or.inl rfl | exact Or.inr rfl) (hf : X.fn x = true ∨ X.env.scope.names.lookup x = some .local := by first | exact .inl rfl | exact .inr rfl | assumption) : DG X (.Name x pos) (rName i) :=
  ⟨_, pg_name hN hi hx hf, fun B F H ρ σ v d E r q h Q k => k _ _ (E.set i r) h⟩
def rNil : RGs := fun xs ρ q => xs = [] ∧ q ρ
def rCons (g : RG) (u : RGs) : RGs := fun xs ρ q => match xs with | [] => False | d :: r => g d ρ fun ρ' => u r ρ' q
theorem tg_nil : DGs X [] rNil := ⟨_, pgs_nil, fun B F H ρ σ vs xs E r q h Q k => by
  obtain ⟨rfl, h⟩ := h
  cases r
  exact ⟨rfl, k _ _ E h⟩⟩
theorem tg_cons {e : Expr} {es : List Expr} {dg : RG} {dgs : RGs} (h1 : DG X e dg) (h2 : DGs X es dgs)
    (hs : (assignEach (e :: es) X.env).map (·.2) = assign e X.env :: (assignEach es X.env).map (·.2) := by rfl) : DGs X (e :: es) (rCons dg dgs) := by
  obtain ⟨g, a1, a2⟩ := h1
  obtain ⟨u, b1, b2⟩ := h2
  refine ⟨_, pgs_cons a1 b1 hs, fun B F H ρ σ vs xs E r q h Q k => ?_⟩
  cases xs with
  | nil => exact h.elim
  | cons d r' =>
    cases r with
    | cons r1 r2 => exact ⟨_, _, rfl, a2 B F H ρ σ _ d E r1 _ h _ fun ρ' σ' E' z => b2 B F H ρ' σ' _ _ E' r2 q z Q k⟩
def rTup (n : Nat) (g : RGs) : RG := fun d ρ q => match d with | .tuple xs => xs.length = n ∧ g xs ρ q | _ => False
theorem tg_tup {es : List Expr} {k : Nat} {dg : RGs} {n : Nat} (h : DGs X es dg) (hc : X.calm = true := by rfl)
    (hn : (assignEach es X.env).length = n := by rfl) (hst : (assignEach es X.env).findIdx? (·.1) = none := by rfl) : DG X (.Tuple es k pos) (rTup n dg) := by
  obtain ⟨g, a1, a2⟩ := h
  refine ⟨_, pg_tup hc a1 hn hst, fun B F H ρ σ v d E r q h Q k => ?_⟩
  cases d with
  | tuple xs =>
    cases r with
    | tup hs ha => exact ⟨_, _, rfl, E.fh.seqT hs, by rw [ha.length]; exact h.1, a2 B F H ρ σ _ xs E ha q h.2 Q k⟩
  | _ => exact h.elim
/-- target = e -/
def sAsg (de : RE) (g : RG) : RS := fun DD ρ => de ρ fun d => g d ρ DD.nx
theorem st_asg {tg : Expr} {dg : RG} (he : DE X e de) (hg : DG X tg dg) (hs : swapsWithSole [tg] e pos.line X.env = pure false := by rfl) (hw : swappedStores [tg] e X.env = pure none := by rfl)
    (h1 : (assignEach [tg] X.env).map (·.2) = [assign tg X.env] := by rfl) : DS X (.Assign [tg] e pos) (sAsg de dg) := by
  obtain ⟨t, a1, a2⟩ := he
  obtain ⟨g, g1, g2⟩ := hg
  exact ⟨_, ps_asg a1 g1 hs hw h1, fun F0 B F H ρ σ s E DD h D k => a2 B F H ρ σ E _ h _ fun v d F' H' g r z => g2 B F' H' ρ σ v d (E.grow g) r _ z _ fun ρ' σ' E' w => k.nx F' H' ρ' σ' (s.to g) E' w⟩
/-- a, b = e1, e2 -/
def sPar (i j : Nat) (da db : RE) : RS := fun DD ρ => da ρ fun x => db ρ fun y => DD.nx ((ρ.set i (some (.val x))).set j (some (.val y)))
theorem st_par {i j : Nat} {x y : Str} {px py pt : Pos} {kt k2 pt2} (hN : X.N.Nodup) (ha : DE X a da) (hb : DE X b db) (hi : X.N[i]? = some x := by rfl) (hj : X.N[j]? = some y := by rfl) (hij : i ≠ j := by decide)
    (hx : X.env.scope.names.lookup x = some .local := by rfl) (hy : X.env.scope.names.lookup y = some .local := by rfl) (hc : X.calm = true := by rfl)
    (hw : swappedStores [.Tuple [.Name x px, .Name y py] kt pt] (.Tuple [a, b] k2 pt2) X.env = pure (some [x, y]) := by rfl)
    (hs : swapsWithSole [.Tuple [.Name x px, .Name y py] kt pt] (.Tuple [a, b] k2 pt2) pos.line X.env = pure false := by rfl)
    (he : starEach [a, b] X.env = (false, eval a X.env) :: starEach [b] X.env := by rfl) (he2 : starEach [b] X.env = (false, eval b X.env) :: starEach [] X.env := by rfl) :
    DS X (.Assign [.Tuple [.Name x px, .Name y py] kt pt] (.Tuple [a, b] k2 pt2) pos) (sPar i j da db) := by
  obtain ⟨ta, a1, a2⟩ := ha
  obtain ⟨tb, b1, b2⟩ := hb
  refine ⟨_, ps_par hc hN hi hj hij hx hy (pa_cons a1 (pa_cons b1 pa_nil he2) he) hw hs, fun F0 B F H ρ σ s E DD h D k => ?_⟩
  refine a2 B F H ρ σ E _ h _ fun v d F1 H1 g1 r1 z1 => b2 B F1 H1 ρ σ (E.grow g1) _ z1 _ fun u d2 F2 H2 g2 r2 z2 => ⟨v, u, rfl, ?_⟩
  exact k.nx F2 H2 _ _ ((s.to g1).to g2) (((E.grow (g1.trans g2)).set i (r1.mono g2.ff)).set j r2) z2
/-- a, b = e1, e2, both new lists of one's own -/
def sParL (i j : Nat) (da db : RL) : RS := fun DD ρ => da ρ fun x => db ρ fun y => DD.nx ((ρ.set i (some (.own x))).set j (some (.own y)))
/-- x += e (whole numbers) -/
def sAug (i : Nat) (f : Int → Int → Int) (de : RE) : RS := fun DD ρ => match ρ[i]? with | some (some (.val (.int a))) => (de ρ fun d => match d with | .int b => DD.nx (ρ.set i (some (.val (.int (f a b))))) | _ => False) | _ => False
theorem st_aug {i : Nat} {x : Str} {op : Operator} {f : Int → Int → Int} {pos' : Pos} (hN : X.N.Nodup) (ho : PIp X op (ipI f)) (he : DE X e de) (hi : X.N[i]? = some x := by rfl) (hx : Loc X.env.scope x := by first | exact Or.inl rfl | exact Or.inr rfl)
    (hf : X.fn x = true ∨ X.env.scope.names.lookup x = some .local := by first | exact .inl rfl | exact .inr rfl | assumption) : DS X (.AugAssign (.Name x pos') op e pos) (sAug i f de) := by
  obtain ⟨t, a1, a2⟩ := he
  refine ⟨_, ps_aug hN hi hx a1 ho hf, fun F0 B F H ρ σ s E DD h D k => ?_⟩
  unfold sAug at h
  split at h
  · rename_i a q
    obtain ⟨v, h1, h2⟩ := E.at' i _ q
    have hv : v = .int a := by
      cases h2
      rfl
    subst hv
    refine ⟨.int a, h1, a2 B F H ρ σ E _ h _ fun v d F' H' g r z => ?_⟩
    cases r with
    | int b => exact ⟨a, b, rfl, rfl, k.nx F' H' _ _ (s.to g) ((E.grow g).set i (.int _)) z⟩
    | _ => exact z.elim
  · exact h.elim

/-! ### own lists changed -/
/-- a list method on the own list in slot i -/
theorem own_at {K : Frag} {B F H : Hp} {ρ : Rho} {σ : L2.St} (E : EnvOk K B F H ρ σ) {i : Nat} {ds : List D} (q : ρ[i]? = some (some (.own ds))) : ∃ p vs, σ[i]? = some (some (.ref p)) ∧ B p = none ∧ F p = none ∧ H p = some (.lst vs) ∧ DpAll K F vs ds := by
  obtain ⟨v, h1, p, vs, rfl, f0, f1, f2, f3⟩ := E.at' i _ q
  exact ⟨p, vs, h1, f0, f1, f2, f3⟩
theorem own_chg {K : Frag} {B F H : Hp} {ρ : Rho} {σ : L2.St} (E : EnvOk K B F H ρ σ) {i : Nat} {ds ds' : List D} {p : Addr} {vs' : List V} (q : ρ[i]? = some (some (.own ds))) (h1 : σ[i]? = some (some (.ref p))) (hb : B p = none) (hf : F p = none) (ha : DpAll K F vs' ds') :
    EnvOk K B F (upd H p (.lst vs')) (ρ.set i (some (.own ds'))) σ := by
  have e : σ.set i (some (.ref p)) = σ := by
    apply List.ext_getElem?
    intro j
    by_cases hj : i = j
    · subst hj
      rw [List.getElem?_set_self (List.getElem?_eq_some_iff.mp h1).1, h1]
    · rw [List.getElem?_set_ne hj]
  have r := E.setOwn i (p := p) (H' := upd H p (.lst vs')) (vs := vs') hb hf upd_same ha (fun j a hj e1 e2 => E.sep i j p ds a (Ne.symm hj) q e1 h1 e2) fun b hb => upd_ne hb
  rw [e] at r
  exact r
/-- x.append(e) -/
def sApp (i : Nat) (de : RE) : RS := fun DD ρ => match ρ[i]? with | some (some (.own ds)) => Fit (ds.length + 1) ∧ de ρ fun d => DD.nx (ρ.set i (some (.own (ds ++ [d])))) | _ => False
theorem st_app {i : Nat} {x : Str} {pos1 pos2 pos3 : Pos} (he : DE X e de) (hN : X.N[i]? = some x := by rfl) (hv : Vis X.env.scope x := by first | exact Or.inl rfl | exact Or.inr (Or.inl rfl) | exact Or.inr (Or.inr rfl)) (hd : (x == ("__debug__" : Str)) = false := by decide)
    (hcd : (x == ("__classdict__" : Str)) = false := by decide)
    (hbase : attributeBase (.Name x pos1) "append" X.env (eval (.Name x pos1) X.env) = eval (.Name x pos1) X.env := by rfl)
    (hfew : ((backTo pos3 (starEach (e :: []) X.env)).all (fun x => !x.1) && (backToKw pos3 (keywordEach [] X.env)).all (fun x => x.1.isSome)
      && decide ((e :: []).length + ([] : List Keyword).length + (if ([] : List Keyword).isEmpty then 0 else 1) < 30)) = true := by rfl)
    (hline : (pos2.endLine == pos3.line) = true := by rfl) (hs : starEach (e :: []) X.env = (false, eval e X.env) :: starEach [] X.env := by rfl) (hplain : (backTo pos3 (starEach [] X.env)).any (·.1) = false := by rfl)
    (hsw : swapsWith (.Call (.Attribute (.Name x pos1) "append" pos2) [e] [] pos3) none pos.line X.env = pure false := by rfl) :
    DS X (.Expr (.Call (.Attribute (.Name x pos1) "append" pos2) [e] [] pos3) pos) (sApp i de) := by
  obtain ⟨t, a1, a2⟩ := he
  refine ⟨_, ps_expr (pe_bm PySem.F.plainAttrs_list PySem.F.slot_list_append PySem.F.type_list_append mt_append (pe_var hN hv hd hcd) (pa_cons a1 pa_nil hs) hbase hfew hline hs hplain) hsw, fun F0 B F H ρ σ s E DD h D k => ?_⟩
  unfold sApp at h
  split at h
  · rename_i ds q
    obtain ⟨hl, h⟩ := h
    obtain ⟨p, vs, h1, f0, f1, f2, f3⟩ := own_at E q
    refine ⟨.ref p, h1, .inl ⟨rfl, vs, .inl (.inl f2)⟩, a2 B F H ρ σ E _ h _ fun v d F' H' g r z => ?_⟩
    have f2' := g.hh p _ f2
    have f1' := g.own p f1 (by rw [f2]; trivial)
    refine ⟨p, vs, v, rfl, rfl, f2', by rw [f3.length]; exact hl.le, k.nx F' _ _ _ ((s.to g).wr f0 f1') (own_chg (E.grow g) q h1 f0 f1' ((f3.mono g.ff).append (.cons r .nil))) z⟩
  · exact h.elim
/-- x[e2] = e -/
def sSetI (i : Nat) (de di : RE) : RS := fun DD ρ => match ρ[i]? with
  | some (some (.own ds)) => de ρ fun d => di ρ fun k => (match k with | .int z => (match ixN ds.length z with | some j => DD.nx (ρ.set i (some (.own (ds.set j d)))) | none => False) | _ => False)
  | _ => False
theorem st_setI {i : Nat} {x : Str} {e2 : Expr} {di : RE} {pos1 pos2 : Pos} (he : DE X e de) (hi' : DE X e2 di) (hN : X.N[i]? = some x := by rfl) (hv : Vis X.env.scope x := by first | exact Or.inl rfl | exact Or.inr (Or.inl rfl) | exact Or.inr (Or.inr rfl)) (hd : (x == ("__debug__" : Str)) = false := by decide)
    (hcd : (x == ("__classdict__" : Str)) = false := by decide)
    (hs : swapsWithSole [.Subscript (.Name x pos1) e2 pos2] e pos.line X.env = pure false := by rfl) (hw : swappedStores [.Subscript (.Name x pos1) e2 pos2] e X.env = pure none := by rfl)
    (h1 : (assignEach [.Subscript (.Name x pos1) e2 pos2] X.env).map (·.2) = [assign (.Subscript (.Name x pos1) e2 pos2) X.env] := by rfl)
    (ha : ∀ v, assign (.Subscript (.Name x pos1) e2 pos2) X.env v = (do
      let ov ← holding [v] (eval (.Name x pos1) X.env)
      let iv ← holding [v, ov] (eval e2 X.env)
      standAt pos2
      holding [v, ov, iv] (setItem ov iv v)
      release [v, ov, iv] []) := by intro _; rfl) :
    DS X (.Assign [.Subscript (.Name x pos1) e2 pos2] e pos) (sSetI i de di) := by
  obtain ⟨t, a1, a2⟩ := he
  obtain ⟨u, b1, b2⟩ := hi'
  refine ⟨_, ps_asg a1 (pg_sub (pe_var hN hv hd hcd) b1 set_list ha) hs hw h1, fun F0 B F H ρ σ s E DD h D k => ?_⟩
  unfold sSetI at h
  split at h
  · rename_i ds q
    obtain ⟨p, vs, h1, f0, f1, f2, f3⟩ := own_at E q
    refine a2 B F H ρ σ E _ h _ fun v d F1 H1 g1 r1 z => ⟨.ref p, h1, b2 B F1 H1 ρ σ (E.grow g1) _ z _ fun w k' F2 H2 g2 r2 z => ?_⟩
    have g := g1.trans g2
    cases k' with
    | int n =>
      cases r2
      have z : (match ixN ds.length n with | some j => DD.nx (ρ.set i (some (.own (ds.set j d)))) | none => False) := z
      cases hj : ixN ds.length n with
      | none => rw [hj] at z; exact z.elim
      | some j =>
        rw [hj] at z
        refine ⟨p, vs, n, _, rfl, rfl, g.hh p _ f2, by rw [f3.length]; exact hj, ?_⟩
        exact k.nx F2 _ _ _ ((s.to g).wr f0 (g.own p f1 (by rw [f2]; trivial))) (own_chg (E.grow g) q h1 f0 (g.own p f1 (by rw [f2]; trivial)) ((f3.mono g.ff).set (r1.mono g2.ff) _)) z
    | none => exact z.elim
    | bool _ => exact z.elim
    | str _ => exact z.elim
    | list _ => exact z.elim
    | tuple _ => exact z.elim
    | dict _ => exact z.elim
  · exact h.elim
/-- x.pop() as a statement; y = x.pop() -/
def sPop (i : Nat) : RS := fun DD ρ => match ρ[i]? with | some (some (.own ds)) => ds ≠ [] ∧ DD.nx (ρ.set i (some (.own ds.dropLast))) | _ => False
theorem dp_last {K : Frag} {H : Hp} {vs : List V} {ds : List D} (h : DpAll K H vs ds) (hn : ds ≠ []) : ∃ v, vs[vs.length - 1]? = some v ∧ Dp K H v (ds.getLast hn) := by
  have e : ds[vs.length - 1]? = some (ds.getLast hn) := by
    rw [h.length, List.getLast_eq_getElem]
    exact List.getElem?_eq_getElem _
  exact h.get e
theorem st_pop {i : Nat} {x : Str} {pos1 pos2 pos3 : Pos} (hN : X.N[i]? = some x := by rfl) (hv : Vis X.env.scope x := by first | exact Or.inl rfl | exact Or.inr (Or.inl rfl) | exact Or.inr (Or.inr rfl)) (hd : (x == ("__debug__" : Str)) = false := by decide)
    (hcd : (x == ("__classdict__" : Str)) = false := by decide)
    (hbase : attributeBase (.Name x pos1) "pop" X.env (eval (.Name x pos1) X.env) = eval (.Name x pos1) X.env := by rfl) (hline : (pos2.endLine == pos3.line) = true := by rfl)
    (hsw : swapsWith (.Call (.Attribute (.Name x pos1) "pop" pos2) [] [] pos3) none pos.line X.env = pure false := by rfl) :
    DS X (.Expr (.Call (.Attribute (.Name x pos1) "pop" pos2) [] [] pos3) pos) (sPop i) := by
  refine ⟨_, ps_expr (pe_bm0 PySem.F.plainAttrs_list PySem.F.slot_list_pop PySem.F.type_list_pop mt_pop (pe_var hN hv hd hcd) hbase hline) hsw, fun F0 B F H ρ σ s E DD h D k => ?_⟩
  unfold sPop at h
  split at h
  · rename_i ds q
    obtain ⟨hn, h⟩ := h
    obtain ⟨p, vs, h1, f0, f1, f2, f3⟩ := own_at E q
    obtain ⟨v, hl, r⟩ := dp_last f3 hn
    exact ⟨.ref p, h1, .inl ⟨rfl, vs, .inl (.inl f2)⟩, p, vs, v, rfl, rfl, f2, hl, k.nx F _ _ _ (s.wr f0 f1) (own_chg E q h1 f0 f1 f3.dropLast) h⟩
  · exact h.elim
/-- a method without arguments that leaves another list: reverse -/
def sRev (i : Nat) : RS := fun DD ρ => match ρ[i]? with | some (some (.own ds)) => DD.nx (ρ.set i (some (.own ds.reverse))) | _ => False
theorem st_rev {i : Nat} {x : Str} {pos1 pos2 pos3 : Pos} (hN : X.N[i]? = some x := by rfl) (hv : Vis X.env.scope x := by first | exact Or.inl rfl | exact Or.inr (Or.inl rfl) | exact Or.inr (Or.inr rfl)) (hd : (x == ("__debug__" : Str)) = false := by decide)
    (hcd : (x == ("__classdict__" : Str)) = false := by decide)
    (hbase : attributeBase (.Name x pos1) "reverse" X.env (eval (.Name x pos1) X.env) = eval (.Name x pos1) X.env := by rfl) (hline : (pos2.endLine == pos3.line) = true := by rfl)
    (hsw : swapsWith (.Call (.Attribute (.Name x pos1) "reverse" pos2) [] [] pos3) none pos.line X.env = pure false := by rfl) :
    DS X (.Expr (.Call (.Attribute (.Name x pos1) "reverse" pos2) [] [] pos3) pos) (sRev i) := by
  refine ⟨_, ps_expr (pe_bm0 PySem.F.plainAttrs_list PySem.F.slot_list_reverse PySem.F.type_list_reverse (fun pins s σ H x xs v us Q I r rs h => mt_reverse pins s σ H x xs v us Q I r rs h) (pe_var hN hv hd hcd) hbase hline) hsw, fun F0 B F H ρ σ s E DD h D k => ?_⟩
  unfold sRev at h
  split at h
  · rename_i ds q
    obtain ⟨p, vs, h1, f0, f1, f2, f3⟩ := own_at E q
    exact ⟨.ref p, h1, .inl ⟨rfl, vs, .inl (.inl f2)⟩, p, vs, rfl, rfl, f2, k.nx F _ _ _ (s.wr f0 f1) (own_chg E q h1 f0 f1 f3.reverse) h⟩
  · exact h.elim

/-! ### while -/
def sWhile (c : RT) (body : RS) : RS := fun DD ρ => ∃ W : Nat → Rho → Prop, (∃ m, W m ρ) ∧ ∀ m ρ, W m ρ →
  c ρ fun b => (b = true → body { DD with nx := fun ρ' => ∃ m', m' < m ∧ W m' ρ', ct := fun ρ' => ∃ m', m' < m ∧ W m' ρ', bk := DD.nx } ρ) ∧ (b = false → DD.nx ρ)
theorem st_while {c : Expr} {body : List Stmt} (hc : DT X c dt) (hb : DSs X body ds) (hp : PassesOwn (model X.prog X.w) X.A X.env X.xe := by exact PassesOwn.never) : DS X (.While c body [] pos) (sWhile dt ds) := by
  obtain ⟨t, c1, c2⟩ := hc
  obtain ⟨u, b1, b2⟩ := hb
  refine ⟨_, ps_while hp c1 b1, fun F0 B F H ρ σ s E DD h D k => ?_⟩
  obtain ⟨W, ⟨m0, w0⟩, turn⟩ := h
  refine ⟨fun m σ H => ∃ F ρ, Gr F0 B F H ∧ EnvOk X.K B F H ρ σ ∧ W m ρ, ⟨m0, F, ρ, s, E, w0⟩, ?_⟩
  rintro m σ1 H1 ⟨F1, ρ1, s1, E1, w1⟩
  refine c2 B F1 H1 ρ1 σ1 E1 _ (turn m ρ1 w1) _ fun b F2 H2 g z => ?_
  cases b with
  | true =>
    refine ⟨fun σ' H' => ∃ F' ρ', Gr F0 B F' H' ∧ EnvOk X.K B F' H' ρ' σ' ∧ ∃ m', m' < m ∧ W m' ρ', fun σ' H' ⟨F', ρ', s', E', m', hm, w⟩ => ⟨m', hm, F', ρ', s', E', w⟩, ?_⟩
    exact b2 F0 B F2 H2 ρ1 σ1 (s1.to g) (E1.grow g) _ (z.1 rfl) _ ⟨fun F' H' ρ' σ' s' E' q => ⟨F', ρ', s', E', q⟩, k.rt, k.nx, fun F' H' ρ' σ' s' E' q => ⟨F', ρ', s', E', q⟩⟩
  | false => exact k.nx F2 H2 ρ1 σ1 (s1.to g) (E1.grow g) (z.2 rfl)

/-! ### what a for walks -/
/-- J gives the items, while G stands -/
def IterOk (K : Frag) (J : It) (F G : Hp) (items : List D) : Prop := ∀ F1 H1, Same F F1 → Same G H1 → Same F1 H1 → ∀ i : Nat,
  (i < items.length → J.go i H1 ∧ ∀ x H2, J.yld i H1 x H2 → ∃ F2, Gr F1 H1 F2 H2 ∧ ∃ d, items[i]? = some d ∧ Dp K F2 x d) ∧ (items.length ≤ i → J.stop i H1)
theorem IterOk.mono {K : Frag} {J : It} {F G F' G' : Hp} {items : List D} (h : IterOk K J F G items) (a : Same F F') (b : Same G G') : IterOk K J F' G' items := fun F1 H1 x y z => h F1 H1 (a.trans x) (b.trans y) z
/-- it stands by what stays -/
def SimI (K : Frag) (wi : TI) (di : RL) : Prop := ∀ (B F H : Hp) (ρ : Rho) (σ : L2.St), EnvOk K B F H ρ σ → ∀ q : List D → Prop, di ρ q → ∀ R : It → Hp → Prop, (∀ J items F' H', Gr F H F' H' → IterOk K J F' F' items → q items → R J H') → wi σ H R
/-- it stands while nothing is changed -/
def SimIc (K : Frag) (wi : TI) (di : RL) : Prop := ∀ (B F H : Hp) (ρ : Rho) (σ : L2.St), EnvOk K B F H ρ σ → ∀ q : List D → Prop, di ρ q → ∀ R : It → Hp → Prop, (∀ J items F' H', Gr F H F' H' → IterOk K J F' H' items → q items → R J H') → wi σ H R
def DI (X : Cx) (tg e : Expr) (di : RL) : Prop := ∃ wi, PI X tg e wi ∧ SimI X.K wi di
def DIc (X : Cx) (tg e : Expr) (di : RL) : Prop := ∃ wi, PI X tg e wi ∧ SimIc X.K wi di
theorem DI.c {tg e : Expr} {di : RL} (h : DI X tg e di) : DIc X tg e di := by
  obtain ⟨wi, h1, h2⟩ := h
  exact ⟨wi, h1, fun B F H ρ σ E q hq R k => h2 B F H ρ σ E q hq R fun J items F' H' g it z => k J items F' H' g (it.mono (Same.refl _) g.fh) z⟩
theorem iter_seqL {K : Frag} {a : Addr} {vs : List V} {ds : List D} {F G : Hp} (h : SqL K G a vs) (ha : DpAll K F vs ds) : IterOk K (Itl K a) F G ds := fun F1 H1 sF sG s1 i => by
  have q := sG.seq h
  refine ⟨fun hi => ⟨⟨vs, vs[i]'(by rw [ha.length]; exact hi), q, by simp⟩, fun x H2 y => ?_⟩, fun hi => ⟨vs, q, by rw [ha.length]; exact hi⟩⟩
  obtain ⟨rfl, y⟩ := y
  obtain ⟨v, hv, r⟩ := ha.get (List.getElem?_eq_getElem hi)
  have e := y vs q
  rw [hv] at e
  cases e
  exact ⟨F1, Gr.refl s1, ds[i], List.getElem?_eq_getElem hi, r.mono sF⟩
theorem iter_seqT {K : Frag} {a : Addr} {vs : List V} {ds : List D} {F G : Hp} (h : SqT K G a vs) (ha : DpAll K F vs ds) : IterOk K (Itt K a) F G ds := fun F1 H1 sF sG s1 i => by
  have q := sG.seqT h
  refine ⟨fun hi => ⟨⟨vs, vs[i]'(by rw [ha.length]; exact hi), q, by simp⟩, fun x H2 y => ?_⟩, fun hi => ⟨vs, q, by rw [ha.length]; exact hi⟩⟩
  obtain ⟨rfl, y⟩ := y
  obtain ⟨v, hv, r⟩ := ha.get (List.getElem?_eq_getElem hi)
  have e := y vs q
  rw [hv] at e
  cases e
  exact ⟨F1, Gr.refl s1, ds[i], List.getElem?_eq_getElem hi, r.mono sF⟩
/-- a list or a tuple -/
def iSeq (de : RE) : RL := fun ρ q => de ρ fun d => match d with | .list xs => q xs | .tuple xs => q xs | _ => False
theorem PI.or {tg e : Expr} {w1 w2 : TI} (h1 : PI X tg e w1) (h2 : PI X tg e w2) : PI X tg e (fun σ H R => w1 σ H R ∨ w2 σ H R) :=
  ⟨fun pins s σ H R I h => h.elim (h1.run pins s σ H R I) (h2.run pins s σ H R I)⟩
/-- both ways of one reading -/
def iBoth (K : Frag) (te : TE) : TI := fun σ H R => te σ H fun x H1 => ∃ a, x = .ref a ∧ ((∃ xs, SqL K H1 a xs ∧ R (Itl K a) H1) ∨ (∃ xs, SqT K H1 a xs ∧ R (Itt K a) H1))
theorem pi_both {tg e : Expr} {te : TE} (he : PE X e te) : PI X tg e (iBoth X.K te) := by
  refine ⟨fun pins s σ H R I h => ?_⟩
  refine thn (he.run pins s σ H _ I h) fun v s1 ⟨x, H1, I1, r1, a, e, q⟩ => ?_
  subst e
  have hv : v = .ref a := r1
  subst hv
  -- the walk of a list, of a tuple, as pi_list and pi_tup have it
  have fin : ∀ {it : Addr} {tk : Nat}, it = s1.heap.objs.size → FpOk X pins H1 it := fun {it tk} e => by
    subst e
    exact I1.fpOk (Nat.le_refl _) (I1.hok.fresh (Nat.le_refl _))
  rcases q with ⟨xs, hq, q⟩ | ⟨xs, hq, q⟩
  · obtain ⟨its, rv, p, hz⟩ := I1.list hq
    refine wpAny_pyIter_list p.isList ?_
    exact ⟨s1.heap.objs.size, [s1.heap.objs.size], _, _, H1, rfl, I1.kept (t' := s1.toks) fun b o e => Heap.get?_push_of_some _ e, turn_list a _, ⟨_, Heap.get?_push_size _ rfl, rfl, rfl⟩, fun b hb => fin (tk := 0) (by simpa using hb), q⟩
  · obtain ⟨its, rv, p, hz⟩ := I1.tuple hq
    refine wpAny_pyIter_tuple (show s1.heap.IsTuple a its.toArray from p) ?_
    exact ⟨s1.heap.objs.size, [s1.heap.objs.size], _, _, H1, rfl, I1.kept (t' := s1.toks) fun b o e => Heap.get?_push_of_some _ e, turn_tuple a _, ⟨_, Heap.get?_push_size _ rfl, rfl, rfl⟩, fun b hb => fin (tk := 0) (by simpa using hb), q⟩
theorem i_seq {tg : Expr} (h : DE X e de) : DI X tg e (iSeq de) := by
  obtain ⟨te, h1, h2⟩ := h
  refine ⟨_, pi_both h1, fun B F H ρ σ E q hq R k => h2 B F H ρ σ E _ hq _ fun v d F' H' g r z => ?_⟩
  cases r with
  | lst hs ha => exact ⟨_, rfl, .inl ⟨_, g.fh.seq hs, k _ _ F' H' g (iter_seqL hs ha) z⟩⟩
  | tup hs ha => exact ⟨_, rfl, .inr ⟨_, g.fh.seqT hs, k _ _ F' H' g (iter_seqT hs ha) z⟩⟩
  | _ => exact z.elim
theorem i_seqC {tg : Expr} (h : DB X e de) : DIc X tg e (iSeq de) := by
  obtain ⟨te, h1, h2⟩ := h
  refine ⟨_, pi_both h1, fun B F H ρ σ E q hq R k => h2 B F H ρ σ E _ hq _ fun v d F' H' g r z => ?_⟩
  cases d with
  | list xs =>
    obtain ⟨a, vs, rfl, s1, d1⟩ := r.lst g.fh
    exact ⟨_, rfl, .inl ⟨_, s1, k _ _ F' H' g (iter_seqL s1 d1) z⟩⟩
  | tuple xs =>
    obtain ⟨a, vs, rfl, s0, s1, d1⟩ := r.tup g.fh
    exact ⟨_, rfl, .inr ⟨_, s1, k _ _ F' H' g (iter_seqT s1 d1) z⟩⟩
  | _ => exact z.elim
/-- reversed(e), e a list or a tuple -/
theorem rev_at {vs : List V} {ds : List D} {i : Nat} (hl : vs.length = ds.length) (hi : i < ds.length) : ds.reverse[i]? = ds[vs.length - 1 - i]? := by
  rw [List.getElem?_reverse hi, hl]
theorem iter_revL {K : Frag} {a : Addr} {vs : List V} {ds : List D} {F G : Hp} (h : SqL K G a vs) (ha : DpAll K F vs ds) : IterOk K (Itv K a vs.length) F G ds.reverse := fun F1 H1 sF sG s1 i => by
  have q := sG.seq h
  have hl := ha.length
  rw [List.length_reverse]
  refine ⟨fun hi => ?_, fun hi => by show vs.length ≤ i; omega⟩
  have hj : vs.length - 1 - i < ds.length := by omega
  obtain ⟨v, hv, r⟩ := ha.get (List.getElem?_eq_getElem hj)
  refine ⟨⟨by omega, vs, v, q, hv⟩, fun x H2 y => ?_⟩
  obtain ⟨rfl, y⟩ := y
  have e := y vs q
  rw [hv] at e
  cases e
  exact ⟨F1, Gr.refl s1, ds[vs.length - 1 - i], by rw [rev_at hl hi]; exact List.getElem?_eq_getElem hj, r.mono sF⟩
theorem iter_revT {K : Frag} {a : Addr} {vs : List V} {ds : List D} {F G : Hp} (h : SqT K G a vs) (ha : DpAll K F vs ds) : IterOk K (RT.ItvT K a vs.length) F G ds.reverse := fun F1 H1 sF sG s1 i => by
  have q := sG.seqT h
  have hl := ha.length
  rw [List.length_reverse]
  refine ⟨fun hi => ?_, fun hi => by show vs.length ≤ i; omega⟩
  have hj : vs.length - 1 - i < ds.length := by omega
  obtain ⟨v, hv, r⟩ := ha.get (List.getElem?_eq_getElem hj)
  refine ⟨⟨by omega, vs, v, q, hv⟩, fun x H2 y => ?_⟩
  obtain ⟨rfl, y⟩ := y
  have e := y vs q
  rw [hv] at e
  cases e
  exact ⟨F1, Gr.refl s1, ds[vs.length - 1 - i], by rw [rev_at hl hi]; exact List.getElem?_eq_getElem hj, r.mono sF⟩
def iRevD (de : RE) : RL := fun ρ q => de ρ fun d => match d with | .list xs => q xs.reverse | .tuple xs => q xs.reverse | _ => False
theorem i_rev {tg : Expr} {p : Pos} (h : DE X e de) (hm : X.mg "reversed" = none) (hg : Gl X "reversed" := by rfl) (hs : starEach [e] X.env = (false, eval e X.env) :: starEach [] X.env := by rfl) : DI X tg (.Call (.Name "reversed" p) [e] [] pos) (iRevD de) := by
  obtain ⟨te, h1, h2⟩ := h
  refine ⟨_, RT.pi_revA hg hm h1 hs, fun B F H ρ σ E q hq R k => h2 B F H ρ σ E _ hq _ fun v d F' H' g r z => ?_⟩
  cases r with
  | lst hs ha => exact ⟨_, _, rfl, .inl ⟨g.fh.seq hs, k _ _ F' H' g (iter_revL hs ha) z⟩⟩
  | tup hs ha => exact ⟨_, _, rfl, .inr ⟨g.fh.seqT hs, k _ _ F' H' g (iter_revT hs ha) z⟩⟩
  | _ => exact z.elim
theorem i_revC {tg : Expr} {p : Pos} (h : DB X e de) (hm : X.mg "reversed" = none) (hg : Gl X "reversed" := by rfl) (hs : starEach [e] X.env = (false, eval e X.env) :: starEach [] X.env := by rfl) : DIc X tg (.Call (.Name "reversed" p) [e] [] pos) (iRevD de) := by
  obtain ⟨te, h1, h2⟩ := h
  refine ⟨_, RT.pi_revA hg hm h1 hs, fun B F H ρ σ E q hq R k => h2 B F H ρ σ E _ hq _ fun v d F' H' g r z => ?_⟩
  cases d with
  | list xs =>
    obtain ⟨a, vs, rfl, s1, d1⟩ := r.lst g.fh
    exact ⟨_, _, rfl, .inl ⟨s1, k _ _ F' H' g (iter_revL s1 d1) z⟩⟩
  | tuple xs =>
    obtain ⟨a, vs, rfl, s0, s1, d1⟩ := r.tup g.fh
    exact ⟨_, _, rfl, .inr ⟨s1, k _ _ F' H' g (iter_revT s1 d1) z⟩⟩
  | _ => exact z.elim
/-- lo, lo + 1, .., n of them -/
def upTo : Int → Nat → List D
  | _, 0 => []
  | lo, n + 1 => .int lo :: upTo (lo + 1) n
theorem upTo_length : ∀ (lo : Int) (n : Nat), (upTo lo n).length = n
  | _, 0 => rfl
  | lo, n + 1 => by
    show (upTo (lo + 1) n).length + 1 = n + 1
    rw [upTo_length (lo + 1) n]
theorem upTo_get : ∀ (lo : Int) (n i : Nat), i < n → (upTo lo n)[i]? = some (.int (lo + i))
  | lo, n + 1, 0, _ => by
    show some (PyData.int lo) = some (PyData.int (lo + (0 : Nat)))
    simp
  | lo, n + 1, i + 1, h => by
    show (upTo (lo + 1) n)[i]? = _
    rw [upTo_get (lo + 1) n i (by omega)]
    congr 2
    omega
theorem iter_range {K : Frag} {lo : Int} {n : Nat} {F G : Hp} : IterOk K (Itr lo n) F G (upTo lo n) := fun F1 H1 sF sG s1 i => by
  rw [upTo_length]
  refine ⟨fun hi => ⟨hi, fun x H2 y => ?_⟩, fun hi => hi⟩
  obtain ⟨rfl, rfl⟩ := y
  exact ⟨F1, Gr.refl s1, _, upTo_get lo n i hi, .int _⟩
def iRange1 (de : RE) : RL := fun ρ q => de ρ fun d => match d with | .int j => Rng j ∧ q (upTo 0 j.toNat) | _ => False
theorem i_range1 {tg : Expr} {p : Pos} (h : DE X a de) (hm : X.mg "range" = none) (hg : Gl X "range" := by rfl) (hs : starEach [a] X.env = [(false, eval a X.env)] := by rfl) : DI X tg (.Call (.Name "range" p) [a] [] pos) (iRange1 de) := by
  obtain ⟨te, h1, h2⟩ := h
  refine ⟨_, pi_range1 hg hm (pa_cons h1 pa_nil hs) hs, fun B F H ρ σ E q hq R k => h2 B F H ρ σ E _ hq _ fun v d F' H' g r z => ?_⟩
  cases r with
  | int j => exact ⟨j, rfl, z.1.lo, z.1.hi, k _ _ F' H' g iter_range z.2⟩
  | _ => exact z.elim
def iRange2 (da db : RE) : RL := fun ρ q => da ρ fun x => db ρ fun y => match x, y with | .int i, .int j => (Rng i ∧ Rng j) ∧ q (upTo i (j - i).toNat) | _, _ => False
theorem i_range2 {tg : Expr} {p : Pos} (h : DE X a da) (g' : DE X b db) (hm : X.mg "range" = none) (hg : Gl X "range" := by rfl) (hs : starEach [a, b] X.env = [(false, eval a X.env), (false, eval b X.env)] := by rfl) (hs2 : starEach [b] X.env = [(false, eval b X.env)] := by rfl)
    (hs3 : starEach [a, b] X.env = (false, eval a X.env) :: starEach [b] X.env := by rfl) : DI X tg (.Call (.Name "range" p) [a, b] [] pos) (iRange2 da db) := by
  obtain ⟨te, h1, h2⟩ := h
  obtain ⟨ue, u1, u2⟩ := g'
  refine ⟨_, pi_range2 hg hm (pa_cons h1 (pa_cons u1 pa_nil hs2) hs3) hs hs2, fun B F H ρ σ E q hq R k => h2 B F H ρ σ E _ hq _ fun v x F1 H1 g1 r z => u2 B F1 H1 ρ σ (E.grow g1) _ z _ fun u y F2 H2 g2 r2 z => ?_⟩
  cases x with
  | int i =>
    cases y with
    | int j =>
      cases r
      cases r2
      exact ⟨i, j, rfl, ⟨z.1.1.lo, z.1.1.hi, z.1.2.lo, z.1.2.hi⟩, k _ _ F2 H2 (g1.trans g2) iter_range z.2⟩
    | _ => exact z.elim
  | _ => exact z.elim
/-- lo, lo - 1, .., n of them -/
def downTo : Int → Nat → List D
  | _, 0 => []
  | lo, n + 1 => .int lo :: downTo (lo - 1) n
theorem downTo_length : ∀ (lo : Int) (n : Nat), (downTo lo n).length = n
  | _, 0 => rfl
  | lo, n + 1 => by
    show (downTo (lo - 1) n).length + 1 = n + 1
    rw [downTo_length (lo - 1) n]
theorem downTo_get : ∀ (lo : Int) (n i : Nat), i < n → (downTo lo n)[i]? = some (.int (lo + (i : Nat) * (-1)))
  | lo, n + 1, 0, _ => by
    show some (PyData.int lo) = some (PyData.int (lo + ((0 : Nat) : Int) * (-1)))
    simp
  | lo, n + 1, i + 1, h => by
    show (downTo (lo - 1) n)[i]? = _
    rw [downTo_get (lo - 1) n i (by omega)]
    congr 2
    omega
/-- range(a, b, -1) -/
def iRangeD (da db : RE) : RL := fun ρ q => da ρ fun x => db ρ fun y => match x, y with | .int i, .int j => (Rng i ∧ Rng j) ∧ q (downTo i (i - j).toNat) | _, _ => False
theorem i_rangeD {tg c : Expr} {p : Pos} (h : DE X a da) (g' : DE X b db) (hc : PE X c (tUn (rU fun i => .int (-i)) (tC (.int 1)))) (hm : X.mg "range" = none) (hg : Gl X "range" := by rfl)
    (hs : starEach [a, b, c] X.env = (false, eval a X.env) :: starEach [b, c] X.env := by rfl) (hpl : (backTo pos (starEach [b, c] X.env)).any (·.1) = false := by rfl) (hs2 : starEach [b, c] X.env = (false, eval b X.env) :: starEach [c] X.env := by rfl) (hs3 : starEach [c] X.env = (false, eval c X.env) :: starEach [] X.env := by rfl) :
    DI X tg (.Call (.Name "range" p) [a, b, c] [] pos) (iRangeD da db) := by
  · obtain ⟨te, h1, h2⟩ := h
    obtain ⟨ue, u1, u2⟩ := g'
    refine ⟨_, pi_range3 hg hm (pa_cons h1 (pa_cons u1 (pa_cons hc pa_nil hs3) hs2) hs) hs hpl, fun B F H ρ σ E q hq R k => h2 B F H ρ σ E _ hq _ fun v x F1 H1 g1 r z => u2 B F1 H1 ρ σ (E.grow g1) _ z _ fun u y F2 H2 g2 r2 z => ?_⟩
    cases x with
    | int i =>
      cases y with
      | int j =>
        cases r
        cases r2
        refine ⟨1, rfl, i, j, -1, (i - j).toNat, rfl, RgC.neg z.1.1.lo z.1.1.hi z.1.2.lo z.1.2.hi, k _ _ F2 H2 (g1.trans g2) (fun F3 H3 sF sG s1 n => ?_) z.2⟩
        rw [downTo_length]
        refine ⟨fun hi => ⟨hi, fun x H2 y => ?_⟩, fun hi => hi⟩
        obtain ⟨rfl, rfl⟩ := y
        exact ⟨F3, Gr.refl s1, _, downTo_get i _ n hi, .int _⟩
      | _ => exact z.elim
    | _ => exact z.elim

/-! ### for -/
def forD (g : RG) (body : RS) (DD : DEnds) : List D → Rho → Prop
  | [], ρ => DD.nx ρ
  | d :: r, ρ => g d ρ fun ρ1 => body { DD with nx := forD g body DD r, ct := forD g body DD r, bk := DD.nx } ρ1
def sFor (di : RL) (g : RG) (body : RS) : RS := fun DD ρ => di ρ fun items => forD g body DD items ρ
theorem st_for {tg iter : Expr} {body : List Stmt} {di : RL} {dg : RG} (hi : DI X tg iter di) (hg : DG X tg dg) (hb : DSs X body ds) (hc : X.calm = true := by rfl) (hp : PassesOwn (model X.prog X.w) X.A X.env X.xe := by exact PassesOwn.never)
    (hs : ∀ x, foldedSetIterable iter X.env x = pure x := by intro _; rfl) : DS X (.For tg iter body [] pos) (sFor di dg ds) := by
  obtain ⟨wi, i1, i2⟩ := hi
  obtain ⟨g, g1, g2⟩ := hg
  obtain ⟨tb, b1, b2⟩ := hb
  refine ⟨_, ps_for hp hc i1 g1 b1 hs, fun F0 B F H ρ σ s E DD h D k => i2 B F H ρ σ E _ h _ fun J items F1 H1 gr it z => ?_⟩
  have s0 := s.to gr
  have k0 := k.mono s0
  refine ⟨fun i m σ H => ∃ F2 ρ, Gr F1 B F2 H ∧ EnvOk X.K B F2 H ρ σ ∧ m = items.length - i ∧ i ≤ items.length ∧ forD dg ds DD (items.drop i) ρ, ⟨items.length, F1, ρ, s0.self, E.grow gr, by simp, Nat.zero_le _, by simpa using z⟩, ?_⟩
  rintro i m σ2 H2 ⟨F2, ρ2, s2, E2, rfl, hi, hz⟩
  obtain ⟨go, stop⟩ := it F2 H2 s2.ff (s2.ff.trans E2.fh) E2.fh i
  by_cases hlt : i < items.length
  · obtain ⟨go, yl⟩ := go hlt
    refine .inr ⟨go, fun σ' H' => ∃ F' ρ', Gr F1 B F' H' ∧ EnvOk X.K B F' H' ρ' σ' ∧ forD dg ds DD (items.drop (i + 1)) ρ', fun σ' H' ⟨F', ρ', s', E', q⟩ => ⟨_, by omega, F', ρ', s', E', rfl, hlt, q⟩, fun x H3 y => ?_⟩
    obtain ⟨F3, gr3, d, hd, r⟩ := yl x H3 y
    have ed : items.drop i = d :: items.drop (i + 1) := by
      have e2 : items[i] = d := Option.some.inj ((List.getElem?_eq_getElem hlt).symm.trans hd)
      rw [← e2]
      exact List.drop_eq_getElem_cons hlt
    rw [ed] at hz
    refine g2 B F3 H3 ρ2 σ2 x d (E2.grow gr3) r _ hz _ fun ρ4 σ4 E4 w => ?_
    exact b2 F1 B F3 H3 ρ4 σ4 (s2.to gr3) E4 _ w _ ⟨fun F' H' ρ' σ' s' E' q => ⟨F', ρ', s', E', q⟩, k0.rt, k0.nx, fun F' H' ρ' σ' s' E' q => ⟨F', ρ', s', E', q⟩⟩
  · have e : i = items.length := by omega
    refine .inl ⟨stop (by omega), ?_⟩
    rw [e, List.drop_length] at hz
    exact k0.nx F2 H2 ρ2 σ2 s2 E2 hz
end
end DL

namespace DL
open PySem PySem.Spec PyProof.Rows L2

/-! ### repr of plain data with great whole numbers -/
def reprOk : D → Bool
  | .int _ | .list _ | .tuple _ => true
  | _ => false
def bigLine : Nat := 2 ^ 12000
mutual
def rpD : D → Bool
  | .none | .bool _ => true
  | .int i => decide (i.natAbs < bigLine)
  | .list xs | .tuple xs => rpAll xs
  | _ => false
def rpAll : List D → Bool
  | [] => true
  | x :: xs => rpD x && rpAll xs
end
mutual
def cells : D → Nat
  | .list xs | .tuple xs => 1 + cellsAll xs
  | _ => 1
def cellsAll : List D → Nat
  | [] => 0
  | x :: xs => cells x + cellsAll xs
end
theorem big_lt {i : Int} (h : i.natAbs < bigLine) : i.natAbs < 10 ^ 3640 := Nat.lt_of_lt_of_le h (by unfold bigLine; decide +kernel)
mutual
theorem rp_len : ∀ d : D, rpD d = true → d.shown.length + 2 ≤ 3700 * cells d
  | .none, _ => by
    have e : (PyData.shown .none).length = 4 := rfl
    rw [e]; simp [cells]
  | .bool b, _ => by
    have e : (PyData.shown (.bool b)).length ≤ 5 := by cases b <;> decide
    simp only [cells]; omega
  | .int i, h => by
    have e := int_text_length_le10 (k := 3640) (by decide) (big_lt (by simpa [rpD] using h))
    show (Str.ofString (toString i)).length + 2 ≤ _
    rw [PySem.ofString_length]
    simp only [cells]
    omega
  | .list xs, h => by
    have h3 := rp_lenAll xs (by simpa only [rpD] using h)
    have h4 := listText_len_le (PyData.shownAll xs)
    have h5 := PyData.shownAll_length xs
    simp only [PyData.shown, cells]
    omega
  | .tuple xs, h => by
    have h3 := rp_lenAll xs (by simpa only [rpD] using h)
    have h4 := tupleText_len_le (PyData.shownAll xs)
    have h5 := PyData.shownAll_length xs
    simp only [PyData.shown, cells]
    omega
  | .str _, h => by simp [rpD] at h
  | .dict _, h => by simp [rpD] at h
theorem rp_lenAll : ∀ xs : List D, rpAll xs = true → ((PyData.shownAll xs).map (·.length)).sum + 2 * xs.length ≤ 3700 * cellsAll xs
  | [], _ => by simp [PyData.shownAll, cellsAll]
  | x :: xs, h => by
    have h' : rpD x = true ∧ rpAll xs = true := by simpa only [rpAll, Bool.and_eq_true] using h
    have a3 := rp_len x h'.1
    have b3 := rp_lenAll xs h'.2
    simp only [PyData.shownAll, cellsAll, List.map_cons, List.sum_cons, List.length_cons]
    omega
end
section
variable {prog : Program} {w : World} {h₀ : Heap}
theorem int_text {A : Around} {E : Value → Shared → Prop} {s : Shared} {a : Int} {t : Tok} {Q : Value → Shared → Prop} (hn : s.heap.NoDigits) (ha : a.natAbs < bigLine) (h : Q (.str (toString a) s.toks) { s with toks := s.toks + 1 }) :
    wpAny (model prog w) A (call (.builtin "int.__repr__") [.int a t]) Q E s := by
  have hb : a.natAbs < 10 ^ 4300 := Nat.lt_of_lt_of_le (big_lt ha) (Nat.pow_le_pow_right (by decide) (by decide))
  refine wpAny_call_entry F.slot_int_repr (typeIs_int s a t) F.entry_int_repr ?_ (F.args_int_repr_1 _)
  unfold Builtin.«int.__repr__»
  show wpAny _ _ (do let r ← Builtin.overDigitLimit? a; _) _ _ s
  refine wpAny_bind (overDigitLimit_any hn (fun _ => wpAny_bind (wpAny_mkStr (wpAny_pure ⟨_, rfl, h⟩) (int_text_fits10 hb))) fun hge => ?_)
  exact absurd hb (Nat.not_lt.mpr hge)
theorem repr_int (hn : h₀.NoDigits) (a : Int) (t : Tok) (ha : a.natAbs < bigLine) (as : List Addr) (d : Nat) : ReprK prog w as h₀ d (.int a t) (toString a) := by
  intro base hb A g E s Q _ _ hu hk hQ
  have hb' : base ≤ sizeLine := by omega
  rw [pyReprUnder_leaf (v := .int a t) hb' (fun _ e => nomatch e)]
  unfold pyRepr
  refine wpAny_bind (wpAny_pyReprObj_slot (by omega) (typeIs_int s a t) F.slot_int_repr.toG (int_text (hn.keeps hk) ha ⟨_, _, rfl, wpAny_pure ?_⟩))
  exact hQ s.heap _ fun _ _ e => e
mutual
theorem rp_repr (hn : h₀.NoDigits) : ∀ {v : Value} {d : D} {as : List Addr}, Reads h₀ v d as → rpD d = true → d.shown.length ≤ sizeLine → ∃ bs, ReadAtMost h₀ d.depth bs ∧ ReprK prog w bs h₀ d.depth v d.shown
  | _, _, _, .none, _, _ => ⟨[], (fun _ h => nomatch h), by simp only [PyData.shown]; exact .of_is ReprIs.none _ _ _⟩
  | _, _, _, .bool b, _, _ => ⟨[], (fun _ h => nomatch h), by simp only [PyData.shown]; exact .of_is (ReprIs.bool b) _ _ _⟩
  | _, _, _, .int i t, hs, _ => ⟨[], (fun _ h => nomatch h), by simp only [PyData.shown]; exact repr_int hn i t (by simpa [rpD] using hs) _ _⟩
  | _, _, _, .str x t, hs, _ => by simp [rpD] at hs
  | _, _, _, .list (a := a) (vs := vs) (xs := xs) h1 h2 h3 h4, hs, hz => by
    have hz' : (listText (PyData.shownAll xs)).length ≤ sizeLine := by simpa only [PyData.shown] using hz
    obtain ⟨bs, hb, hk⟩ := rp_reprAll hn h4 (by simpa only [rpD] using hs) fun t ht => Nat.le_trans (listText_mem_le ht) hz'
    have r : Reads h₀ (.ref a) (.list xs) _ := .list h1 h2 h3 h4
    refine ⟨a :: bs, .cons r (by simp only [PyData.depth]; omega) hb, ?_⟩
    have off : a ∉ bs := not_mem_of_deeper r (by simp only [PyData.depth]; omega) hb
    simp only [PyData.depth, PyData.shown]
    obtain ⟨l⟩ := vs
    cases l with
    | nil =>
      have h4' : ReadsAll h₀ [] xs _ := h4
      cases h4'
      simp only [PyData.shownAll, listText_nil]
      exact .listEmpty h1 h2 h3
    | cons x l => exact .list h1 h2 h3 off (by simpa using hk.length_eq) fun i y e => hk.item i y (by simpa using e)
  | _, _, _, .tuple (a := a) (xs := xs) h1 h2 h3 h4, hs, hz => by
    have hz' : (tupleText (PyData.shownAll xs)).length ≤ sizeLine := by simpa only [PyData.shown] using hz
    obtain ⟨bs, hb, hk⟩ := rp_reprAll hn h4 (by simpa only [rpD] using hs) fun t ht => Nat.le_trans (tupleText_mem_le ht) hz'
    have r : Reads h₀ (.ref a) (.tuple xs) _ := .tuple h1 h2 h3 h4
    refine ⟨a :: bs, .cons r (by simp only [PyData.depth]; omega) hb, ?_⟩
    have off : a ∉ bs := not_mem_of_deeper r (by simp only [PyData.depth]; omega) hb
    simp only [PyData.depth, PyData.shown]
    exact .tuple h1 h2 h3 off hk
  | _, _, _, .dict _ _ _ _ _, hs, _ => by simp [rpD] at hs
theorem rp_reprAll (hn : h₀.NoDigits) : ∀ {vs : List Value} {ds : List D} {as : List Addr}, ReadsAll h₀ vs ds as → rpAll ds = true → (∀ t ∈ PyData.shownAll ds, t.length ≤ sizeLine) →
    ∃ bs, ReadAtMost h₀ (PyData.depthAll ds) bs ∧ ReprAllK prog w bs h₀ (PyData.depthAll ds) vs (PyData.shownAll ds)
  | _, _, _, .nil, _, _ => ⟨[], (fun _ h => nomatch h), by simp only [PyData.shownAll]; exact .nil⟩
  | _, _, _, .cons (d := d) (ds := ds) r rs, hs, hz => by
    have hs' : rpD d = true ∧ rpAll ds = true := by simpa only [rpAll, Bool.and_eq_true] using hs
    simp only [PyData.shownAll, List.mem_cons, forall_eq_or_imp] at hz
    obtain ⟨b1, c1, k1⟩ := rp_repr hn r hs'.1 hz.1
    obtain ⟨b2, c2, k2⟩ := rp_reprAll hn rs hs'.2 hz.2
    simp only [PyData.depthAll, PyData.shownAll]
    exact ⟨b1 ++ b2, (c1.mono (Nat.le_max_left _ _)).append (c2.mono (Nat.le_max_right _ _)), .cons ((k1.more fun b hb => List.mem_append_left _ hb).level_le (Nat.le_max_left _ _)) (k2.more_le (fun b hb => List.mem_append_right _ hb) (Nat.le_max_right _ _))⟩
end
/-- repr(v), v no text -/
theorem rp_call {A : Around} {E : Value → Shared → Prop} {s : Shared} {v : Value} {d : D} {as : List Addr} {Q : Value → Shared → Prop} (hn : s.heap.NoDigits) (r : Reads s.heap v d as) (hc : reprOk d = true) (hs : rpD d = true) (hz : d.shown.length ≤ sizeLine) (hg : A.guards = some []) (hu : A.units + (d.depth + 1) < cLine)
    (hQ : ∀ h' u tk, (∀ b o, s.heap.get? b = some o → h'.get? b = some o) → Q (.str d.shown u) { s with heap := h', toks := tk }) : wpAny (model prog w) A (call (.builtin "repr") [v]) Q E s := by
  have hk0 : ∀ b o, s.heap.get? b = some o → s.heap.get? b = some o := fun _ _ e => e
  have fin : ∀ h' u tk, (∀ b o, s.heap.get? b = some o → h'.get? b = some o) → ∃ x t, (Value.str d.shown u) = .str x t ∧ Q (.str d.shown u) { s with heap := h', toks := tk } := fun h' u tk hk => ⟨_, _, rfl, hQ h' u tk hk⟩
  cases r with
  | int i t => exact call_repr_slot (by omega) (typeIs_int s i t) F.slot_int_repr.toG (int_text hn (by simpa [rpD] using hs) (fin s.heap _ _ hk0))
  | list h1 h2 h3 h4 =>
    rename_i o vs n xs bs₀
    have hz' : (listText (PyData.shownAll xs)).length ≤ sizeLine := by simpa only [PyData.shown] using hz
    obtain ⟨bs, hb, hk⟩ := rp_reprAll (prog := prog) (w := w) hn h4 (by simpa only [rpD] using hs) fun t ht => Nat.le_trans (listText_mem_le ht) hz'
    have off := not_mem_of_deeper (.list h1 h2 h3 h4) (by simp only [PyData.depth]; omega) hb
    simp only [PyData.depth] at hu
    simp only [PyData.shown] at fin
    refine call_repr_slot (by omega) ⟨o, h1, h2⟩ F.slot_list_repr.toG ?_
    obtain ⟨l⟩ := vs
    cases l with
    | nil =>
      have h4' : ReadsAll s.heap [] xs _ := h4
      cases h4'
      simp only [PyData.shownAll, listText_nil] at fin
      exact call_list_repr_empty ⟨o, h1, h2⟩ h1 h3 (fin s.heap _ _ hk0)
    | cons x l => exact call_list_reprK h1 h2 h3 off (by simpa using hk.length_eq) (fun i y e => hk.item i y (by simpa using e)) hg (fun b _ => Clear.nil b) (by show A.units + 1 + _ < cLine; omega) hk0 fin hz'
  | tuple h1 h2 h3 h4 =>
    rename_i o vs n xs
    have hz' : (tupleText (PyData.shownAll xs)).length ≤ sizeLine := by simpa only [PyData.shown] using hz
    obtain ⟨bs, hb, hk⟩ := rp_reprAll (prog := prog) (w := w) hn h4 (by simpa only [rpD] using hs) fun t ht => Nat.le_trans (tupleText_mem_le ht) hz'
    have off := not_mem_of_deeper (.tuple h1 h2 h3 h4) (by simp only [PyData.depth]; omega) hb
    simp only [PyData.depth] at hu
    simp only [PyData.shown] at fin
    exact call_repr_slot (by omega) ⟨o, h1, h2⟩ F.slot_tuple_repr (call_tuple_reprK h1 h2 h3 off hk hg (fun b _ => Clear.nil b) (by show A.units + 1 + _ < cLine; omega) hk0 fin hz')
  | _ => cases hc
end
def gRepr : GA := fun xs q => match xs with | [d] => (reprOk d = true ∧ rpD d = true ∧ cells d ≤ 4500 ∧ d.depth ≤ 60) ∧ q (.str d.shown) | _ => False
section
variable {X : Cx}
theorem c_repr (hdg : X.base.NoDigits) (hg : X.A.guards = some []) (hu : X.A.units + 64 < cLine) : CallD X (.builtin "repr") gRepr := by
  refine ⟨fun vs H Q => ∃ v d, vs = [v] ∧ Dp X.K H v d ∧ (reprOk d = true ∧ rpD d = true ∧ cells d ≤ 4500 ∧ d.depth ≤ 60) ∧ Q (.str d.shown) H, ?_, ?_⟩
  · rintro pins s σ H vs us Q I r ⟨v, d, rfl, hd, ⟨h0, h1, h2, h3⟩, q⟩
    cases r with
    | cons ru rt =>
      cases rt
      rename_i u
      obtain ⟨as, rd⟩ := Dp.reads I d v u hd ru
      have hl := rp_len d h1
      exact rp_call (hdg.keeps fun b o e => (I.bs b o e).1) rd h0 h1 (by rw [sizeLine_eq]; omega) hg (by omega) fun h' t tk hk => ⟨.str _, H, I.kept hk, ⟨_, rfl⟩, q⟩
  · intro F H vs xs fh b q hq Q k
    cases b with
    | nil => exact hq.elim
    | cons b1 bt =>
      cases bt with
      | nil => exact ⟨_, _, rfl, b1.dp fh, hq.1, k _ _ F H (Gr.refl fh) (.str _) hq.2⟩
      | cons _ _ => exact hq.elim
end
end DL

namespace DL
open PySem PySem.Spec PyProof.Rows L2

/-! ### defs that are called with no repr under way -/
structure FnG (P : Program) (w : World) (K : PySem.W.Frag) (mg : Str → Option Value) (base : Heap) (k : Nat) (f : Addr) (fd : FuncData) (ps : List Str) (sp : Sp) : Prop where
  len : ∀ vs H Q E, sp vs H Q E → vs.length = ps.length
  run : ∀ (A : Around) (outer : List Env) (s : Shared) (H : Hp) (args : Args) (us : List Value) (vs : List V) (Q : VK) (E : XK), A.guards = some [] →
    Room k A → Env0 P w K mg base A outer s H → BindsTo s fd args (ps.zip us) → Vals vs us → sp vs H Q E → codeAny (model P w) A (.call (.ref f) args) (CR CX0 outer P w H s Q E) s
theorem FnG.mono {P : Program} {w : World} {K : PySem.W.Frag} {mg : Str → Option Value} {base : Heap} {j k : Nat} {f : Addr} {fd : FuncData} {ps : List Str} {sp : Sp} (F : FnG P w K mg base j f fd ps sp) (h : j ≤ k) : FnG P w K mg base k f fd ps sp :=
  ⟨F.len, fun A outer s H args us vs Q E hg hr => F.run A outer s H args us vs Q E hg (hr.mono h)⟩
section
variable {P : Program} {w : World} {K : PySem.W.Frag} {mg : Str → Option Value} {base : Heap}
/-- a def of the text, by its body's reading -/
theorem Fun.okG {x qual : Str} {st : Stmt} {f : Addr} {fd : FuncData} {N ps : List Str} {k : Nat} {sp : Sp} (F : Fun K x qual st f fd) (S : FnScope N ps (defScope st)) (len : ∀ vs H Q E, sp vs H Q E → vs.length = ps.length)
    (hbody : ∀ (cdv : Value) (A : Around) (outer : List Env) (s : Shared) (H : Hp) (vs : List V) (Q : VK) (E : XK), (A.deeper (envOfC qual (defScope st) s.heap.objs.size f cdv)).guards = some [] → Room k (A.deeper (envOfC qual (defScope st) s.heap.objs.size f cdv)) → sp vs H Q E →
      ∃ t, PSs (cxOf CX0 P w K mg base N qual (defScope st) f cdv A outer s H E).nox (defBody st) t ∧ t { nx := fun _ H' => Q .non H', rt := Q } (start N vs) H) : FnG P w K mg base (k + 1) f fd ps sp := by
  obtain ⟨oc, od, kV, doc, pm, an, cdv, ct, osl, rfl, lk, hcd⟩ := F.ex
  refine ⟨len, ?_⟩
  intro A outer s H args us vs Q E gA room e0 bind rel hsp
  have inK : K.In s.heap := e0.mod.kin.keeps fun b o e => (e0.bs b o e).1
  have kinds : ∀ y ∈ ps.zip us, (defScope st).names.lookup y.1 = some .local ∨ ((defScope st).names.lookup y.1 = some .cell ∧ ((cellsFrom (s.heap.objs.size + 1) (defScope st).names []).lookup y.1).isSome = true) := by
    rintro ⟨n, v⟩ hy
    cases S.par n (List.of_mem_zip hy).1 with
    | inl q => exact .inl q
    | inr q => exact .inr ⟨q, PySem.W.cellsFrom_some _ _ _ (.inl q)⟩
  refine codeAny_call_function room.depth (inK _ _ lk) rfl S.co S.gen rfl (PySem.W.codeRec_of inK hcd) (bind _ _ _ _ (wpAny_newFunctionEnv_cells S.kind kinds ?_))
  rintro env rfl s1 x
  refine ⟨e0.mod.nolimit.keeps fun b o e => x.toInCall.keep b o ((e0.bs b o e).1), codeAny_func ?_⟩
  obtain ⟨t, ht, hq⟩ := hbody cdv A outer s H vs Q E gA (room.deeper _) hsp
  refine wpAny_mono (ht.nox.run [] s1 (start N vs) H _ (inv_start S room.hd e0 (len _ _ _ _ hsp) rel x) hq) ?_ fun _ _ hs => hs
  intro fl s' hs
  cases fl with
  | brk => exact hs.elim fun _ z => z.elim fun _ z => z.2.elim
  | cont => exact hs.elim fun _ z => z.elim fun _ z => z.2.elim
  | next => exact hs.elim fun _ z => z.elim fun H' z => ⟨.non, H', z.1.os, z.1.bare, z.1.base, z.1.hok, rfl, z.2⟩
  | ret u => exact hs.elim fun v z => z.elim fun _ z => z.elim fun H' z => ⟨v, H', z.1.os, z.1.bare, z.1.base, z.1.hok, z.2.1, z.2.2⟩
end
section
variable {X : Cx} {k : Nat} {f : Addr} {fd : FuncData} {ps : List Str} {sp : Sp} {x : Str} {p pos : Pos} {e : Expr} {es : List Expr} {t : TA}
/-- f(e, ..) -/
theorem pe_callG (F : FnG X.prog X.w X.K X.mg X.base k f fd ps sp) (gA : X.A.guards = some []) (room : Room k X.A) (hg : Gl X x) (hm : X.mg x = some (.ref f)) (hk : PySem.W.keepIn X.K (.ref f) = true) (hb : Binds X.K fd ps [])
    (ha : PA X (e :: es) t) (hdb : (x == ("__debug__" : Str)) = false := by decide) (he : starEach (e :: es) X.env = (false, eval e X.env) :: starEach es X.env := by rfl) (hpl : (backTo pos (starEach es X.env)).any (·.1) = false := by rfl) :
    PE X (.Call (.Name x p) (e :: es) [] pos) (tCall sp [] (fun _ _ _ => False) t) := by
  constructor
  intro pins s σ H Q I h
  refine wpAny_Call_Name_kw (ld_glob I hg hm (PySem.W.callWith_K (h₀ := X.base) I.ok.mod.kin hk (thn (ha.run pos pins s σ H _ I h) ?_) he hpl) hdb)
  rintro us s1 ⟨vs, H1, J, r, q⟩
  refine ⟨J.kIn, ?_⟩
  rw [List.append_nil] at q
  have hl : (us ++ ([] : List Value)).length = ps.length := by rw [List.append_nil, ← r.length]; exact F.len _ _ _ _ q
  have hbb := hb s1 us J.kIn hl
  rw [List.append_nil] at hbb
  refine wpAny_call (codeAny_mono (F.run X.A X.stack s1 H1 ⟨us, []⟩ us vs Q _ gA room J.env0 hbb r q) ?_)
  intro r' s' hq
  match r', hq with
  | .ok (.ret u), hq => exact J.after hq
  | .error e, hq => exact (pass0 pins σ H1 s1 e s' J hq)
end
end DL

namespace DL
open PySem PySem.Spec PyProof.Rows L2

/-! ### list comprehensions -/
/-- the canonical readings -/
def canE (K : Frag) (de : RE) : TE := fun σ H Q => ∃ B F ρ q, EnvOk K B F H ρ σ ∧ de ρ q ∧ ∀ v d F' H', Gr F H F' H' → Dp K F' v d → q d → Q v H'
def canT (K : Frag) (dt : RT) : TT := fun σ H Q => ∃ B F ρ q, EnvOk K B F H ρ σ ∧ dt ρ q ∧ ∀ b F' H', Gr F H F' H' → q b → Q b H'
section
variable {X : Cx} {e : Expr} {de : RE} {dt : RT} {dl : RL}
theorem DE.can (h : DE X e de) : PE X e (canE X.K de) := by
  obtain ⟨te, h1, h2⟩ := h
  refine ⟨fun pins s σ H Q I ⟨B, F, ρ, q, E, hq, k⟩ => ?_⟩
  exact h1.run pins s σ H Q I (h2 B F H ρ σ E q hq Q k)
theorem DT.can (h : DT X e dt) : PT X e (canT X.K dt) := by
  obtain ⟨te, h1, h2⟩ := h
  refine ⟨fun pins s σ H Q I ⟨B, F, ρ, q, E, hq, k⟩ => ?_⟩
  exact h1.run pins s σ H Q I (h2 B F H ρ σ E q hq Q k)
theorem sim_canE {K : Frag} : SimE K (canE K de) de := fun B F H ρ σ E q hq Q k => ⟨B, F, ρ, q, E, hq, k⟩
theorem sim_canT {K : Frag} : SimT K (canT K dt) dt := fun B F H ρ σ E q hq Q k => ⟨B, F, ρ, q, E, hq, k⟩
end
def wipeD (ρ : Rho) : List Nat → Rho
  | [] => ρ
  | v :: vs => (wipeD ρ vs).set v none
theorem wipeD_length (ρ : Rho) : ∀ vs : List Nat, (wipeD ρ vs).length = ρ.length
  | [] => rfl
  | v :: vs => by unfold wipeD; rw [List.length_set, wipeD_length ρ vs]
theorem wipeD_some {ρ : Rho} {i : Nat} {x : DV} : ∀ {vs : List Nat}, (wipeD ρ vs)[i]? = some (some x) → ρ[i]? = some (some x) ∧ i ∉ vs
  | [], h => ⟨h, by simp⟩
  | v :: vs, h => by
    unfold wipeD at h
    by_cases hi : v = i
    · subst hi
      by_cases hv : v < (wipeD ρ vs).length
      · rw [List.getElem?_set_self hv] at h; cases h
      · rw [List.getElem?_eq_none (by simpa using hv)] at h; cases h
    · rw [List.getElem?_set_ne hi] at h
      obtain ⟨h1, h2⟩ := wipeD_some h
      exact ⟨h1, by simp only [List.mem_cons, not_or]; exact ⟨fun e => hi e.symm, h2⟩⟩
theorem EnvOk.wiped {K : Frag} {B F H : Hp} {ρ : Rho} {σ : L2.St} (E : EnvOk K B F H ρ σ) (vs : List Nat) : EnvOk K B F H (wipeD ρ vs) (wipe σ vs) := by
  refine ⟨E.fh, E.bh, by rw [wipeD_length, wipe_length]; exact E.len, fun i dv e => ?_, fun i j p a b n e1 e2 e3 => ?_⟩
  · obtain ⟨h1, h2⟩ := wipeD_some e
    obtain ⟨v, h3, h4⟩ := E.at' i dv h1
    exact ⟨v, by rw [wipe_out h2]; exact h3, h4⟩
  · obtain ⟨h1, h2⟩ := wipeD_some e1
    obtain ⟨g1, g2⟩ := wipeD_some e2
    rw [wipe_out h2] at e3
    rw [wipe_out g2]
    exact E.sep i j p a b n h1 g1 e3
theorem wipe_set {σ : L2.St} {i : Nat} {x : Option V} : ∀ {vs : List Nat}, i ∈ vs → wipe (σ.set i x) vs = wipe σ vs
  | v :: vs, h => by
    have key : ∀ vs : List Nat, wipe (σ.set i x) vs = wipe σ vs ∨ wipe (σ.set i x) vs = (wipe σ vs).set i x := by
      intro vs
      induction vs with
      | nil => exact .inr rfl
      | cons w ws ih =>
        unfold wipe
        rcases ih with ih | ih
        · exact .inl (by rw [ih])
        · rw [ih]
          by_cases hw : i = w
          · subst hw
            exact .inl (by rw [List.set_set])
          · exact .inr (List.set_comm _ _ hw)
    unfold wipe
    by_cases hv : i = v
    · subst hv
      rcases key vs with q | q
      · rw [q]
      · rw [q, List.set_set]
    · have hm : i ∈ vs := by
        rcases List.mem_cons.mp h with q | q
        · exact absurd q hv
        · exact q
      rw [wipe_set hm]
/-- targets of a comprehension: the slots vs alone are stored -/
def SimGw (K : Frag) (vs : List Nat) (g : TG) (dg : RG) : Prop := ∀ (B F H : Hp) (ρ : Rho) (σ : L2.St) (v : V) (d : D), EnvOk K B F H ρ σ → Dp K F v d → ∀ q : Rho → Prop, dg d ρ q → ∀ Q : L2.St → Hp → Prop, (∀ ρ' σ', EnvOk K B F H ρ' σ' → wipe σ' vs = wipe σ vs → q ρ' → Q σ' H) → g v σ H Q
def SimGws (K : Frag) (vs : List Nat) (g : TGs) (dg : RGs) : Prop := ∀ (B F H : Hp) (ρ : Rho) (σ : L2.St) (us : List V) (xs : List D), EnvOk K B F H ρ σ → DpAll K F us xs → ∀ q : Rho → Prop, dg xs ρ q → ∀ Q : L2.St → Hp → Prop, (∀ ρ' σ', EnvOk K B F H ρ' σ' → wipe σ' vs = wipe σ vs → q ρ' → Q σ' H) → g us σ H Q
/-- a comprehension's block -/
abbrev BX (X : Cx) (scope : Scope) (s : Shared) (H : Hp) (C : Addr) (cl : List (Str × Addr)) (fp : List Addr) : Cx := X.blk s H scope (compEnvC scope cl C X.env) fp
def DGw (X : Cx) (scope : Scope) (vs : List Nat) (tg : Expr) (dg : RG) : Prop := ∃ g, (∀ s H C cl fp, PG (BX X scope s H C cl fp) tg g) ∧ SimGw X.K vs g dg
def DGws (X : Cx) (scope : Scope) (vs : List Nat) (tgs : List Expr) (dg : RGs) : Prop := ∃ g, (∀ s H C cl fp, PGs (BX X scope s H C cl fp) tgs g) ∧ SimGws X.K vs g dg
section
variable {X : Cx} {scope : Scope} {vs : List Nat} {pos : Pos}
theorem gw_name {i : Nat} {x : Str} (hN : X.N.Nodup) (hi : X.N[i]? = some x := by rfl) (hx : ∀ s H C cl fp, Loc (BX X scope s H C cl fp).env.scope x := by intros; first | exact Or.inl rfl | exact Or.inr rfl)
    (hf : ∀ s H C cl fp, (BX X scope s H C cl fp).fn x = true ∨ (BX X scope s H C cl fp).env.scope.names.lookup x = some .local := by intros; first | exact .inl rfl | exact .inr rfl) (hv : i ∈ vs := by decide) : DGw X scope vs (.Name x pos) (rName i) :=
  ⟨_, fun s H C cl fp => pg_name (X := BX X scope s H C cl fp) hN hi (hx s H C cl fp) (hf s H C cl fp), fun B F H ρ σ v d E r q h Q k => k _ _ (E.set i r) (wipe_set hv) h⟩
theorem gw_nil : DGws X scope vs [] rNil := ⟨_, fun s H C cl fp => pgs_nil, fun B F H ρ σ us xs E r q h Q k => by
  obtain ⟨rfl, h⟩ := h
  cases r
  exact ⟨rfl, k _ _ E rfl h⟩⟩
theorem gw_cons {e : Expr} {es : List Expr} {dg : RG} {dgs : RGs} (h1 : DGw X scope vs e dg) (h2 : DGws X scope vs es dgs)
    (hs : ∀ s H C cl fp, (assignEach (e :: es) (BX X scope s H C cl fp).env).map (·.2) = assign e (BX X scope s H C cl fp).env :: (assignEach es (BX X scope s H C cl fp).env).map (·.2) := by intros; rfl) : DGws X scope vs (e :: es) (rCons dg dgs) := by
  obtain ⟨g, a1, a2⟩ := h1
  obtain ⟨u, b1, b2⟩ := h2
  refine ⟨_, fun s H C cl fp => pgs_cons (a1 s H C cl fp) (b1 s H C cl fp) (hs s H C cl fp), fun B F H ρ σ us xs E r q h Q k => ?_⟩
  cases xs with
  | nil => exact h.elim
  | cons d r' =>
    cases r with
    | cons r1 r2 => exact ⟨_, _, rfl, a2 B F H ρ σ _ d E r1 _ h _ fun ρ' σ' E' w z => b2 B F H ρ' σ' _ _ E' r2 q z Q fun ρ2 σ2 E2 w2 z2 => k ρ2 σ2 E2 (w2.trans w) z2⟩
theorem gw_tup {es : List Expr} {k : Nat} {dg : RGs} {n : Nat} (h : DGws X scope vs es dg) (hc : X.calm = true := by rfl)
    (hn : ∀ s H C cl fp, (assignEach es (BX X scope s H C cl fp).env).length = n := by intros; rfl) (hst : ∀ s H C cl fp, (assignEach es (BX X scope s H C cl fp).env).findIdx? (·.1) = none := by intros; rfl) : DGw X scope vs (.Tuple es k pos) (rTup n dg) := by
  obtain ⟨g, a1, a2⟩ := h
  refine ⟨gTup X.K n g, fun s H C cl fp => pg_tup (X := BX X scope s H C cl fp) hc (a1 s H C cl fp) (hn s H C cl fp) (hst s H C cl fp), fun B F H ρ σ v d E r q h Q k => ?_⟩
  cases d with
  | tuple xs =>
    cases r with
    | tup hs ha => exact ⟨_, _, rfl, E.fh.seqT hs, by rw [ha.length]; exact h.1, a2 B F H ρ σ _ xs E ha q h.2 Q k⟩
  | _ => exact h.elim
/-- a clause's tests -/
def DPTs (X : Cx) (scope : Scope) (ifs : List Expr) (dt : RT) : Prop := ∃ tt, (∀ s H C cl fp, PTs (BX X scope s H C cl fp) ifs tt) ∧ SimT X.K tt dt
def tYesD : RT := fun _ q => q true
theorem dts_nil : DPTs X scope [] tYesD := ⟨_, fun _ _ _ _ _ => pts_nil, fun B F H ρ σ E q hq Q k => k true F H (Gr.refl E.fh) hq⟩
theorem dts_one {c : Expr} {dt : RT} (h : ∀ s H C cl fp, DT (BX X scope s H C cl fp) c dt) : DPTs X scope [c] dt := ⟨_, fun s H C cl fp => pts_one (h s H C cl fp).can, sim_canT⟩

def lcD (g : RG) (tt : RT) (de : RE) (vs : List Nat) : List D → Rho → (List D → Prop) → Prop
  | [], _, q => q []
  | d :: r, ρ, q => g d (wipeD ρ vs) fun ρ1 => tt ρ1 fun b => (b = true → de ρ1 fun x => lcD g tt de vs r ρ fun xs => q (x :: xs)) ∧ (b = false → lcD g tt de vs r ρ q)
def lComp (di : RL) (g : RG) (tt : RT) (de : RE) (vs : List Nat) : RL := fun ρ q => di ρ fun items => Fit items.length ∧ lcD g tt de vs items ρ q
theorem EnvOk.other {K : Frag} {B F H : Hp} {ρ : Rho} {σ : L2.St} (E : EnvOk K B F H ρ σ) {p : Addr} {o : HO} (hb : B p = none) (hf : F p = none) (hs : ∀ (j : Nat) a, ρ[j]? = some (some (.own a)) → σ[j]? ≠ some (some (.ref p))) : EnvOk K B F (upd H p o) ρ σ := by
  refine ⟨fun b u e => ?_, fun b u e => ?_, E.len, fun i dv e => ?_, E.sep⟩
  · rw [upd_ne (ne_of_none e hf)]
    exact E.fh b u e
  · rw [upd_ne (ne_of_none e hb)]
    exact E.bh b u e
  · obtain ⟨v, h1, h2⟩ := E.at' i dv e
    refine ⟨v, h1, ?_⟩
    cases dv with
    | val d => exact h2
    | own ds =>
      obtain ⟨q, us, rfl, q0, q1, q2, q3⟩ := h2
      have : q ≠ p := fun z => by
        subst z
        exact hs i ds e h1
      exact ⟨q, us, rfl, q0, q1, by rw [upd_ne this]; exact q2, q3⟩
theorem sim_lc {K : Frag} {wi : TI} {di : RL} {g : TG} {dg : RG} {tt : TT} {dt : RT} {te : TE} {de : RE} (hi : SimIc K wi di) (hg : SimGw K vs g dg) (ht : SimT K tt dt) (he : SimE K te de) :
    SimL K (tLc wi g tt te vs) (lComp di dg dt de vs) := fun B F H ρ σ E q hq Q k => hi B F H ρ σ E _ hq _ fun J items F1 H1 g1 it z D hD => by
  obtain ⟨⟨hsz⟩, z⟩ := z
  have E1 := E.grow g1
  have fD : F1 D = none := g1.fh.free hD
  have bD : B D = none := E1.bh.free hD
  have nD : ∀ (j : Nat) a, ρ[j]? = some (some (.own a)) → σ[j]? ≠ some (some (.ref D)) := fun j a e w => by
    obtain ⟨v, h1, p, us, rfl, _, _, f2, _⟩ := E1.at' j _ e
    rw [h1] at w
    cases w
    rw [hD] at f2
    cases f2
  refine ⟨fun i m H2 => m = items.length - i ∧ i ≤ items.length ∧ ∃ F2 acc ads, Gr F1 H1 F2 H2 ∧ EnvOk K B F2 H2 ρ σ ∧ F2 D = none ∧ H2 D = some (.lst acc) ∧ acc.length ≤ i ∧ DpAll K F2 acc ads ∧ lcD dg dt de vs (items.drop i) ρ fun xs => q (ads ++ xs),
    ⟨items.length, by simp, Nat.zero_le _, F1, [], [], Gr.newO g1.fh hD, E1.grow (Gr.newO g1.fh hD), fD, upd_same, Nat.le_refl _, .nil, by simpa using z⟩, ?_⟩
  rintro i m H2 ⟨rfl, hi', F2, acc, ads, gr, E2, f2, h2, hl, ha, hz⟩
  obtain ⟨go, stop⟩ := it F2 H2 gr.ff gr.hh gr.fh i
  by_cases hlt : i < items.length
  · obtain ⟨go, yl⟩ := go hlt
    refine .inr ⟨go, fun H' => ∃ F2 acc ads, Gr F1 H1 F2 H' ∧ EnvOk K B F2 H' ρ σ ∧ F2 D = none ∧ H' D = some (.lst acc) ∧ acc.length ≤ i + 1 ∧ DpAll K F2 acc ads ∧ lcD dg dt de vs (items.drop (i + 1)) ρ fun xs => q (ads ++ xs),
      fun H' h => ⟨_, by omega, rfl, hlt, h⟩, fun x H3 y => ?_⟩
    obtain ⟨F3, gr3, d, hd, r⟩ := yl x H3 y
    have ed : items.drop i = d :: items.drop (i + 1) := by
      have e2 : items[i] = d := Option.some.inj ((List.getElem?_eq_getElem hlt).symm.trans hd)
      rw [← e2]
      exact List.drop_eq_getElem_cons hlt
    rw [ed] at hz
    have E3 := E2.grow gr3
    refine hg B F3 H3 (wipeD ρ vs) (wipe σ vs) x d (E3.wiped vs) r _ hz _ fun ρ4 σ4 E4 w4 z4 => ⟨?_, ?_⟩
    · rw [w4]
      have idem : ∀ (σ : L2.St) (us : List Nat), (∀ v ∈ vs, v ∈ us) → wipe (wipe σ vs) us = wipe σ us := fun σ us hs => by
        have : ∀ ws : List Nat, (∀ v ∈ ws, v ∈ us) → wipe (wipe σ ws) us = wipe σ us := by
          intro ws
          induction ws with
          | nil => intro _; rfl
          | cons w ws ih =>
            intro h
            show wipe ((wipe σ ws).set w none) us = _
            rw [wipe_set (h w List.mem_cons_self)]
            exact ih fun v hv => h v (List.mem_cons_of_mem _ hv)
        exact this vs hs
      exact idem σ vs fun v hv => hv
    · refine ht B F3 H3 ρ4 σ4 E4 _ z4 _ fun b F5 H5 gr5 z5 => ?_
      have gA := gr3.trans gr5
      have D5 : H5 D = some (.lst acc) := gA.hh D _ h2
      have f5 : F5 D = none := gA.own D f2 (by rw [h2]; trivial)
      cases b with
      | true =>
        refine he B F5 H5 ρ4 σ4 (E4.grow gr5) _ (z5.1 rfl) _ fun y dy F6 H6 gr6 r6 z6 => ?_
        have gB := gA.trans gr6
        have D6 : H6 D = some (.lst acc) := gr6.hh D _ D5
        have f6 : F6 D = none := gr6.own D f5 (by rw [D5]; trivial)
        refine ⟨acc, D6, by omega, F6, acc ++ [y], ads ++ [dy], ?_, (E2.grow gB).other bD f6 nD, f6, upd_same, by rw [List.length_append]; simp; omega, (ha.mono gB.ff).append (.cons r6 .nil), ?_⟩
        · have gC := gr.trans gB
          refine ⟨gC.ff, fun b u e => ?_, fun b u e => ?_, gC.own⟩
          · rw [upd_ne (ne_of_none e hD)]
            exact gC.hh b u e
          · rw [upd_ne (ne_of_none e f6)]
            exact gC.fh b u e
        · have e3 : (fun xs => q (ads ++ [dy] ++ xs)) = fun xs => q (ads ++ (dy :: xs)) := by
            funext xs
            rw [List.append_assoc]
            rfl
          rw [e3]
          exact z6
      | false =>
        exact ⟨F5, acc, ads, gr.trans gA, E2.grow gA, f5, D5, by omega, ha.mono gA.ff, z5.2 rfl⟩
  · have e : i = items.length := by omega
    refine .inl ⟨stop (by omega), ?_⟩
    rw [e, List.drop_length] at hz
    have hz : q (ads ++ []) := hz
    rw [List.append_nil] at hz
    exact k D acc ads F2 H2 (g1.trans gr) (g1.hh.free hD) f2 h2 ha hz
variable {elt tg iter : Expr} {ifs : List Expr} {own : List (Str × Nat)} {di : RL} {dg : RG} {dt : RT} {de : RE}
/-- [elt for tg in iter if ..] -/
theorem dl_lc (hN : X.N.Nodup) (hi : DIc X tg iter di) (hg : DGw X scope (own.map (·.2)) tg dg) (ht : DPTs X scope ifs dt) (he : ∀ s H C cl fp, DE (BX X scope s H C cl fp) elt de)
    (ok : BlkOk X.N X.env.scope scope own := by exact blkOk_by (by decide +kernel)) (hc : X.calm = true := by rfl) (hs : ∀ x, foldedSetIterable iter X.env x = pure x := by intro _; rfl) :
    DLs X (.ListComp elt [⟨tg, iter, ifs, 0⟩] scope pos) (lComp di dg dt de (own.map (·.2))) := by
  obtain ⟨wi, i1, i2⟩ := hi
  obtain ⟨g, g1, g2⟩ := hg
  obtain ⟨tt, t1, t2⟩ := ht
  exact ⟨_, pe_lc (te := canE X.K de) hc hN i1 ok g1 t1 (fun s H C cl fp => (he s H C cl fp).can) hs, sim_lc i2 g2 t2 sim_canE⟩
/-- y = [..], of one's own -/
theorem st_lcL {i : Nat} {y : Str} {py spos : Pos} (hN : X.N.Nodup) (hi : DIc X tg iter di) (hg : DGw X scope (own.map (·.2)) tg dg) (ht : DPTs X scope ifs dt) (he : ∀ s H C cl fp, DE (BX X scope s H C cl fp) elt de)
    (hsw : swapsWith (.ListComp elt [⟨tg, iter, ifs, 0⟩] scope pos) (some (.Name y py)) spos.line X.env = pure true)
    (ok : BlkOk X.N X.env.scope scope own := by exact blkOk_by (by decide +kernel)) (hy : X.N[i]? = some y := by rfl) (hyl : X.env.scope.names.lookup y = some .local := by rfl) (hc : X.calm = true := by rfl) (hs : ∀ x, foldedSetIterable iter X.env x = pure x := by intro _; rfl) :
    DS X (.Assign [.Name y py] (.ListComp elt [⟨tg, iter, ifs, 0⟩] scope pos) spos) (sSetL i (lComp di dg dt de (own.map (·.2)))) := by
  obtain ⟨wi, i1, i2⟩ := hi
  obtain ⟨g, g1, g2⟩ := hg
  obtain ⟨tt, t1, t2⟩ := ht
  refine ⟨_, ps_setLc (te := canE X.K de) hc hN hy hyl hsw i1 ok g1 t1 (fun s H C cl fp => (he s H C cl fp).can) hs, fun F0 B F H ρ σ s E DD h D k => ?_⟩
  exact sim_lc i2 g2 t2 sim_canE B F H ρ σ E _ h _ fun p us ds F' H' g hp hf hh ha z => k.nx F' H' _ _ (s.to g) (own_new E g i hp hf hh ha) z
/-- y = [..], as data -/
theorem st_lc {i : Nat} {y : Str} {py spos : Pos} (hN : X.N.Nodup) (hi : DIc X tg iter di) (hg : DGw X scope (own.map (·.2)) tg dg) (ht : DPTs X scope ifs dt) (he : ∀ s H C cl fp, DE (BX X scope s H C cl fp) elt de)
    (hsw : swapsWith (.ListComp elt [⟨tg, iter, ifs, 0⟩] scope pos) (some (.Name y py)) spos.line X.env = pure true)
    (ok : BlkOk X.N X.env.scope scope own := by exact blkOk_by (by decide +kernel)) (hy : X.N[i]? = some y := by rfl) (hyl : X.env.scope.names.lookup y = some .local := by rfl) (hc : X.calm = true := by rfl) (hs : ∀ x, foldedSetIterable iter X.env x = pure x := by intro _; rfl) :
    DS X (.Assign [.Name y py] (.ListComp elt [⟨tg, iter, ifs, 0⟩] scope pos) spos) (sSet i (dLst (lComp di dg dt de (own.map (·.2))))) := by
  obtain ⟨t, a1, a2⟩ := st_lcL (i := i) (y := y) (py := py) (spos := spos) hN hi hg ht he hsw ok hy hyl hc hs
  obtain ⟨wi, i1, i2⟩ := hi
  obtain ⟨g, g1, g2⟩ := hg
  obtain ⟨tt, t1, t2⟩ := ht
  refine ⟨_, ps_setLc (te := canE X.K de) hc hN hy hyl hsw i1 ok g1 t1 (fun s H C cl fp => (he s H C cl fp).can) hs, fun F0 B F H ρ σ s E DD h D k => ?_⟩
  refine sim_lc i2 g2 t2 sim_canE B F H ρ σ E _ h _ fun p us ds F' H' g hp hf hh ha z => ?_
  have gf := gr_frz g hp hf hh
  exact k.nx _ H' _ _ (s.to gf) ((E.grow gf).set i (.lst (.inl (.inl upd_same)) (ha.mono (same_new hf)))) z
end

/-! ### defs -/
/-- a def's promise over data: f tells, for the arguments, what is wanted -/
abbrev FD := List D → (DV → Prop) → Prop
def SpD (K : Frag) (n : Nat) (f : FD) : Sp := fun vs H Q _ => ∃ F ds q, Same F H ∧ vs.length = n ∧ DpAll K F vs ds ∧ f ds q ∧ ∀ r, q r → ∀ v F' H', Gr F H F' H' → ResF K H F' H' v r → Q v H'
def startD (n : Nat) (ds : List D) : Rho := ds.map (fun d => some (.val d)) ++ List.replicate (n - ds.length) none
/-- a body's reading as a def's promise -/
def bodyD (n : Nat) (body : RS) : FD := fun ds q => body { nx := fun _ => q (.val .none), rt := q } (startD n ds)
theorem env_start {K : Frag} {F H : Hp} {N : List Str} {vs : List V} {ds : List D} (fh : Same F H) (h : DpAll K F vs ds) : EnvOk K H F H (startD N.length ds) (L2.start N vs) := by
  have hl := h.length
  have gt : ∀ (i : Nat) dv, (startD N.length ds)[i]? = some (some dv) → ∃ d, ds[i]? = some d ∧ dv = .val d := fun i dv e => by
    unfold startD at e
    by_cases hi : i < ds.length
    · rw [List.getElem?_append_left (by simpa using hi), List.getElem?_map, List.getElem?_eq_getElem hi] at e
      exact ⟨_, List.getElem?_eq_getElem hi, by simpa using e.symm⟩
    · rw [List.getElem?_append_right (by simpa using hi), List.getElem?_replicate] at e
      split at e <;> cases e
  refine ⟨fh, Same.refl H, ?_, fun i dv e => ?_, fun i j p a b _ e _ _ => ?_⟩
  · unfold startD L2.start
    rw [List.length_append, List.length_append, List.length_map, List.length_map, List.length_replicate, List.length_replicate, hl]
  · obtain ⟨d, h1, rfl⟩ := gt i dv e
    obtain ⟨v, hv, r⟩ := h.get h1
    refine ⟨v, ?_, r⟩
    unfold L2.start
    have hi : i < vs.length := (List.getElem?_eq_some_iff.mp hv).1
    rw [List.getElem?_append_left (by simpa using hi), List.getElem?_map, hv]
    rfl
  · obtain ⟨d, _, z⟩ := gt i _ e
    cases z
section
variable {P : Program} {w : World} {K : Frag} {mg : Str → Option Value} {base : Heap}
/-- THE RULE: a def by its body's reading -/
theorem fnD {x qual : Str} {st : Stmt} {f : Addr} {fd : FuncData} {N ps : List Str} {k : Nat} {g : FD} (F : Fun K x qual st f fd) (S : FnScope N ps (defScope st))
    (hbody : ∀ (cdv : Value) (A : Around) (outer : List Env) (s : Shared) (H : Hp) (E : XK), (A.deeper (envOfC qual (defScope st) s.heap.objs.size f cdv)).guards = some [] → Room k (A.deeper (envOfC qual (defScope st) s.heap.objs.size f cdv)) →
      ∃ body, DSs (cxOf CX0 P w K mg base N qual (defScope st) f cdv A outer s H E).nox (defBody st) body ∧ ∀ ds q, ds.length = ps.length → g ds q → bodyD N.length body ds q) : FnG P w K mg base (k + 1) f fd ps (SpD K ps.length g) := by
  refine Fun.okG F S (fun vs H Q E h => ?_) (fun cdv A outer s H vs Q E gA hr h => ?_)
  · obtain ⟨F, ds, q, _, hl, _⟩ := h
    exact hl
  · obtain ⟨F0, ds, q0, fh, hl, hd, hg, hq⟩ := h
    obtain ⟨body, ⟨t, h1, h2⟩, h3⟩ := hbody cdv A outer s H E gA hr
    refine ⟨t, h1, ?_⟩
    have ln : ds.length = ps.length := by rw [← hd.length]; exact hl
    exact h2 F0 H F0 H (startD N.length ds) (L2.start N vs) (Gr.refl fh) (env_start fh hd) _ (h3 ds _ ln hg) _ ⟨fun F' H' ρ σ s E q => hq _ q .non F' H' s .non, fun v r F' H' s rr z => hq r z v F' H' s rr, fun _ _ _ _ _ _ z => z.elim, fun _ _ _ _ _ _ z => z.elim⟩
end
section
variable {X : Cx} {k : Nat} {f : Addr} {fd : FuncData} {ps : List Str} {x : Str} {p pos : Pos} {e : Expr} {es : List Expr} {da : RL} {g : FD}
def valD : DV → D
  | .val d => d
  | .own ds => .list ds
/-- f(..): data -/
def dFn (g : FD) (da : RL) : RE := fun ρ q => da ρ fun xs => g xs fun r => q (valD r)
/-- f(..): a new list -/
def lFn (g : FD) (da : RL) : RL := fun ρ q => da ρ fun xs => g xs fun r => match r with | .own ds => q ds | _ => False
theorem sim_fn {K : Frag} {ta : TA} {n : Nat} (ha : SimA K n ta da) : SimE K (tCall (SpD K n g) [] (fun _ _ _ => False) ta) (dFn g da) := fun B F H ρ σ Ev q hq Q k =>
  ha B F H ρ σ Ev _ hq _ fun vs ds F1 H1 g1 r ln z => by
    refine ⟨F1, ds, _, g1.fh, by rw [List.append_nil, r.length, ln], by rw [List.append_nil]; exact r, z, fun r' qr v F2 H2 g2 rr => ?_⟩
    cases r' with
    | val d => exact k v d F2 H2 (g1.trans g2) rr qr
    | own ds' =>
      obtain ⟨p, us, rfl, hb, hf, hh, ha'⟩ := rr
      have gf := gr_frz g2 hb hf hh
      exact k (.ref p) (.list ds') _ H2 (g1.trans gf) (.lst (.inl (.inl upd_same)) (ha'.mono (same_new hf))) qr
theorem sim_fnL {K : Frag} {ta : TA} {n : Nat} (ha : SimA K n ta da) : SimL K (tCall (SpD K n g) [] (fun _ _ _ => False) ta) (lFn g da) := fun B F H ρ σ Ev q hq Q k =>
  ha B F H ρ σ Ev _ hq _ fun vs ds F1 H1 g1 r ln z => by
    refine ⟨F1, ds, _, g1.fh, by rw [List.append_nil, r.length, ln], by rw [List.append_nil]; exact r, z, fun r' qr v F2 H2 g2 rr => ?_⟩
    cases r' with
    | val d => exact qr.elim
    | own ds' =>
      obtain ⟨p, us, rfl, hb, hf, hh, ha'⟩ := rr
      exact k p us ds' F2 H2 (g1.trans g2) (g1.hh.free hb) hf hh ha' qr
/-- f(e, ..), f a def -/
theorem de_fn (G : FnG X.prog X.w X.K X.mg X.base k f fd ps (SpD X.K (e :: es).length g)) (gA : X.A.guards = some []) (hr : Room k X.A) (hm : X.mg x = some (.ref f)) (hk : PySem.W.keepIn X.K (.ref f) = true) (hb : Binds X.K fd ps []) (ha : DA X (e :: es) da) (hg : Gl X x := by rfl)
    (hdb : (x == ("__debug__" : Str)) = false := by decide) (he : starEach (e :: es) X.env = (false, eval e X.env) :: starEach es X.env := by rfl) (hpl : (backTo pos (starEach es X.env)).any (·.1) = false := by rfl) : DE X (.Call (.Name x p) (e :: es) [] pos) (dFn g da) := by
  obtain ⟨ta, a1, a2⟩ := ha
  exact ⟨_, pe_callG G gA hr hg hm hk hb a1 hdb he hpl, sim_fn a2⟩
theorem dl_fn (G : FnG X.prog X.w X.K X.mg X.base k f fd ps (SpD X.K (e :: es).length g)) (gA : X.A.guards = some []) (hr : Room k X.A) (hm : X.mg x = some (.ref f)) (hk : PySem.W.keepIn X.K (.ref f) = true) (hb : Binds X.K fd ps []) (ha : DA X (e :: es) da) (hg : Gl X x := by rfl)
    (hdb : (x == ("__debug__" : Str)) = false := by decide) (he : starEach (e :: es) X.env = (false, eval e X.env) :: starEach es X.env := by rfl) (hpl : (backTo pos (starEach es X.env)).any (·.1) = false := by rfl) : DLs X (.Call (.Name x p) (e :: es) [] pos) (lFn g da) := by
  obtain ⟨ta, a1, a2⟩ := ha
  exact ⟨_, pe_callG G gA hr hg hm hk hb a1 hdb he hpl, sim_fnL a2⟩
end
/-- a def that stands ready to be called: by its name x, its level k, its promise g -/
structure Ready (P : Program) (w : World) (K : Frag) (mg : Str → Option Value) (base : Heap) (x : Str) (n k : Nat) (g : FD) : Prop where
  ex : ∃ f fd ps, FnG P w K mg base k f fd ps (SpD K n g) ∧ mg x = some (.ref f) ∧ PySem.W.keepIn K (.ref f) = true ∧ Binds K fd ps []
section
variable {X : Cx} {k : Nat} {x : Str} {p pos : Pos} {e : Expr} {es : List Expr} {da : RL} {g : FD}
theorem Ready.toE (G : Ready X.prog X.w X.K X.mg X.base x (e :: es).length k g) (gA : X.A.guards = some []) (hr : Room k X.A) (ha : DA X (e :: es) da) (hg : Gl X x := by rfl)
    (hdb : (x == ("__debug__" : Str)) = false := by decide) (he : starEach (e :: es) X.env = (false, eval e X.env) :: starEach es X.env := by rfl) (hpl : (backTo pos (starEach es X.env)).any (·.1) = false := by rfl) : DE X (.Call (.Name x p) (e :: es) [] pos) (dFn g da) := by
  obtain ⟨f, fd, ps, G1, hm, hk, hb⟩ := G.ex
  exact de_fn G1 gA hr hm hk hb ha hg hdb he hpl
theorem Ready.toL (G : Ready X.prog X.w X.K X.mg X.base x (e :: es).length k g) (gA : X.A.guards = some []) (hr : Room k X.A) (ha : DA X (e :: es) da) (hg : Gl X x := by rfl)
    (hdb : (x == ("__debug__" : Str)) = false := by decide) (he : starEach (e :: es) X.env = (false, eval e X.env) :: starEach es X.env := by rfl) (hpl : (backTo pos (starEach es X.env)).any (·.1) = false := by rfl) : DLs X (.Call (.Name x p) (e :: es) [] pos) (lFn g da) := by
  obtain ⟨f, fd, ps, G1, hm, hk, hb⟩ := G.ex
  exact dl_fn G1 gA hr hm hk hb ha hg hdb he hpl
end
theorem Ready.mono {P : Program} {w : World} {K : Frag} {mg : Str → Option Value} {base : Heap} {x : Str} {n k j : Nat} {g : FD} (G : Ready P w K mg base x n k g) (h : k ≤ j) : Ready P w K mg base x n j g := by
  obtain ⟨f, fd, ps, G1, hm, hk, hb⟩ := G.ex
  exact ⟨f, fd, ps, G1.mono h, hm, hk, hb⟩
end DL

namespace DL
open PySem PySem.Spec PyProof.Rows L2

/-! ### the law's end -/
theorem dp_ints {K : Frag} {H : Hp} : ∀ ns : List Int, DpAll K H (ns.map V.int) (ns.map PyData.int)
  | [] => .nil
  | n :: ns => .cons (.int n) (dp_ints ns)
/-- the heap in which nothing but the script may be tracked -/
theorem script_heap {K : Frag} {s : Shared} {P : Program} {w : World} {a : Addr} {vs : List Value} {ns : List Int} (KX : K.In s.heap)
    (ha : s.heap.get? a = some { cls := .type "list", data := .seq vs.toArray }) (rv : Vals (ns.map V.int) vs) (hl : ns.length ≤ sizeLine) :
    ∃ H : Hp, Only H ∧ SqL K H a (ns.map V.int) ∧ HOk P w H s.heap ∧ (∀ b, H b ≠ none → b = a ∧ K.lookup a = none) := by
  have lv : vs.length = ns.length := by rw [← rv.length, List.length_map]
  by_cases hk : ∃ o, K.lookup a = some o
  · obtain ⟨o, hk⟩ := hk
    obtain rfl := Option.some.inj (ha.symm.trans (KX a o hk))
    have no : ∀ b, (fun _ => none : Hp) b = none := fun _ => rfl
    refine ⟨fun _ => none, fun b => .inl rfl, .inr ⟨_, vs.toArray, _, hk, rfl, rfl, rfl, ?_, by simpa using rv⟩, fun b u z => (show False from (nomatch (show (none : Option HO) = some u from z))).elim, fun b z => (z rfl).elim⟩
    simpa [lv] using hl
  · have hk : K.lookup a = none := by
      cases q : K.lookup a with
      | none => rfl
      | some o => exact (hk ⟨o, q⟩).elim
    let ob : Obj := { cls := .type "list", data := .seq vs.toArray }
    let H : Hp := upd (fun _ => none) a (.frz ob (.lst (ns.map V.int)))
    have at_a : H a = some (.frz ob (.lst (ns.map V.int))) := upd_same
    have off : ∀ b, b ≠ a → H b = none := fun b h => upd_ne h
    have here : ∀ {b : Addr}, H b ≠ none → b = a := fun {b} z => Classical.byContradiction fun n => z (off b n)
    refine ⟨H, fun b => ?_, .inl (.inr ⟨ob, at_a⟩), fun b u z => ?_, fun b z => ⟨here z, hk⟩⟩
    · by_cases e : b = a
      · exact .inr ⟨ob, _, by rw [e]; exact at_a⟩
      · exact .inl (off b e)
    · obtain rfl := here (b := b) (by rw [z]; simp)
      obtain rfl := Option.some.inj (at_a.symm.trans z)
      exact ⟨ha, by rw [List.length_map]; exact hl, vs, _, rv, ha⟩
theorem law_callG {P : Program} {w : World} {K : Frag} {mg mb : Str → Option Value} {k : Nat} {fa a : Addr} {fd : FuncData} {x : Str} {g : FD} {s : Shared} {vs : List Value} {ns : List Int}
    (KX : K.In s.heap) (nm : s.heap.Ns mainGlobals mg) (nb : s.heap.Ns builtinsNs mb) (bb : ∀ x : Str, x ≠ "__name__" → mb x = bootBuiltins x) (lim : s.heap.NoLimit) (dig : s.heap.NoDigits) (ng : s.gens = #[])
    (ha : s.heap.get? a = some { cls := .type "list", data := .seq vs.toArray }) (hi : IntsAre vs ns) (hl : ns.length ≤ sizeLine) (room : Room k callerA)
    (F : ∀ base : Heap, K.In base → base.Ns mainGlobals mg → base.NoDigits → FnG P w K mg base k fa fd [x] (SpD K 1 g)) (hb : ∀ (s : Shared) (u : Value), BindsTo s fd ⟨[u], []⟩ [(x, u)]) (hg : g [.list (ns.map .int)] fun r => r = .val (.bool true)) :
    codeAny (model P w) callerA (.call (.ref fa) ⟨[.ref a], []⟩) (fun r s' => r = .ok (.ret (.bool true)) ∧ OldK s.heap s'.heap ∧ s'.os = s.os ∧ AllBare s'.gens) s := by
  obtain ⟨H, only, seq, hok, one⟩ := script_heap (P := P) (w := w) KX ha (vals_ints hi) hl
  have tracked : ∀ {b : Addr} {o : Obj}, s.heap.get? b = some o → (H b ≠ none → False) → (hidT s.heap H).get? b = some o := fun {b o} e n => hidT_get e (Classical.byContradiction n)
  have ns' : ∀ {b : Addr} {m : Str → Option Value}, s.heap.Ns b m → (hidT s.heap H).Ns b m := by
    rintro b m ⟨o, es, ep, e, d, r⟩
    refine ⟨o, es, ep, tracked e fun z => ?_, d, r⟩
    obtain ⟨rfl, _⟩ := one b z
    obtain rfl := Option.some.inj (ha.symm.trans e)
    exact nomatch d
  have inK : K.In (hidT s.heap H) := fun b o e => tracked (KX b o e) fun z => by
    obtain ⟨rfl, q⟩ := one b z
    rw [q] at e
    cases e
  obtain ⟨mc, l1, l2⟩ := lim
  obtain ⟨md, d1, d2⟩ := dig
  have e0 : Env0 P w K mg (hidT s.heap H) callerA [] s H :=
    ⟨rfl, ⟨inK, ns' nm, ⟨mb, ns' nb, bb⟩, ⟨mc, ns' l1, l2⟩⟩, fun b o e => of_hidT e, Nat.le_of_eq (hidT_size _ _), trivial, fun b z => absurd (show b ∈ ([] : List Addr) from z) (by simp), hok, .of_eq ng⟩
  have call : SpD K 1 g [.ref a] H (fun v _ => v = .bl true) fun _ _ _ => False := by
    refine ⟨H, [.list (ns.map .int)], _, Same.refl H, rfl, .cons (.lst seq (dp_ints ns)) .nil, hg, ?_⟩
    rintro r rfl v F' H' _ z
    cases z
    rfl
  refine codeAny_mono ((F _ inK (ns' nm) ⟨md, ns' d1, d2⟩).run callerA [] s H ⟨[.ref a], []⟩ [.ref a] [.ref a] _ _ rfl room e0 (hb s (.ref a)) (.cons rfl .nil) call) ?_
  intro r s' h
  match r, h with
  | .error e, h => exact h.elim
  | .ok (.ret u), h =>
    obtain ⟨v, H', os, bare, un, hok', ru, qv⟩ := h
    obtain rfl : v = V.bl true := qv
    obtain rfl : u = Value.bool true := ru
    refine ⟨rfl, .of_keep fun b o e => ?_, os, bare⟩
    rcases only b with z | ⟨ob, xs, z⟩
    · exact un.keep b o e z (fun q => nomatch (show b ∈ ([] : List Addr) from q)) (by simp)
    · have old := (hok b _ z).1
      obtain rfl := Option.some.inj (old.symm.trans e)
      exact (hok' b _ (un.frzs b ob _ z)).1
theorem walk_G {l : PySem.W.OpenLaw} {n k : Nat} {q : Program} {loose : List Str} {XP : (Str → Option Value) → Heap → Prop} {YP : World → Heap → Prop} {d : DefRec} {K : Params → Frag} {g : FD} {x : Str}
    (hn : l.most = some n) (hn2 : n ≤ sizeLine) (hdf : d.params.defaults = []) (room : Room k callerA) (hY : ∀ (w : World) (h : Heap), YP w h → (K w.params).In h)
    (F : ∀ (w : World) (mg : Str → Option Value) (fa : Addr) (h : Heap), (K w.params).In h → h.Ns mainGlobals mg → mg d.name = some (.ref fa) →
      ∃ fd : FuncData, (∀ (s : Shared) (u : Value), BindsTo s fd ⟨[u], []⟩ [(x, u)]) ∧ ∀ base : Heap, (K w.params).In base → base.Ns mainGlobals mg → base.NoDigits → FnG l.prog w (K w.params) mg base k fa fd [x] (SpD (K w.params) 1 g))
    (hg : ∀ ns : List Int, ns.length ≤ n → (∀ i ∈ ns, Builtin.Int.intBits i ≤ 1048576) → g [.list (ns.map .int)] fun r => r = .val (.bool true)) :
    PySem.W.WalkO q loose XP YP l.row.toRowW d [] (fun f vs => PySem.call f vs) := by
  refine Att.attach_callB hn hdf fun w s₀ s₁ mg mb fa o pm cd doc a vs ns G Y ho hd hcd hmg hobj hints hlen hbits hng => ?_
  obtain ⟨fd, b1, b2⟩ := F w mg fa _ (hY w _ Y) G.T.g hmg
  exact law_callG (hY w _ Y) G.T.g G.T.b G.T.builtins G.T.nolimit G.T.nodigits hng hobj hints (Nat.le_trans hlen hn2) room b2 b1 (hg ns hlen hbits)
end DL

namespace DL
open PySem PySem.Spec PyProof.Rows L2 Builtin.Int

/-! ### rules for bodies -/
theorem sq_i {t u : RS} {DD : DEnds} {ρ : Rho} (h : ∀ k, k = u DD → t { DD with nx := k } ρ) : sSeq t u DD ρ := by rw [sSeq_c]; exact h _ rfl
theorem if_in {c : RT} {t u : RS} {DD : DEnds} {ρ : Rho} (h : ∀ T U : Prop, T = t DD ρ → U = u DD ρ → c ρ fun b => (b = true → T) ∧ (b = false → U)) : sIf c t u DD ρ := h _ _ rfl rfl
theorem if_n {c : RT} {t : RS} {DD : DEnds} {ρ : Rho} (h : ∀ T : Prop, T = t DD ρ → c ρ fun b => (b = true → T) ∧ (b = false → DD.nx ρ)) : sIf c t sNext DD ρ := h _ rfl
theorem for_in {di : RL} {g : RG} {b : RS} {DD : DEnds} {ρ : Rho} (h : ∀ (W : List D → Prop), (W = fun items => forD g b DD items ρ) → di ρ W) : sFor di g b DD ρ := h _ rfl
/-- a for: P i tells the names' values before the item at i -/
theorem for_ix {g : RG} {body : RS} {DD : DEnds} (P : Nat → Rho → Prop) (xs : List D) {ρ : Rho} (h0 : P 0 ρ) (hn : ∀ ρ, P xs.length ρ → DD.nx ρ)
    (hs : ∀ (i : Nat) (d : D) (ρ : Rho), xs[i]? = some d → P i ρ → ∀ k : Rho → Prop, (∀ ρ', P (i + 1) ρ' → k ρ') → g d ρ fun ρ1 => body { DD with nx := k, ct := k, bk := DD.nx } ρ1) : forD g body DD xs ρ := by
  have : ∀ (r : List D) (i : Nat) (ρ : Rho), xs.drop i = r → i ≤ xs.length → P i ρ → forD g body DD r ρ := by
    intro r
    induction r with
    | nil =>
      intro i ρ e hi h
      have : i = xs.length := by
        have := congrArg List.length e
        simp at this
        omega
      subst this
      exact hn ρ h
    | cons d r ih =>
      intro i ρ e hi h
      have hlt : i < xs.length := by
        have := congrArg List.length e
        simp at this
        omega
      have e2 := (List.drop_eq_getElem_cons hlt).symm.trans e
      obtain ⟨e3, e4⟩ := List.cons.inj e2
      refine hs i d ρ (by rw [List.getElem?_eq_getElem hlt, e3]) h _ fun ρ' h' => ?_
      exact ih (i + 1) ρ' e4 hlt h'
  exact this xs 0 ρ rfl (Nat.zero_le _) h0
/-- over what remains: xs.map emb -/
theorem for_map {α : Type} {emb : α → D} {g : RG} {body : RS} {DD : DEnds} (P : List α → Rho → Prop) (xs : List α) {ρ : Rho} (h0 : P xs ρ) (hn : ∀ ρ, P [] ρ → DD.nx ρ)
    (hs : ∀ (a : α) (r : List α) (ρ : Rho), P (a :: r) ρ → ∀ k : Rho → Prop, (∀ ρ', P r ρ' → k ρ') → g (emb a) ρ fun ρ1 => body { DD with nx := k, ct := k, bk := DD.nx } ρ1) : forD g body DD (xs.map emb) ρ := by
  induction xs generalizing ρ with
  | nil => exact hn ρ h0
  | cons a r ih => exact hs a r ρ h0 _ fun ρ' h' => ih h'
/-- over range -/
theorem for_up {g : RG} {body : RS} {DD : DEnds} (P : Nat → Rho → Prop) (lo : Int) (n : Nat) {ρ : Rho} (h0 : P 0 ρ) (hn : ∀ ρ, P n ρ → DD.nx ρ)
    (hs : ∀ (i : Nat) (ρ : Rho), i < n → P i ρ → ∀ k : Rho → Prop, (∀ ρ', P (i + 1) ρ' → k ρ') → g (.int (lo + i)) ρ fun ρ1 => body { DD with nx := k, ct := k, bk := DD.nx } ρ1) : forD g body DD (upTo lo n) ρ := by
  refine for_ix P _ h0 (fun ρ h => hn ρ (by rwa [upTo_length] at h)) fun i d ρ e h k hk => ?_
  have hi : i < n := by
    have := (List.getElem?_eq_some_iff.mp e).1
    rwa [upTo_length] at this
  rw [upTo_get lo n i hi] at e
  cases e
  exact hs i ρ hi h k hk
/-- a while: P m tells the names' values, m falls -/
theorem while_m {c : RT} {body : RS} {DD : DEnds} {ρ : Rho} (P : Nat → Rho → Prop) (m0 : Nat) (h0 : P m0 ρ)
    (hs : ∀ m ρ, P m ρ → c ρ fun b => (b = true → ∀ k : Rho → Prop, (∀ m' ρ', m' < m → P m' ρ' → k ρ') → body { DD with nx := k, ct := k, bk := DD.nx } ρ) ∧ (b = false → DD.nx ρ))
    (mono : ∀ (ρ : Rho) (q q' : Bool → Prop), (∀ b, q b → q' b) → c ρ q → c ρ q') : sWhile c body DD ρ :=
  ⟨P, ⟨m0, h0⟩, fun m ρ h => mono ρ _ _ (fun b hb => ⟨fun e => hb.1 e _ fun m' ρ' h1 h2 => ⟨m', h1, h2⟩, hb.2⟩) (hs m ρ h)⟩
theorem while_i {c : RT} {body : RS} {DD : DEnds} {ρ : Rho} (P : Nat → Rho → Prop) (m0 : Nat) (h0 : P m0 ρ)
    (hs : ∀ m ρ, P m ρ → ∀ k : Rho → Prop, k = (fun ρ' => ∃ m', m' < m ∧ P m' ρ') → c ρ fun b => (b = true → body { DD with nx := k, ct := k, bk := DD.nx } ρ) ∧ (b = false → DD.nx ρ)) : sWhile c body DD ρ :=
  ⟨P, ⟨m0, h0⟩, fun m ρ h => hs m ρ h _ rfl⟩
/-- a comprehension without test -/
theorem lc_map {g : RG} {tt : RT} {de : RE} {vs : List Nat} {ρ : Rho} {q : List D → Prop} {α : Type} {emb : α → D} {P : α → D → Prop} (xs : List α)
    (hs : ∀ a ∈ xs, ∀ q : D → Prop, (∀ d, P a d → q d) → g (emb a) (wipeD ρ vs) fun ρ1 => tt ρ1 fun b => b = true ∧ de ρ1 q)
    (hq : ∀ ys : List D, ys.length = xs.length → (∀ (i : Nat) a d, xs[i]? = some a → ys[i]? = some d → P a d) → q ys)
    (mono : ∀ (d : D) (ρ : Rho) (q q' : Rho → Prop), (∀ ρ, q ρ → q' ρ) → g d ρ q → g d ρ q') (monot : ∀ (ρ : Rho) (q q' : Bool → Prop), (∀ b, q b → q' b) → tt ρ q → tt ρ q') : lcD g tt de vs (xs.map emb) ρ q := by
  induction xs generalizing q with
  | nil => exact hq [] rfl (by simp)
  | cons a r ih =>
    refine mono _ _ _ _ (fun ρ1 z => monot _ _ _ (fun b z => ⟨fun _ => z.2, fun e => absurd z.1 (by rw [e]; decide)⟩) z) (hs a List.mem_cons_self _ fun d hd => ?_)
    refine ih (fun a ha => hs a (List.mem_cons_of_mem _ ha)) fun ys h1 h2 => hq _ (by simp [h1]) fun i a' d' e1 e2 => ?_
    cases i with
    | zero => cases e1; cases e2; exact hd
    | succ i => exact h2 i a' d' (by simpa using e1) (by simpa using e2)

instance {i j : Int} : Decidable (PowOk i j) := decidable_of_iff (0 ≤ j ∧ j ≤ 1000000 ∧ i.natAbs < 2 ^ 64) ⟨fun h => ⟨h⟩, fun h => h.ok⟩
instance {i j : Int} : Decidable (ShlOk i j) := decidable_of_iff (0 ≤ j ∧ (Builtin.Int.intBits i : Int) + j ≤ 2 ^ 27) ⟨fun h => ⟨h⟩, fun h => h.ok⟩
theorem isTy_none_int : isTy .none "int" = false := by simp [isTy, tyD]
theorem isTy_none_bool : isTy .none "bool" = false := by simp [isTy, tyD]
theorem isTy_none_str : isTy .none "str" = false := by simp [isTy, tyD]
theorem isTy_none_list : isTy .none "list" = false := by simp [isTy, tyD]
theorem isTy_none_tuple : isTy .none "tuple" = false := by simp [isTy, tyD]
theorem isTy_bool_int {x : Bool} : isTy (.bool x) "int" = true := by simp [isTy, tyD]
theorem isTy_bool_bool {x : Bool} : isTy (.bool x) "bool" = true := by simp [isTy, tyD]
theorem isTy_bool_str {x : Bool} : isTy (.bool x) "str" = false := by simp [isTy, tyD]
theorem isTy_bool_list {x : Bool} : isTy (.bool x) "list" = false := by simp [isTy, tyD]
theorem isTy_bool_tuple {x : Bool} : isTy (.bool x) "tuple" = false := by simp [isTy, tyD]
theorem isTy_int_int {x : Int} : isTy (.int x) "int" = true := by simp [isTy, tyD]
theorem isTy_int_bool {x : Int} : isTy (.int x) "bool" = false := by simp [isTy, tyD]
theorem isTy_int_str {x : Int} : isTy (.int x) "str" = false := by simp [isTy, tyD]
theorem isTy_int_list {x : Int} : isTy (.int x) "list" = false := by simp [isTy, tyD]
theorem isTy_int_tuple {x : Int} : isTy (.int x) "tuple" = false := by simp [isTy, tyD]
theorem isTy_str_int {x : Str} : isTy (.str x) "int" = false := by simp [isTy, tyD]
theorem isTy_str_bool {x : Str} : isTy (.str x) "bool" = false := by simp [isTy, tyD]
theorem isTy_str_str {x : Str} : isTy (.str x) "str" = true := by simp [isTy, tyD]
theorem isTy_str_list {x : Str} : isTy (.str x) "list" = false := by simp [isTy, tyD]
theorem isTy_str_tuple {x : Str} : isTy (.str x) "tuple" = false := by simp [isTy, tyD]
theorem isTy_list_int {x : List D} : isTy (.list x) "int" = false := by simp [isTy, tyD]
theorem isTy_list_bool {x : List D} : isTy (.list x) "bool" = false := by simp [isTy, tyD]
theorem isTy_list_str {x : List D} : isTy (.list x) "str" = false := by simp [isTy, tyD]
theorem isTy_list_list {x : List D} : isTy (.list x) "list" = true := by simp [isTy, tyD]
theorem isTy_list_tuple {x : List D} : isTy (.list x) "tuple" = false := by simp [isTy, tyD]
theorem isTy_tuple_int {x : List D} : isTy (.tuple x) "int" = false := by simp [isTy, tyD]
theorem isTy_tuple_bool {x : List D} : isTy (.tuple x) "bool" = false := by simp [isTy, tyD]
theorem isTy_tuple_str {x : List D} : isTy (.tuple x) "str" = false := by simp [isTy, tyD]
theorem isTy_tuple_list {x : List D} : isTy (.tuple x) "list" = false := by simp [isTy, tyD]
theorem isTy_tuple_tuple {x : List D} : isTy (.tuple x) "tuple" = true := by simp [isTy, tyD]
theorem ix2_0 : ixN 2 0 = some 0 := rfl
theorem ix2_1 : ixN 2 1 = some 1 := rfl
/-! ### items of a list -/
theorem gIx_P {xs : List D} {i : Int} {q : D → Prop} (P : D → Prop) (h0 : 0 ≤ i) (h1 : i < xs.length) (hP : ∀ d, xs[i.toNat]? = some d → P d) (hq : ∀ d, P d → q d) : gIx (.list xs) (.int i) q := by
  obtain ⟨j, rfl⟩ : ∃ j : Nat, i = (j : Int) := ⟨i.toNat, by omega⟩
  have hj : j < xs.length := by omega
  simp only [Int.toNat_natCast] at hP
  have e : atI xs (j : Int) = some xs[j] := atI_nat (List.getElem?_eq_getElem hj)
  show (match atI xs (j : Int) with | some d => q d | none => False)
  rw [e]
  exact hq _ (hP _ (List.getElem?_eq_getElem hj))
theorem gIx_T {xs : List D} {i : Int} {q : D → Prop} (P : D → Prop) (h0 : 0 ≤ i) (h1 : i < xs.length) (hP : ∀ d, xs[i.toNat]? = some d → P d) (hq : ∀ d, P d → q d) : gIx (.tuple xs) (.int i) q := gIx_P P h0 h1 hP hq
theorem gIx_N {xs : List D} {j : Nat} {d : D} {q : D → Prop} (h : xs[j]? = some d) (hq : q d) : gIx (.list xs) (.int (j : Nat)) q := by
  show (match atI xs (j : Nat) with | some d => q d | none => False)
  rw [atI_nat h]
  exact hq
theorem gIx_NT {xs : List D} {j : Nat} {d : D} {q : D → Prop} (h : xs[j]? = some d) (hq : q d) : gIx (.tuple xs) (.int (j : Nat)) q := gIx_N (xs := xs) h hq
/-- a list of whole numbers -/
theorem gIx_ints {ns : List Int} {i : Int} {q : D → Prop} (P : Int → Prop) (h0 : 0 ≤ i) (h1 : i < ns.length) (hP : ∀ n, ns[i.toNat]? = some n → P n) (hq : ∀ n, P n → q (.int n)) : gIx (.list (ns.map .int)) (.int i) q := by
  refine gIx_P (fun d => ∃ n, d = .int n ∧ P n) h0 (by simpa using h1) (fun d e => ?_) fun d ⟨n, e, p⟩ => by rw [e]; exact hq n p
  rw [List.getElem?_map] at e
  cases h : ns[i.toNat]? with
  | none => rw [h] at e; cases e
  | some n => rw [h] at e; cases e; exact ⟨n, rfl, hP n h⟩

/-! items at written places -/
theorem gIx_l0 {x0 : D} {r : List D} {q : D → Prop} : gIx (.list (x0 :: r)) (.int 0) q = q x0 := by
  show (match atI (x0 :: r) ((0 : Nat) : Int) with | some d => q d | none => False) = _
  rw [atI_nat (j := 0) (v := x0) rfl]
theorem gIx_l1 {x0 x1 : D} {r : List D} {q : D → Prop} : gIx (.list (x0 :: x1 :: r)) (.int 1) q = q x1 := by
  show (match atI (x0 :: x1 :: r) ((1 : Nat) : Int) with | some d => q d | none => False) = _
  rw [atI_nat (j := 1) (v := x1) rfl]
theorem gIx_l2 {x0 x1 x2 : D} {r : List D} {q : D → Prop} : gIx (.list (x0 :: x1 :: x2 :: r)) (.int 2) q = q x2 := by
  show (match atI (x0 :: x1 :: x2 :: r) ((2 : Nat) : Int) with | some d => q d | none => False) = _
  rw [atI_nat (j := 2) (v := x2) rfl]
theorem gIx_l3 {x0 x1 x2 x3 : D} {r : List D} {q : D → Prop} : gIx (.list (x0 :: x1 :: x2 :: x3 :: r)) (.int 3) q = q x3 := by
  show (match atI (x0 :: x1 :: x2 :: x3 :: r) ((3 : Nat) : Int) with | some d => q d | none => False) = _
  rw [atI_nat (j := 3) (v := x3) rfl]
theorem gIx_l4 {x0 x1 x2 x3 x4 : D} {r : List D} {q : D → Prop} : gIx (.list (x0 :: x1 :: x2 :: x3 :: x4 :: r)) (.int 4) q = q x4 := by
  show (match atI (x0 :: x1 :: x2 :: x3 :: x4 :: r) ((4 : Nat) : Int) with | some d => q d | none => False) = _
  rw [atI_nat (j := 4) (v := x4) rfl]
theorem gIx_l5 {x0 x1 x2 x3 x4 x5 : D} {r : List D} {q : D → Prop} : gIx (.list (x0 :: x1 :: x2 :: x3 :: x4 :: x5 :: r)) (.int 5) q = q x5 := by
  show (match atI (x0 :: x1 :: x2 :: x3 :: x4 :: x5 :: r) ((5 : Nat) : Int) with | some d => q d | none => False) = _
  rw [atI_nat (j := 5) (v := x5) rfl]
theorem gIx_l6 {x0 x1 x2 x3 x4 x5 x6 : D} {r : List D} {q : D → Prop} : gIx (.list (x0 :: x1 :: x2 :: x3 :: x4 :: x5 :: x6 :: r)) (.int 6) q = q x6 := by
  show (match atI (x0 :: x1 :: x2 :: x3 :: x4 :: x5 :: x6 :: r) ((6 : Nat) : Int) with | some d => q d | none => False) = _
  rw [atI_nat (j := 6) (v := x6) rfl]
theorem gIx_l7 {x0 x1 x2 x3 x4 x5 x6 x7 : D} {r : List D} {q : D → Prop} : gIx (.list (x0 :: x1 :: x2 :: x3 :: x4 :: x5 :: x6 :: x7 :: r)) (.int 7) q = q x7 := by
  show (match atI (x0 :: x1 :: x2 :: x3 :: x4 :: x5 :: x6 :: x7 :: r) ((7 : Nat) : Int) with | some d => q d | none => False) = _
  rw [atI_nat (j := 7) (v := x7) rfl]
theorem gIx_l8 {x0 x1 x2 x3 x4 x5 x6 x7 x8 : D} {r : List D} {q : D → Prop} : gIx (.list (x0 :: x1 :: x2 :: x3 :: x4 :: x5 :: x6 :: x7 :: x8 :: r)) (.int 8) q = q x8 := by
  show (match atI (x0 :: x1 :: x2 :: x3 :: x4 :: x5 :: x6 :: x7 :: x8 :: r) ((8 : Nat) : Int) with | some d => q d | none => False) = _
  rw [atI_nat (j := 8) (v := x8) rfl]
theorem gIx_l9 {x0 x1 x2 x3 x4 x5 x6 x7 x8 x9 : D} {r : List D} {q : D → Prop} : gIx (.list (x0 :: x1 :: x2 :: x3 :: x4 :: x5 :: x6 :: x7 :: x8 :: x9 :: r)) (.int 9) q = q x9 := by
  show (match atI (x0 :: x1 :: x2 :: x3 :: x4 :: x5 :: x6 :: x7 :: x8 :: x9 :: r) ((9 : Nat) : Int) with | some d => q d | none => False) = _
  rw [atI_nat (j := 9) (v := x9) rfl]
theorem gIx_l10 {x0 x1 x2 x3 x4 x5 x6 x7 x8 x9 x10 : D} {r : List D} {q : D → Prop} : gIx (.list (x0 :: x1 :: x2 :: x3 :: x4 :: x5 :: x6 :: x7 :: x8 :: x9 :: x10 :: r)) (.int 10) q = q x10 := by
  show (match atI (x0 :: x1 :: x2 :: x3 :: x4 :: x5 :: x6 :: x7 :: x8 :: x9 :: x10 :: r) ((10 : Nat) : Int) with | some d => q d | none => False) = _
  rw [atI_nat (j := 10) (v := x10) rfl]
theorem gIx_l11 {x0 x1 x2 x3 x4 x5 x6 x7 x8 x9 x10 x11 : D} {r : List D} {q : D → Prop} : gIx (.list (x0 :: x1 :: x2 :: x3 :: x4 :: x5 :: x6 :: x7 :: x8 :: x9 :: x10 :: x11 :: r)) (.int 11) q = q x11 := by
  show (match atI (x0 :: x1 :: x2 :: x3 :: x4 :: x5 :: x6 :: x7 :: x8 :: x9 :: x10 :: x11 :: r) ((11 : Nat) : Int) with | some d => q d | none => False) = _
  rw [atI_nat (j := 11) (v := x11) rfl]
theorem gIx_l12 {x0 x1 x2 x3 x4 x5 x6 x7 x8 x9 x10 x11 x12 : D} {r : List D} {q : D → Prop} : gIx (.list (x0 :: x1 :: x2 :: x3 :: x4 :: x5 :: x6 :: x7 :: x8 :: x9 :: x10 :: x11 :: x12 :: r)) (.int 12) q = q x12 := by
  show (match atI (x0 :: x1 :: x2 :: x3 :: x4 :: x5 :: x6 :: x7 :: x8 :: x9 :: x10 :: x11 :: x12 :: r) ((12 : Nat) : Int) with | some d => q d | none => False) = _
  rw [atI_nat (j := 12) (v := x12) rfl]
theorem gIx_l13 {x0 x1 x2 x3 x4 x5 x6 x7 x8 x9 x10 x11 x12 x13 : D} {r : List D} {q : D → Prop} : gIx (.list (x0 :: x1 :: x2 :: x3 :: x4 :: x5 :: x6 :: x7 :: x8 :: x9 :: x10 :: x11 :: x12 :: x13 :: r)) (.int 13) q = q x13 := by
  show (match atI (x0 :: x1 :: x2 :: x3 :: x4 :: x5 :: x6 :: x7 :: x8 :: x9 :: x10 :: x11 :: x12 :: x13 :: r) ((13 : Nat) : Int) with | some d => q d | none => False) = _
  rw [atI_nat (j := 13) (v := x13) rfl]
theorem gIx_l14 {x0 x1 x2 x3 x4 x5 x6 x7 x8 x9 x10 x11 x12 x13 x14 : D} {r : List D} {q : D → Prop} : gIx (.list (x0 :: x1 :: x2 :: x3 :: x4 :: x5 :: x6 :: x7 :: x8 :: x9 :: x10 :: x11 :: x12 :: x13 :: x14 :: r)) (.int 14) q = q x14 := by
  show (match atI (x0 :: x1 :: x2 :: x3 :: x4 :: x5 :: x6 :: x7 :: x8 :: x9 :: x10 :: x11 :: x12 :: x13 :: x14 :: r) ((14 : Nat) : Int) with | some d => q d | none => False) = _
  rw [atI_nat (j := 14) (v := x14) rfl]
theorem gIx_l15 {x0 x1 x2 x3 x4 x5 x6 x7 x8 x9 x10 x11 x12 x13 x14 x15 : D} {r : List D} {q : D → Prop} : gIx (.list (x0 :: x1 :: x2 :: x3 :: x4 :: x5 :: x6 :: x7 :: x8 :: x9 :: x10 :: x11 :: x12 :: x13 :: x14 :: x15 :: r)) (.int 15) q = q x15 := by
  show (match atI (x0 :: x1 :: x2 :: x3 :: x4 :: x5 :: x6 :: x7 :: x8 :: x9 :: x10 :: x11 :: x12 :: x13 :: x14 :: x15 :: r) ((15 : Nat) : Int) with | some d => q d | none => False) = _
  rw [atI_nat (j := 15) (v := x15) rfl]
theorem gIx_t0 {x0 : D} {r : List D} {q : D → Prop} : gIx (.tuple (x0 :: r)) (.int 0) q = q x0 := by
  show (match atI (x0 :: r) ((0 : Nat) : Int) with | some d => q d | none => False) = _
  rw [atI_nat (j := 0) (v := x0) rfl]
theorem gIx_t1 {x0 x1 : D} {r : List D} {q : D → Prop} : gIx (.tuple (x0 :: x1 :: r)) (.int 1) q = q x1 := by
  show (match atI (x0 :: x1 :: r) ((1 : Nat) : Int) with | some d => q d | none => False) = _
  rw [atI_nat (j := 1) (v := x1) rfl]
theorem gIx_t2 {x0 x1 x2 : D} {r : List D} {q : D → Prop} : gIx (.tuple (x0 :: x1 :: x2 :: r)) (.int 2) q = q x2 := by
  show (match atI (x0 :: x1 :: x2 :: r) ((2 : Nat) : Int) with | some d => q d | none => False) = _
  rw [atI_nat (j := 2) (v := x2) rfl]
theorem gIx_t3 {x0 x1 x2 x3 : D} {r : List D} {q : D → Prop} : gIx (.tuple (x0 :: x1 :: x2 :: x3 :: r)) (.int 3) q = q x3 := by
  show (match atI (x0 :: x1 :: x2 :: x3 :: r) ((3 : Nat) : Int) with | some d => q d | none => False) = _
  rw [atI_nat (j := 3) (v := x3) rfl]
theorem gIx_t4 {x0 x1 x2 x3 x4 : D} {r : List D} {q : D → Prop} : gIx (.tuple (x0 :: x1 :: x2 :: x3 :: x4 :: r)) (.int 4) q = q x4 := by
  show (match atI (x0 :: x1 :: x2 :: x3 :: x4 :: r) ((4 : Nat) : Int) with | some d => q d | none => False) = _
  rw [atI_nat (j := 4) (v := x4) rfl]
theorem gIx_t5 {x0 x1 x2 x3 x4 x5 : D} {r : List D} {q : D → Prop} : gIx (.tuple (x0 :: x1 :: x2 :: x3 :: x4 :: x5 :: r)) (.int 5) q = q x5 := by
  show (match atI (x0 :: x1 :: x2 :: x3 :: x4 :: x5 :: r) ((5 : Nat) : Int) with | some d => q d | none => False) = _
  rw [atI_nat (j := 5) (v := x5) rfl]
theorem gIx_t6 {x0 x1 x2 x3 x4 x5 x6 : D} {r : List D} {q : D → Prop} : gIx (.tuple (x0 :: x1 :: x2 :: x3 :: x4 :: x5 :: x6 :: r)) (.int 6) q = q x6 := by
  show (match atI (x0 :: x1 :: x2 :: x3 :: x4 :: x5 :: x6 :: r) ((6 : Nat) : Int) with | some d => q d | none => False) = _
  rw [atI_nat (j := 6) (v := x6) rfl]
theorem gIx_t7 {x0 x1 x2 x3 x4 x5 x6 x7 : D} {r : List D} {q : D → Prop} : gIx (.tuple (x0 :: x1 :: x2 :: x3 :: x4 :: x5 :: x6 :: x7 :: r)) (.int 7) q = q x7 := by
  show (match atI (x0 :: x1 :: x2 :: x3 :: x4 :: x5 :: x6 :: x7 :: r) ((7 : Nat) : Int) with | some d => q d | none => False) = _
  rw [atI_nat (j := 7) (v := x7) rfl]
theorem gIx_t8 {x0 x1 x2 x3 x4 x5 x6 x7 x8 : D} {r : List D} {q : D → Prop} : gIx (.tuple (x0 :: x1 :: x2 :: x3 :: x4 :: x5 :: x6 :: x7 :: x8 :: r)) (.int 8) q = q x8 := by
  show (match atI (x0 :: x1 :: x2 :: x3 :: x4 :: x5 :: x6 :: x7 :: x8 :: r) ((8 : Nat) : Int) with | some d => q d | none => False) = _
  rw [atI_nat (j := 8) (v := x8) rfl]
theorem gIx_t9 {x0 x1 x2 x3 x4 x5 x6 x7 x8 x9 : D} {r : List D} {q : D → Prop} : gIx (.tuple (x0 :: x1 :: x2 :: x3 :: x4 :: x5 :: x6 :: x7 :: x8 :: x9 :: r)) (.int 9) q = q x9 := by
  show (match atI (x0 :: x1 :: x2 :: x3 :: x4 :: x5 :: x6 :: x7 :: x8 :: x9 :: r) ((9 : Nat) : Int) with | some d => q d | none => False) = _
  rw [atI_nat (j := 9) (v := x9) rfl]
theorem gIx_t10 {x0 x1 x2 x3 x4 x5 x6 x7 x8 x9 x10 : D} {r : List D} {q : D → Prop} : gIx (.tuple (x0 :: x1 :: x2 :: x3 :: x4 :: x5 :: x6 :: x7 :: x8 :: x9 :: x10 :: r)) (.int 10) q = q x10 := by
  show (match atI (x0 :: x1 :: x2 :: x3 :: x4 :: x5 :: x6 :: x7 :: x8 :: x9 :: x10 :: r) ((10 : Nat) : Int) with | some d => q d | none => False) = _
  rw [atI_nat (j := 10) (v := x10) rfl]
theorem gIx_t11 {x0 x1 x2 x3 x4 x5 x6 x7 x8 x9 x10 x11 : D} {r : List D} {q : D → Prop} : gIx (.tuple (x0 :: x1 :: x2 :: x3 :: x4 :: x5 :: x6 :: x7 :: x8 :: x9 :: x10 :: x11 :: r)) (.int 11) q = q x11 := by
  show (match atI (x0 :: x1 :: x2 :: x3 :: x4 :: x5 :: x6 :: x7 :: x8 :: x9 :: x10 :: x11 :: r) ((11 : Nat) : Int) with | some d => q d | none => False) = _
  rw [atI_nat (j := 11) (v := x11) rfl]
theorem gIx_t12 {x0 x1 x2 x3 x4 x5 x6 x7 x8 x9 x10 x11 x12 : D} {r : List D} {q : D → Prop} : gIx (.tuple (x0 :: x1 :: x2 :: x3 :: x4 :: x5 :: x6 :: x7 :: x8 :: x9 :: x10 :: x11 :: x12 :: r)) (.int 12) q = q x12 := by
  show (match atI (x0 :: x1 :: x2 :: x3 :: x4 :: x5 :: x6 :: x7 :: x8 :: x9 :: x10 :: x11 :: x12 :: r) ((12 : Nat) : Int) with | some d => q d | none => False) = _
  rw [atI_nat (j := 12) (v := x12) rfl]
theorem gIx_t13 {x0 x1 x2 x3 x4 x5 x6 x7 x8 x9 x10 x11 x12 x13 : D} {r : List D} {q : D → Prop} : gIx (.tuple (x0 :: x1 :: x2 :: x3 :: x4 :: x5 :: x6 :: x7 :: x8 :: x9 :: x10 :: x11 :: x12 :: x13 :: r)) (.int 13) q = q x13 := by
  show (match atI (x0 :: x1 :: x2 :: x3 :: x4 :: x5 :: x6 :: x7 :: x8 :: x9 :: x10 :: x11 :: x12 :: x13 :: r) ((13 : Nat) : Int) with | some d => q d | none => False) = _
  rw [atI_nat (j := 13) (v := x13) rfl]
theorem gIx_t14 {x0 x1 x2 x3 x4 x5 x6 x7 x8 x9 x10 x11 x12 x13 x14 : D} {r : List D} {q : D → Prop} : gIx (.tuple (x0 :: x1 :: x2 :: x3 :: x4 :: x5 :: x6 :: x7 :: x8 :: x9 :: x10 :: x11 :: x12 :: x13 :: x14 :: r)) (.int 14) q = q x14 := by
  show (match atI (x0 :: x1 :: x2 :: x3 :: x4 :: x5 :: x6 :: x7 :: x8 :: x9 :: x10 :: x11 :: x12 :: x13 :: x14 :: r) ((14 : Nat) : Int) with | some d => q d | none => False) = _
  rw [atI_nat (j := 14) (v := x14) rfl]
theorem gIx_t15 {x0 x1 x2 x3 x4 x5 x6 x7 x8 x9 x10 x11 x12 x13 x14 x15 : D} {r : List D} {q : D → Prop} : gIx (.tuple (x0 :: x1 :: x2 :: x3 :: x4 :: x5 :: x6 :: x7 :: x8 :: x9 :: x10 :: x11 :: x12 :: x13 :: x14 :: x15 :: r)) (.int 15) q = q x15 := by
  show (match atI (x0 :: x1 :: x2 :: x3 :: x4 :: x5 :: x6 :: x7 :: x8 :: x9 :: x10 :: x11 :: x12 :: x13 :: x14 :: x15 :: r) ((15 : Nat) : Int) with | some d => q d | none => False) = _
  rw [atI_nat (j := 15) (v := x15) rfl]
/-! ### plain facts of readings -/
theorem eqv_int (i j : Int) : PyData.eqv (.int i) (.int j) = (i == j) := by simp [PyData.eqv]
theorem eqv_str (i j : Str) : PyData.eqv (.str i) (.str j) = (i == j) := by simp [PyData.eqv]
theorem eqv_bool (i j : Bool) : PyData.eqv (.bool i) (.bool j) = (i == j) := by simp [PyData.eqv]

/-! ### repr of plain data -/
theorem log2_lt_of {n k : Nat} (h : n < 2 ^ k) (hk : 0 < k) : n.log2 < k := by
  by_cases h0 : n = 0
  · subst h0
    have : Nat.log2 0 = 0 := by decide
    omega
  · exact (Nat.log2_lt h0).mpr h
theorem rpAll_ints : ∀ ns : List Int, (∀ n ∈ ns, n.natAbs < bigLine) → rpAll (ns.map .int) = true
  | [], _ => by simp [rpAll]
  | n :: r, h => by
    simp only [List.map_cons, rpAll, rpD, Bool.and_eq_true, decide_eq_true_eq]
    exact ⟨h n List.mem_cons_self, rpAll_ints r fun m hm => h m (List.mem_cons_of_mem _ hm)⟩
theorem cellsAll_ints : ∀ ns : List Int, cellsAll (ns.map .int) = ns.length
  | [] => by simp [cellsAll]
  | n :: r => by
    simp only [List.map_cons, cellsAll, cells, cellsAll_ints r, List.length_cons]
    omega
theorem depthAll_ints : ∀ ns : List Int, PyData.depthAll (ns.map .int) = 0
  | [] => by simp [PyData.depthAll]
  | n :: r => by simp [PyData.depthAll, PyData.depth, depthAll_ints r]
theorem gRepr_ints {ns : List Int} {q : D → Prop} (h : ∀ n ∈ ns, n.natAbs < bigLine) (hl : ns.length ≤ 4000) (hq : q (.str (PyData.shown (.list (ns.map .int))))) : gRepr [.list (ns.map .int)] q :=
  ⟨⟨rfl, by simp only [rpD]; exact rpAll_ints ns h, by simp only [cells, cellsAll_ints]; omega, by simp [PyData.depth, depthAll_ints]⟩, hq⟩
theorem big_bits {n : Int} {k : Nat} (h : intBits n ≤ k) (hk : k ≤ 12000) : n.natAbs < bigLine := Nat.lt_of_lt_of_le (intBits_le_iff.mp h) (Nat.pow_le_pow_right (by decide) hk)
end DL

namespace DL
open PySem

/-! ### whole square roots -/
theorem sq4 (a b : Nat) : 4 * (a * b) ≤ (a + b) * (a + b) := by
  have key : ∀ a d : Nat, 4 * (a * (a + d)) ≤ (a + (a + d)) * (a + (a + d)) := by
    intro a d
    have e : (a + (a + d)) * (a + (a + d)) = 4 * (a * (a + d)) + d * d := by
      simp only [Nat.add_mul, Nat.mul_add, Nat.mul_comm d a]; omega
    omega
  rcases Nat.le_total a b with h | h
  · obtain ⟨d, rfl⟩ := Nat.le.dest h
    exact key a d
  · obtain ⟨d, rfl⟩ := Nat.le.dest h
    rw [Nat.mul_comm (b + d) b, Nat.add_comm (b + d) b]
    exact key b d
/-- a turn of Newton's stays above -/
theorem newton_up {n x : Nat} (hx : 0 < x) : n < ((x + n / x) / 2 + 1) * ((x + n / x) / 2 + 1) := by
  have h1 : n < (n / x + 1) * x := by
    have := Nat.lt_succ_self (n / x)
    rw [Nat.mul_comm]
    exact Nat.lt_mul_div_succ n hx
  have h2 := sq4 (n / x + 1) x
  have h3 : n / x + 1 + x ≤ 2 * ((x + n / x) / 2 + 1) := by omega
  have h4 : (n / x + 1 + x) * (n / x + 1 + x) ≤ (2 * ((x + n / x) / 2 + 1)) * (2 * ((x + n / x) / 2 + 1)) := Nat.mul_le_mul h3 h3
  have h5 : ∀ y : Nat, (2 * y) * (2 * y) = 4 * (y * y) := fun y => by
    rw [Nat.mul_mul_mul_comm]
  rw [h5] at h4
  omega
/-- r is the whole root of n -/
def IsRoot (n r : Nat) : Prop := r * r ≤ n ∧ n < (r + 1) * (r + 1)
theorem lt_of_sq {a b : Nat} (h : a * a < b * b) : a < b := by
  apply Classical.byContradiction
  intro q
  have := Nat.mul_le_mul (Nat.le_of_not_lt q) (Nat.le_of_not_lt q)
  omega
theorem IsRoot.uniq {n r s : Nat} (h : IsRoot n r) (g : IsRoot n s) : r = s := by
  have h1 : r < s + 1 := lt_of_sq (Nat.lt_of_le_of_lt h.1 g.2)
  have h2 : s < r + 1 := lt_of_sq (Nat.lt_of_le_of_lt g.1 h.2)
  omega
theorem root_step {n r k : Nat} (h8 : 8 ≤ n) (hk : k = (n.log2 + 1) / 4) (hr : IsRoot (n / 4 ^ k) r) :
    IsRoot n (let x := (r + 1) * 2 ^ k; let y := (x + n / x) / 2; if y * y > n then y - 1 else y) := by
  have p4 : (4 : Nat) ^ k = 2 ^ k * 2 ^ k := by rw [← Nat.mul_pow]
  have hb : 0 < 2 ^ k := Nat.two_pow_pos k
  have p4' : 0 < (4 : Nat) ^ k := Nat.pow_pos (by decide)
  obtain ⟨r1, r2⟩ := hr
  generalize hx : (r + 1) * 2 ^ k = x
  have xx : n < x * x := by
    have e : x * x = (r + 1) * (r + 1) * 4 ^ k := by rw [← hx, p4, Nat.mul_mul_mul_comm]
    rw [e]
    exact (Nat.div_lt_iff_lt_mul p4').mp r2
  have aa : (r * 2 ^ k) * (r * 2 ^ k) ≤ n := by
    rw [Nat.mul_mul_mul_comm, ← p4]
    exact (Nat.le_div_iff_mul_le p4').mp r1
  have hxp : 0 < x := by
    rw [← hx]
    exact Nat.mul_pos (by omega) hb
  have ll : 2 ^ n.log2 ≤ n := Nat.log2_self_le (by omega)
  have bb : 2 ^ k * 2 ^ k ≤ 2 * x := by
    apply Classical.byContradiction
    intro q
    have q : 2 * x < 4 ^ k := by rw [p4]; omega
    have q2 := Nat.mul_lt_mul'' q q
    have e1 : (4 : Nat) ^ k * 4 ^ k = 2 ^ (4 * k) := by
      rw [p4, ← Nat.pow_add, ← Nat.pow_add]; congr 1; omega
    have e2 : (2 : Nat) ^ (4 * k) ≤ 2 ^ (n.log2 + 1) := Nat.pow_le_pow_right (by decide) (by omega)
    rw [Nat.pow_succ] at e2
    have e3 : (2 * x) * (2 * x) = 4 * (x * x) := by rw [Nat.mul_mul_mul_comm]
    omega
  show IsRoot n (if (x + n / x) / 2 * ((x + n / x) / 2) > n then (x + n / x) / 2 - 1 else (x + n / x) / 2)
  have up := newton_up (n := n) hxp
  generalize hy : (x + n / x) / 2 = y at up ⊢
  by_cases h : y * y > n
  · rw [if_pos h]
    have y1 : 0 < y := by
      rcases Nat.eq_zero_or_pos y with z | z
      · rw [z] at h; omega
      · exact z
    obtain ⟨z, rfl⟩ : ∃ z, y = z + 1 := ⟨y - 1, by omega⟩
    refine ⟨?_, h⟩
    show z * z ≤ n
    apply Classical.byContradiction
    intro q
    have q : n < z * z := Nat.lt_of_not_le q
    have za : r * 2 ^ k < z := lt_of_sq (Nat.lt_of_le_of_lt aa q)
    have qx : n / x * x ≤ n := Nat.div_mul_le_self n x
    have nx : n / x < x := (Nat.div_lt_iff_lt_mul hxp).mpr xx
    have zx : z < x := by omega
    obtain ⟨d, rfl⟩ := Nat.le.dest (Nat.le_of_lt zx)
    have hd : d < 2 ^ k := by
      have : z + d = r * 2 ^ k + 2 ^ k := by rw [← hx, Nat.add_mul, Nat.one_mul]
      omega
    have dd : d * d < 2 ^ k * 2 ^ k := Nat.mul_lt_mul'' hd hd
    -- 2 (z + 1) ≤ x + n / x, so 2 (z + 1) x ≤ x x + n < x x + z z
    have t1 : 2 * (z + 1) ≤ z + d + n / (z + d) := by omega
    have t2 : 2 * (z + 1) * (z + d) ≤ (z + d + n / (z + d)) * (z + d) := Nat.mul_le_mul_right _ t1
    rw [Nat.add_mul] at t2
    have t3 : 2 * (z + 1) * (z + d) < (z + d) * (z + d) + z * z := by omega
    have e1 : 2 * (z + 1) * (z + d) = 2 * (z * z) + 2 * (z * d) + 2 * (z + d) := by
      simp only [Nat.add_mul, Nat.mul_add, Nat.mul_assoc]; omega
    have e2 : (z + d) * (z + d) = z * z + 2 * (z * d) + d * d := by
      simp only [Nat.add_mul, Nat.mul_add, Nat.mul_comm d z]; omega
    omega
  · rw [if_neg h]
    exact ⟨by omega, up⟩
theorem below8 {n : Nat} (h : n < 8) : IsRoot n (Float64.rootBelow8 n) := by
  have : n = 0 ∨ n = 1 ∨ n = 2 ∨ n = 3 ∨ n = 4 ∨ n = 5 ∨ n = 6 ∨ n = 7 := by omega
  rcases this with rfl | rfl | rfl | rfl | rfl | rfl | rfl | rfl <;> exact ⟨by decide, by decide⟩
theorem root_halves : ∀ (l n : Nat), n < 2 ^ (l + 1) → IsRoot n (Float64.rootByHalves l n)
  | 0, n, h => below8 (by omega)
  | l + 1, n, h => by
    unfold Float64.rootByHalves
    by_cases h8 : n < 8
    · rw [if_pos h8]
      exact below8 h8
    · rw [if_neg h8]
      have h3 : 3 ≤ n.log2 := (Nat.le_log2 (by omega)).mpr (by omega)
      refine root_step (by omega) rfl (root_halves l _ ?_)
      have k1 : 1 ≤ (n.log2 + 1) / 4 := by omega
      generalize (n.log2 + 1) / 4 = k at k1
      have : 4 ≤ 4 ^ k := by
        have := Nat.pow_le_pow_right (n := 4) (by decide) k1
        omega
      refine Nat.lt_of_le_of_lt (Nat.div_le_div_left this (by decide)) ?_
      have e : 2 ^ (l + 1 + 1) = 2 ^ (l + 1) * 2 := Nat.pow_succ ..
      omega
theorem isqrt_root (n : Nat) : IsRoot n (Float64.isqrt n) := by
  by_cases h : n = 0
  · subst h
    exact ⟨by decide, by decide⟩
  · exact root_halves _ _ (Nat.lt_log2_self)
end DL

namespace DL
open PySem PySem.Spec PyProof.Rows L2
section
variable {X : Cx} {a b : Expr} {db da : RE} {dl : RL} {pos : Pos}
/-- [..] * k: a new list -/
def lRepL (dl : RL) (db : RE) : RL := fun ρ q => dl ρ fun xs => db ρ fun d => match d with | .int k => (-(2 ^ 62) ≤ k ∧ k < 2 ^ 62 ∧ Fit (xs.length * k.toNat)) ∧ q (List.replicate k.toNat xs).flatten | _ => False
theorem dl_rep (ha : DLs X a dl) (hb : DE X b db) : DLs X (.BinOp a .Mult b pos) (lRepL dl db) := by
  obtain ⟨ta, a1, a2⟩ := ha
  obtain ⟨tb, b1, b2⟩ := hb
  refine ⟨_, pe_op op_rep a1 b1, fun B F H ρ σ E q hq Q k => a2 B F H ρ σ E _ hq _ fun p vs ds F1 H1 g1 hp hf hh r1 z1 => b2 B F1 H1 ρ σ (E.grow g1) _ z1 _ fun u y F2 H2 g2 r2 z2 => ?_⟩
  cases r2 with
  | int j =>
    obtain ⟨⟨h1, h2, h3⟩, z⟩ := z2
    refine ⟨p, j, vs, rfl, rfl, g2.hh p _ hh, by omega, by omega, by rw [r1.length]; exact h3.le, fun p2 hp2 => ?_⟩
    exact k p2 _ _ F2 _ ((g1.trans g2).trans (Gr.newO g2.fh hp2)) ((g1.trans g2).hh.free hp2) (g2.fh.free hp2) upd_same ((r1.mono g2.ff).flatRep _) z
  | _ => exact z2.elim
/-- (..) * k, two times or more: a new tuple -/
def gRepT : G2 := fun x y q => match x, y with | .tuple xs, .int k => (xs ≠ [] ∧ 2 ≤ k ∧ k ≤ 1000 ∧ xs.length ≤ 1000) ∧ q (.tuple (List.replicate k.toNat xs).flatten) | _, _ => False
theorem o_repT : OpD X (binaryOp .Mult) gRepT := by
  refine ⟨_, op_repT, fun F H v u x y fh bx bY q hq Q k => ?_⟩
  unfold gRepT at hq
  split at hq
  · rename_i xs j
    obtain ⟨⟨h1, h2, h3, h4⟩, z⟩ := hq
    obtain ⟨p, vs, rfl, _, s1, d1⟩ := bx.tup fh
    refine ⟨p, j, vs, rfl, bY.int, s1, fun e => h1 ?_, h2, h3, by rw [d1.length]; exact h4, fun p2 hp2 => ?_⟩
    · subst e
      cases d1
      rfl
    · have g := Gr.new (o := .tup (List.replicate j.toNat vs).flatten) fh hp2
      exact k _ _ _ _ g (.tup (.inl (.inl upd_same)) ((d1.flatRep _).mono g.ff)) z
  · exact hq.elim
/-- sorted(ns), fewer than 64 whole numbers -/
def lSorted : List D → (List D → Prop) → Prop := fun xs q => ∃ ns : List Int, xs = [.list (ns.map .int)] ∧ ns.length < 64 ∧ ∀ ns' : List Int, ns'.Perm ns → ns'.Pairwise (· ≤ ·) → q (ns'.map .int)
theorem c_sorted : CallL X (.builtin "sorted") lSorted := by
  refine ⟨_, cr_sorted, fun F H vs xs fh bx q hq Q k => ?_⟩
  obtain ⟨ns, rfl, h64, hq⟩ := hq
  obtain ⟨v, rfl, b⟩ := bx.one
  obtain ⟨p, rfl, h1⟩ := lst_ints fh b
  exact ⟨p, ns, rfl, h1, h64, fun ns' p2 e1 e2 hp2 => k p2 _ _ F _ (Gr.newO fh hp2) hp2 (fh.free hp2) upd_same (DpAll.ints ns') (hq ns' e1 e2)⟩
end
end DL
namespace DL
open PySem PySem.Spec PyProof.Rows L2
/-- a promise that can't be asked -/
theorem FnG.no {P : Program} {w : World} {K : Frag} {mg : Str → Option Value} {base : Heap} {k : Nat} {f : Addr} {fd : FuncData} {ps : List Str} {n : Nat} {g : FD} (h : ∀ ds q, g ds q → False) : FnG P w K mg base k f fd ps (SpD K n g) :=
  ⟨fun _ _ _ _ ⟨_, ds, q, _, _, _, z, _⟩ => (h ds q z).elim, fun _ _ _ _ _ _ _ _ _ _ _ _ _ _ ⟨_, ds, q, _, _, _, z, _⟩ => (h ds q z).elim⟩
end DL

namespace DL
open PySem PySem.Spec PyProof.Rows L2 Builtin.Int
/-! ### a statement that changes one or two names, and what comes behind it -/
theorem sj_i {t u : RS} {DD : DEnds} {ρ : Rho} (i : Nat) (P : D → Prop) (hk : ∀ d, P d → u DD (ρ.set i (some (.val d))))
    (h : ∀ k : Rho → Prop, (∀ d, P d → k (ρ.set i (some (.val d)))) → t { DD with nx := k } ρ) : sSeq t u DD ρ := by
  rw [sSeq_c]
  exact h _ hk
theorem sj_i2 {t u : RS} {DD : DEnds} {ρ : Rho} (i j : Nat) (P : D → D → Prop) (hk : ∀ d e, P d e → u DD ((ρ.set i (some (.val d))).set j (some (.val e))))
    (h : ∀ k : Rho → Prop, (∀ d e, P d e → k ((ρ.set i (some (.val d))).set j (some (.val e)))) → t { DD with nx := k } ρ) : sSeq t u DD ρ := by
  rw [sSeq_c]
  exact h _ hk
theorem sj_iO {t u : RS} {DD : DEnds} {ρ : Rho} (i : Nat) (P : List D → Prop) (hk : ∀ d, P d → u DD (ρ.set i (some (.own d))))
    (h : ∀ k : Rho → Prop, (∀ d, P d → k (ρ.set i (some (.own d)))) → t { DD with nx := k } ρ) : sSeq t u DD ρ := by
  rw [sSeq_c]
  exact h _ hk
/-- what comes behind, by a fact of the names' values -/
theorem sj_r {t u : RS} {DD : DEnds} {ρ : Rho} (R : Rho → Prop) (hk : ∀ ρ', R ρ' → u DD ρ')
    (h : ∀ k : Rho → Prop, (∀ ρ', R ρ' → k ρ') → t { DD with nx := k } ρ) : sSeq t u DD ρ := by
  rw [sSeq_c]
  exact h _ hk
end DL

namespace K04
open PySem PySem.Spec PyProof.Rows L2 DL Builtin.Int
def topS (i : Nat) : Stmt := PySem.Challenge.pw_leastnest_k04_boxes_hold.main.body.getD i (.Pass ⟨0, 0, 0, 0⟩)
local macro_rules | `(tactic| walk_at "rd") => `(tactic| simp -failIfUnchanged only [sSet, sSetL, sRet, sRetL, sRetO, sRetN, sNext, sBreak, sCont, sDrop, sApp, sAug, sAsg, sPar, sSetI, sPop, sRev, sFrz, frz1, iSeq, iRevD, iRange1, iRange2, iRangeD, rName, rTup, rCons, rNil,
  dLst, dView, tView, lView, view, look, dVar, bVar, dC, d2, d1, l2, tBool, dNil, dCons, dTup, gI, gSubI, gMulI, gFdiv, gMod, gPow, gShl, gShr, gAnd, gXor, gLt, gLe, gGt, gGe, gAdd, gEq, gNe, isNone, gIs, gIsNot, gNeg, lCat, gLen, gInt, gAbs, gMax2, gMin2, gTuple, lList, gGcd, gIsqrt, dCall, lCall, dIsi, dIsi2,
  tAndD, tOrD, tNotD, tTru, truD, dAndV, dOrV, dNotV, dIf, dBits, oNone, oSome, dSl, lSl, dFn, lFn, valD, tYesD, eqOk_ii, eqOk_bb, eqOk_ss, eqv_int, eqv_str, eqv_bool, noLst, noLstAll, List.map_cons, List.map_nil, Option.map_some, Option.map_none,
  List.getElem?_cons_zero, List.getElem?_cons_succ, List.set_cons_zero, List.set_cons_succ, true_and, and_true, decide_eq_true_eq, decide_eq_false_iff_not, Bool.not_eq_true', Bool.not_eq_false', beq_iff_eq, beq_eq_false_iff_ne, Bool.true_eq_false, Bool.false_eq_true, false_imp_iff, true_imp_iff, forall_const, reduceCtorEq, ne_eq, not_true_eq_false, not_false_eq_true, Bool.not_true, Bool.not_false, Bool.true_and, Bool.and_true, Bool.false_and, Bool.and_false, Int.reduceToNat, Int.cast_ofNat_Int, eq_self, isTy_none_int, isTy_none_bool, isTy_none_str, isTy_none_list, isTy_none_tuple, isTy_bool_int, isTy_bool_bool, isTy_bool_str, isTy_bool_list, isTy_bool_tuple, isTy_int_int, isTy_int_bool, isTy_int_str, isTy_int_list, isTy_int_tuple, isTy_str_int, isTy_str_bool, isTy_str_str, isTy_str_list, isTy_str_tuple, isTy_list_int, isTy_list_bool, isTy_list_str, isTy_list_list, isTy_list_tuple, isTy_tuple_int, isTy_tuple_bool, isTy_tuple_str, isTy_tuple_list, isTy_tuple_tuple, List.length_cons, List.length_nil, Nat.reduceAdd, Nat.zero_add, ix2_0, ix2_1,
  gIx_l0, gIx_t0, gIx_l1, gIx_t1, gIx_l2, gIx_t2, gIx_l3, gIx_t3, gIx_l4, gIx_t4, gIx_l5, gIx_t5, gIx_l6, gIx_t6, gIx_l7, gIx_t7, gIx_l8, gIx_t8, gIx_l9, gIx_t9, gIx_l10, gIx_t10, gIx_l11, gIx_t11, gIx_l12, gIx_t12, gIx_l13, gIx_t13, gIx_l14, gIx_t14, gIx_l15, gIx_t15])
section
variable {P : Program} {w : World} {K : Frag} {mg : Str → Option Value} {base : Heap}
def wholeD : D → Bool
  | .int _ => true
  | _ => false
theorem toNat_lt {n : Int} {k : Nat} (h : intBits n ≤ k) : n.toNat < 2 ^ k := by
  have := intBits_le_iff.mp h
  omega
theorem bits_nat {n k : Nat} (h : n < 2 ^ k) : intBits (n : Int) ≤ k := intBits_le_iff.mpr (by simpa using h)
theorem fmod_pos {a b : Int} (h : 0 < b) : 0 ≤ a.fmod b ∧ a.fmod b < b := ⟨Int.fmod_nonneg_of_pos a h, Int.fmod_lt_of_pos a h⟩
theorem mul_r {a : Int} {b : Int} (h1 : -(2 ^ 64) < b) (h2 : b < 2 ^ 64) : MulOk a b := ⟨IntMulOk.of_right (intBits_le_64 h1 h2)⟩
theorem mul_l {a : Int} {b : Int} (h1 : -(2 ^ 64) < a) (h2 : a < 2 ^ 64) : MulOk a b := ⟨IntMulOk.of_left (intBits_le_64 h1 h2)⟩
theorem div_small {a b : Int} (h0 : 0 < b) (h1 : b < 2 ^ 30) : CDivZ a b := ⟨by omega, PyProof.noPylong_small (by omega)⟩
/-- drawn places: each below its size -/
def InR : List Int → List Int → Prop
  | [], [] => True
  | r :: rs, s :: ss => (0 ≤ r ∧ r < s) ∧ InR rs ss
  | _, _ => False
theorem InR.length : ∀ {rs ss : List Int}, InR rs ss → rs.length = ss.length
  | [], [], _ => rfl
  | r :: rs, s :: ss, h => by simp [InR.length h.2]
  | [], _ :: _, h => h.elim
  | _ :: _, [], h => h.elim
theorem InR.snoc : ∀ {rs ss : List Int} {r s : Int}, InR rs ss → 0 ≤ r → r < s → InR (rs ++ [r]) (ss ++ [s])
  | [], [], _, _, _, h1, h2 => ⟨⟨h1, h2⟩, trivial⟩
  | r :: rs, s :: ss, _, _, h, h1, h2 => ⟨h.1, InR.snoc h.2 h1 h2⟩
  | [], _ :: _, _, _, h, _, _ => h.elim
  | _ :: _, [], _, _, h, _, _ => h.elim
theorem InR.cons {rs ss : List Int} {s : Int} (h : InR rs (s :: ss)) : ∃ r rs', rs = r :: rs' ∧ (0 ≤ r ∧ r < s) ∧ InR rs' ss := by
  cases rs with
  | nil => exact h.elim
  | cons r rs => exact ⟨r, rs, rfl, h.1, h.2⟩
theorem InR.nil {rs : List Int} (h : InR rs []) : rs = [] := by
  cases rs with
  | nil => rfl
  | cons r rs => exact h.elim
theorem bits_lt {n : Int} {k : Nat} (h : -(2 ^ k) < n) (h' : n < 2 ^ k) : intBits n ≤ k := by
  refine intBits_le_iff.mpr ?_
  have e : (2 : Int) ^ k = ((2 ^ k : Nat) : Int) := by simp
  rw [e] at h h'
  omega
abbrev s__law_whole : Stmt := topS 16
theorem sc__law_whole : FnScope ["value"] ["value"] (defScope s__law_whole) := ⟨rfl, rfl, rfl, by decide +kernel, rfl, by decide +kernel, by decide +kernel⟩
def f__law_whole : FD := fun ds q => ∃ d, ds = [d] ∧ q (.val (.bool (wholeD d)))
theorem ok__law_whole {f fd} {k : Nat} (F : Fun K "_law_whole" "_law_whole" s__law_whole f fd) (hdg : base.NoDigits) (m_bool : mg "bool" = none) (m_int : mg "int" = none) (m_isinstance : mg "isinstance" = none) : FnG P w K mg base (k + 1) f fd ["value"] (SpD K 1 f__law_whole) := by
  refine fnD F sc__law_whole fun cdv A outer s H E gA hr => ?_
  have hu := hr.units
  have nd := sc__law_whole.nd
  refine ⟨_, (ss_one (st_ret (de_and (de_isi ty_int m_isinstance m_int (bv 0)) (de_one (de_not (de_isi ty_bool m_isinstance m_bool (bv 0))))))), ?_⟩
  clear F nd hu hr gA E H s outer A cdv hdg m_bool m_int m_isinstance
  intro ds q hl hg
  obtain ⟨d, rfl, hq⟩ := hg
  show sRet _ _ [some (.val d)]
  cases d <;> (walk_at "rd"; simpa [isTy, tyD, wholeD] using hq)
abbrev s__law_cell : Stmt := topS 17
theorem sc__law_cell : FnScope ["script", "k", "seed", "cell"] ["script", "k"] (defScope s__law_cell) := ⟨rfl, rfl, rfl, by decide +kernel, rfl, by decide +kernel, by decide +kernel⟩
def f__law_cell : FD := fun ds q => ∃ (ns : List Int) (k : Int), ds = [.list (ns.map .int), .int k] ∧ 0 ≤ k ∧ (∀ i ∈ ns, intBits i ≤ 1048576) ∧ ∀ v, intBits v ≤ 1048576 → q (.val (.int v))
theorem ok__law_cell {f fd} {k : Nat} (F : Fun K "_law_cell" "_law_cell" s__law_cell f fd) (hdg : base.NoDigits) (m_int : mg "int" = none) (m_len : mg "len" = none) : FnG P w K mg base (k + 1) f fd ["script", "k"] (SpD K 2 f__law_cell) := by
  refine fnD F sc__law_cell fun cdv A outer s H E gA hr => ?_
  have hu := hr.units
  have nd := sc__law_cell.nd
  refine ⟨_, (ss_cons (st_if (dt_cmp o_lt (bv 1) (DE.toB (de_B c_len m_len (ab_cons (bv 0) ab_nil)))) (ss_one (st_ret (de_T c_int m_int (ab_cons (DE.toB (de_ix x_ix (bv 0) (bv 1))) ab_nil)))) ss_nil)
    (ss_cons (st_set (i := 2) nd de_int)
    (ss_cons (st_for (i_seq (dv 0)) (tg_name (i := 3) nd) (ss_one (st_set (i := 2) nd (de_op o_mod (DE.toB (de_T c_int m_int (ab_cons (DE.toB (de_op o_add (DE.toB (de_op o_mul (bv 2) (DE.toB de_int))) (DE.toB (de_op o_mod (DE.toB (de_T c_int m_int (ab_cons (bv 3) ab_nil))) (DE.toB de_int))))) ab_nil))) (DE.toB de_int)))))
    (ss_one (st_ret (de_op o_mod (DE.toB (de_T c_int m_int (ab_cons (DE.toB (de_op o_mul (DE.toB (de_op o_mul (DE.toB (de_op o_add (bv 2) (DE.toB de_int))) (DE.toB (de_op o_add (bv 1) (DE.toB de_int))))) (DE.toB de_int))) ab_nil))) (DE.toB de_int))))))), ?_⟩
  clear F nd hu hr gA E H s outer A cdv hdg m_int m_len
  intro ds q hl hg
  obtain ⟨ns, k0, rfl, h0, hb, hq⟩ := hg
  show sSeq _ _ _ [some (.val (.list (ns.map .int))), some (.val (.int k0)), none, none]
  refine sq_i fun k hk => if_n fun T hT => ?_
  walk_at "rd"
  refine ⟨fun h => ?_, fun h => ?_⟩
  · subst hT
    walk_at "rd"
    have h' : k0 < ns.length := by simpa using h
    refine gIx_ints (fun n => n ∈ ns) h0 h' (fun n e => List.mem_of_getElem? e) fun n hn => ?_
    walk_at "rd"
    exact hq n (hb n hn)
  · subst hk
    refine sq_i fun k hk => ?_
    walk_at "rd"
    subst hk
    refine sq_i fun k hk => for_in fun W hW => ?_
    walk_at "rd"
    subst hW
    refine for_map (fun _ ρ => ∃ (s : Int) (y : Option DV), ρ = [some (.val (.list (ns.map .int))), some (.val (.int k0)), some (.val (.int s)), y] ∧ 0 ≤ s ∧ s < 1000003) ns ⟨17, none, rfl, by decide, by decide⟩ ?_ ?_
    · rintro _ ⟨s, y, rfl, h1, h2⟩
      subst hk
      walk_at "rd"
      refine ⟨mul_l (by omega) (by omega), mul_r (by decide) (by decide), by decide, hq _ ?_⟩
      have := fmod_pos (a := (s + 7) * (k0 + 3) * 69621) (b := 2147483647) (by decide)
      exact intBits_le_iff.mpr (Nat.lt_of_lt_of_le (m := 2 ^ 31) (by omega) (Nat.pow_le_pow_right (by decide) (by decide)))
    · rintro a r _ ⟨s, y, rfl, h1, h2⟩ k1 hk1
      walk_at "rd"
      refine ⟨mul_r (by decide) (by decide), by decide, by decide, hk1 _ ⟨_, _, rfl, ?_⟩⟩
      exact fmod_pos (by decide)
theorem len63 {n : Nat} (h : n ≤ 1000) : Fit (n + 1) := Fit.of (by omega)
abbrev s__law_digits : Stmt := topS 18
theorem sc__law_digits : FnScope ["cell", "sizes", "total", "size", "row", "seed", "k", "rest", "twice"] ["cell", "sizes"] (defScope s__law_digits) := ⟨rfl, rfl, rfl, by decide +kernel, rfl, by decide +kernel, by decide +kernel⟩
def f__law_digits : FD := fun ds q => ∃ (c : Int) (ss : List Int), ds = [.int c, .list (ss.map .int)] ∧ ss.length ≤ 100 ∧ (∀ s ∈ ss, 0 < s ∧ s < 2 ^ 30) ∧ ∀ rs : List Int, InR rs ss → q (.own (rs.map .int))
theorem ok__law_digits {f fd} {k : Nat} (F : Fun K "_law_digits" "_law_digits" s__law_digits f fd) (hdg : base.NoDigits) (m_int : mg "int" = none) (m_len : mg "len" = none) (m_range : mg "range" = none) : FnG P w K mg base (k + 1) f fd ["cell", "sizes"] (SpD K 2 f__law_digits) := by
  refine fnD F sc__law_digits fun cdv A outer s H E gA hr => ?_
  have hu := hr.units
  have nd := sc__law_digits.nd
  refine ⟨_, (ss_cons (st_set (i := 2) nd de_int)
    (ss_cons (st_for (i_seq (dv 1)) (tg_name (i := 3) nd) (ss_one (st_set (i := 2) nd (de_op o_mul (bv 2) (bv 3)))))
    (ss_cons (st_setL (i := 4) nd (dl_lst da_nil))
    (ss_cons (st_if (dt_cmp o_ge (DE.toB (de_T c_int m_int (ab_cons (bv 0) ab_nil))) (DE.toB (de_op o_pow (DE.toB de_int) (DE.toB de_int)))) (ss_cons (st_set (i := 7) nd (de_op o_mod (DE.toB (de_T c_int m_int (ab_cons (DE.toB (de_op o_sub (DE.toB (de_T c_int m_int (ab_cons (bv 0) ab_nil))) (DE.toB (de_op o_pow (DE.toB de_int) (DE.toB de_int))))) ab_nil))) (bv 2)))
    (ss_cons (st_for (i_seq (dv 1)) (tg_name (i := 3) nd) (ss_cons (st_app (i := 4) (de_op o_mod (DE.toB (de_T c_int m_int (ab_cons (bv 7) ab_nil))) (bv 3)))
    (ss_one (st_set (i := 7) nd (de_op o_fdiv (DE.toB (de_T c_int m_int (ab_cons (bv 7) ab_nil))) (bv 3))))))
    (ss_one (st_retO 4)))) ss_nil)
    (ss_cons (st_set (i := 5) nd (de_op o_mod (DE.toB (de_T c_int m_int (ab_cons (bv 0) ab_nil))) (DE.toB de_int)))
    (ss_cons (st_for (i_range1 (de_B c_len m_len (ab_cons (bv 1) ab_nil)) m_range) (tg_name (i := 6) nd) (ss_cons (st_set (i := 5) nd (de_op o_mod (DE.toB (de_T c_int m_int (ab_cons (DE.toB (de_op o_add (DE.toB (de_op o_add (DE.toB (de_op o_mul (bv 5) (DE.toB de_int))) (DE.toB (de_op o_mul (DE.toB de_int) (bv 6))))) (DE.toB de_int))) ab_nil))) (DE.toB de_int)))
    (ss_cons (st_set (i := 8) nd (de_op o_mod (DE.toB (de_T c_int m_int (ab_cons (DE.toB (de_op o_mul (bv 5) (DE.toB (de_op o_add (DE.toB (de_op o_fdiv (bv 5) (DE.toB de_int))) (DE.toB de_int))))) ab_nil))) (DE.toB de_int)))
    (ss_one (st_app (i := 4) (de_op o_mod (DE.toB (de_T c_int m_int (ab_cons (DE.toB (de_op o_fdiv (bv 8) (DE.toB de_int))) ab_nil))) (DE.toB (de_ix x_ix (bv 1) (bv 6)))))))))
    (ss_one (st_retO 4)))))))), ?_⟩
  clear F nd hu hr gA E H s outer A cdv hdg m_int m_len m_range
  intro ds q hl hg
  obtain ⟨c, ss, rfl, hlen, hs, hq⟩ := hg
  show sSeq _ _ _ [some (.val (.int c)), some (.val (.list (ss.map .int))), none, none, none, none, none, none, none]
  refine sq_i fun k hk => ?_
  walk_at "rd"
  subst hk
  refine sq_i fun k hk => for_in fun W hW => ?_
  walk_at "rd"
  subst hW
  refine for_map (fun r ρ => (∀ s ∈ r, 0 < s ∧ s < 2 ^ 30) ∧ ∃ (t : Int) (y : Option DV), ρ = [some (.val (.int c)), some (.val (.list (ss.map .int))), some (.val (.int t)), y, none, none, none, none, none] ∧ 0 < t) ss ⟨hs, 1, none, rfl, by decide⟩ ?_ ?_
  · rintro _ ⟨-, t, y, rfl, h1⟩
    subst hk
    refine sq_i fun k hk => ?_
    walk_at "rd"
    subst hk
    refine sq_i fun k hk => if_n fun T hT => ?_
    walk_at "rd"
    refine ⟨by decide, fun h => ?_, fun h => ?_⟩
    · subst hT
      refine sq_i fun k hk => ?_
      walk_at "rd"
      refine ⟨by decide, by omega, ?_⟩
      subst hk
      refine sq_i fun k hk => for_in fun W hW => ?_
      walk_at "rd"
      subst hW
      refine for_map (fun r ρ => ∃ (rs done : List Int) (z : Int) (y : Option DV), ρ = [some (.val (.int c)), some (.val (.list (ss.map .int))), some (.val (.int t)), y, some (.own (rs.map .int)), none, none, some (.val (.int z)), none] ∧ ss = done ++ r ∧ InR rs done) ss ⟨[], [], _, y, rfl, rfl, trivial⟩ ?_ ?_
      · rintro _ ⟨rs, done, z, y, rfl, e, hr⟩
        subst hk
        walk_at "rd"
        rw [List.append_nil] at e
        subst e
        exact hq rs hr
      · rintro a r _ ⟨rs, done, z, y, rfl, e, hr⟩ k1 hk1
        have ha := hs a (by rw [e]; simp)
        refine sq_i fun k2 hk2 => ?_
        walk_at "rd"
        have := hr.length
        have h3 : done.length + (r.length + 1) = ss.length := by rw [e]; simp
        refine ⟨by rw [List.length_map]; exact len63 (by omega), by omega, ?_⟩
        subst hk2
        walk_at "rd"
        refine ⟨div_small ha.1 ha.2, hk1 _ ⟨rs ++ [z.fmod a], done ++ [a], z.fdiv a, _, by simp only [List.map_append, List.map_cons, List.map_nil]; rfl, by rw [e]; simp, hr.snoc (fmod_pos ha.1).1 (fmod_pos ha.1).2⟩⟩
    · subst hk
      refine sq_i fun k hk => ?_
      walk_at "rd"
      refine ⟨by decide, ?_⟩
      subst hk
      refine sq_i fun k hk => for_in fun W hW => ?_
      walk_at "rd"
      refine ⟨Rng.of (by omega) (by simp; omega), ?_⟩
      subst hW
      simp only [List.length_map, Int.toNat_natCast]
      refine for_up (fun i ρ => ∃ (rs : List Int) (z : Int) (y y2 y3 : Option DV), ρ = [some (.val (.int c)), some (.val (.list (ss.map .int))), some (.val (.int t)), y, some (.own (rs.map .int)), some (.val (.int z)), y2, none, y3] ∧ InR rs (ss.take i) ∧ 0 ≤ z ∧ z < 2147483648) 0 ss.length ⟨[], _, _, none, none, rfl, by simp [InR], (fmod_pos (by decide)).1, Int.lt_trans (fmod_pos (by decide)).2 (by decide)⟩ ?_ ?_
      · rintro _ ⟨rs, z, y, y2, y3, rfl, hr, h3, h4⟩
        subst hk
        walk_at "rd"
        rw [List.take_length] at hr
        exact hq rs hr
      · rintro i _ hi ⟨rs, z, y, y2, y3, rfl, hr, h3, h4⟩ k1 hk1
        walk_at "rd"
        simp only [Int.zero_add]
        refine sq_i fun k2 hk2 => ?_
        walk_at "rd"
        refine ⟨mul_r (by decide) (by decide), mul_r (by omega) (by omega), by decide, ?_⟩
        have hz := fmod_pos (a := z * 48271 + 974711 * (i : Int) + 12345) (b := 2147483647) (by decide)
        generalize (z * 48271 + 974711 * (i : Int) + 12345).fmod 2147483647 = z' at hz ⊢
        subst hk2
        refine sq_i fun k2 hk2 => ?_
        walk_at "rd"
        have hd : z'.fdiv 65537 = z' / 65537 := Int.fdiv_eq_ediv_of_nonneg _ (by decide)
        refine ⟨div_small (by decide) (by decide), ?_⟩
        rw [hd]
        refine ⟨mul_r (by omega) (by omega), by decide, ?_⟩
        subst hk2
        walk_at "rd"
        have hs' := List.getElem?_eq_getElem hi
        have hm := hs _ (List.getElem_mem hi)
        have := hr.length
        rw [List.length_take] at this
        refine ⟨by rw [List.length_map]; exact len63 (by omega), div_small (by decide) (by decide), ?_⟩
        refine gIx_N (d := .int ss[i]) (by rw [List.getElem?_map, hs']; rfl) ?_
        walk_at "rd"
        refine ⟨by omega, hk1 _ ⟨rs ++ [_], z', _, _, _, by simp only [List.map_append, List.map_cons, List.map_nil]; rfl, ?_, hz.1, by omega⟩⟩
        rw [List.take_add_one, hs']
        exact hr.snoc (fmod_pos hm.1).1 (fmod_pos hm.1).2
  · rintro a r _ ⟨h0, t, y, rfl, h1⟩ k1 hk1
    have ha := h0 a List.mem_cons_self
    walk_at "rd"
    exact ⟨mul_r (by omega) (by omega), hk1 _ ⟨fun s hs => h0 s (List.mem_cons_of_mem _ hs), _, _, rfl, Int.mul_pos h1 ha.1⟩⟩
/-- the whole root, or None -/
def rootD (n : Int) : D := if n < 0 then .none else if (Float64.isqrt n.toNat : Int) * (Float64.isqrt n.toNat : Int) = n then .int (Float64.isqrt n.toNat : Nat) else .none
theorem root_le {n r : Nat} (h : IsRoot n r) : r ≤ n := by
  rcases Nat.eq_zero_or_pos r with z | z
  · omega
  · exact Nat.le_trans (Nat.le_mul_of_pos_right r z) h.1
abbrev s__law_isqrt : Stmt := topS 19
theorem sc__law_isqrt : FnScope ["number", "root"] ["number"] (defScope s__law_isqrt) := ⟨rfl, rfl, rfl, by decide +kernel, rfl, by decide +kernel, by decide +kernel⟩
def f__law_isqrt : FD := fun ds q => ∃ n : Int, ds = [.int n] ∧ 0 ≤ n ∧ intBits n ≤ 8000 ∧ q (.val (.int (Float64.isqrt n.toNat : Nat)))
theorem ok__law_isqrt {f fd} {k : Nat} (F : Fun K "_law_isqrt" "_law_isqrt" s__law_isqrt f fd) (hdg : base.NoDigits) : FnG P w K mg base (k + 1) f fd ["number"] (SpD K 1 f__law_isqrt) := by
  refine fnD F sc__law_isqrt fun cdv A outer s H E gA hr => ?_
  have hu := hr.units
  have nd := sc__law_isqrt.nd
  refine ⟨_, (ss_cons (st_if (dt_cmp o_lt (bv 0) (DE.toB de_int)) (ss_one (st_ret (dv 0))) ss_nil)
    (ss_cons (st_set (i := 1) nd (de_op o_shl (DE.toB de_int) (DE.toB (de_op o_fdiv (DE.toB (de_op o_add (DE.toB (de_bits (dv 0))) (DE.toB de_int))) (DE.toB de_int)))))
    (ss_cons (st_while (dt_cmp o_gt (DE.toB (de_op o_mul (bv 1) (bv 1))) (bv 0)) (ss_one (st_set (i := 1) nd (de_op o_fdiv (DE.toB (de_op o_add (bv 1) (DE.toB (de_op o_fdiv (bv 0) (bv 1))))) (DE.toB de_int)))))
    (ss_one (st_ret (dv 1)))))), ?_⟩
  clear F nd hu hr gA E H s outer A cdv hdg 
  intro ds q hl hg
  obtain ⟨n, rfl, h0, hn, hq⟩ := hg
  obtain ⟨N, rfl⟩ : ∃ N : Nat, n = (N : Int) := ⟨n.toNat, by omega⟩
  rw [Int.toNat_natCast] at hq
  show sSeq _ _ _ [some (.val (.int (N : Int))), none]
  refine sq_i fun k hk => if_n fun T hT => ?_
  walk_at "rd"
  refine ⟨fun h => ?_, fun h => ?_⟩
  · subst hT
    walk_at "rd"
    have : N = 0 ∨ N = 1 := by omega
    rcases this with rfl | rfl
    · exact hq
    · exact hq
  · subst hk
    refine sq_i fun k hk => ?_
    walk_at "rd"
    generalize hb : intBits (N : Int) = b at hn
    have hNb : N < 2 ^ b := by
      have := intBits_le_iff.mp (Nat.le_of_eq hb)
      simpa using this
    have hd : ((b : Int) + 1).fdiv 2 = (((b + 1) / 2 : Nat) : Int) := by rw [Int.fdiv_eq_ediv_of_nonneg _ (by decide)]; rfl
    refine ⟨div_small (by decide) (by decide), ?_⟩
    rw [hd]
    have h1 : intBits 1 = 1 := by decide
    refine ⟨⟨⟨by omega, by rw [h1]; omega⟩⟩, ?_⟩
    rw [Int.one_mul, Int.toNat_natCast]
    have hr0 : (2 : Int) ^ ((b + 1) / 2) = ((2 ^ ((b + 1) / 2) : Nat) : Int) := by simp
    rw [hr0]
    subst hk
    have up : N < (2 ^ ((b + 1) / 2) + 1) * (2 ^ ((b + 1) / 2) + 1) := by
      have e1 : 2 ^ b ≤ 2 ^ ((b + 1) / 2) * 2 ^ ((b + 1) / 2) := by
        rw [← Nat.pow_add]
        exact Nat.pow_le_pow_right (by decide) (by omega)
      have e2 : 2 ^ ((b + 1) / 2) * 2 ^ ((b + 1) / 2) ≤ (2 ^ ((b + 1) / 2) + 1) * (2 ^ ((b + 1) / 2) + 1) := Nat.mul_le_mul (by omega) (by omega)
      omega
    have small : 2 ^ ((b + 1) / 2) ≤ 2 ^ 8000 := Nat.pow_le_pow_right (by decide) (by omega)
    refine sq_i fun k hk => while_i (fun m ρ => ∃ r : Nat, ρ = [some (.val (.int (N : Int))), some (.val (.int r))] ∧ r = m ∧ 0 < r ∧ r ≤ 2 ^ 8000 ∧ N < (r + 1) * (r + 1)) _ ⟨_, rfl, rfl, Nat.two_pow_pos _, small, up⟩ ?_
    rintro _ _ ⟨r, rfl, rfl, hp, hs, hu⟩ k1 hk1
    walk_at "rd"
    have hrb : intBits (r : Int) ≤ 8001 := bits_nat (Nat.lt_of_le_of_lt hs (Nat.pow_lt_pow_right (by decide) (by decide)))
    have rr : (r : Int) * (r : Int) = ((r * r : Nat) : Int) := by simp
    rw [rr]
    refine ⟨MulOk.of_le hrb hrb (by decide), fun h => ?_, fun h => ?_⟩
    · have hf : (N : Int).fdiv (r : Int) = ((N / r : Nat) : Int) := by rw [Int.fdiv_eq_ediv_of_nonneg _ (by omega)]; rfl
      have hf2 : ((r : Int) + ((N / r : Nat) : Int)).fdiv 2 = (((r + N / r) / 2 : Nat) : Int) := by rw [Int.fdiv_eq_ediv_of_nonneg _ (by decide)]; rfl
      have hlt : N < r * r := by omega
      have hdec : N / r < r := (Nat.div_lt_iff_lt_mul hp).mpr hlt
      walk_at "rd"
      have hr1 : r < 2 ^ 8001 := Nat.lt_of_le_of_lt hs (Nat.pow_lt_pow_right (by decide) (by decide))
      have hlog : (r : Int).natAbs.log2 < 9000 := Nat.lt_trans (log2_lt_of (k := 8001) (by simpa using hr1) (by decide)) (by decide)
      refine ⟨⟨by omega, PyProof.noPylong_of_log2 hlog⟩, ?_⟩
      rw [hf]
      refine ⟨div_small (by decide) (by decide), ?_⟩
      rw [hf2]
      subst hk1
      refine ⟨_, ?_, _, rfl, rfl, ?_, by omega, newton_up hp⟩
      · omega
      · have h2r : 2 ≤ r := by
          apply Classical.byContradiction
          intro z
          have : r = 1 := by omega
          subst this
          omega
        exact Nat.div_pos (Nat.le_trans h2r (Nat.le_add_right _ _)) (by decide)
    · subst hk
      walk_at "rd"
      have : IsRoot N r := ⟨by omega, hu⟩
      rw [this.uniq (isqrt_root N)]
      exact hq

theorem max_if (i j : Int) : (if j > i then j else i) = max i j := by omega
def lo4 (a b c d : Int) : Int := min (min a b) (min c d)
def hi4 (a b c d : Int) : Int := max (max a b) (max c d)
theorem gMin1_4 {a b c d : Int} {q : D → Prop} (h : q (.int (lo4 a b c d))) : gMin1 [.list [.int a, .int b, .int c, .int d]] q := by
  refine ⟨[a, b, c, d], rfl, by simp, fun m hm hle => ?_⟩
  have : m = lo4 a b c d := by
    simp only [List.mem_cons, List.not_mem_nil, or_false, forall_eq_or_imp, forall_eq] at hm hle
    unfold lo4
    omega
  rw [this]
  exact h
theorem gMax1_4 {a b c d : Int} {q : D → Prop} (h : q (.int (hi4 a b c d))) : gMax1 [.list [.int a, .int b, .int c, .int d]] q := by
  refine ⟨[a, b, c, d], rfl, by simp, fun m hm hle => ?_⟩
  have : m = hi4 a b c d := by
    simp only [List.mem_cons, List.not_mem_nil, or_false, forall_eq_or_imp, forall_eq] at hm hle
    unfold hi4
    omega
  rw [this]
  exact h
theorem gMin1_2 {a b : Int} {q : D → Prop} (h : q (.int (min a b))) : gMin1 [.list [.int a, .int b]] q := by
  refine ⟨[a, b], rfl, by simp, fun m hm hle => ?_⟩
  have : m = min a b := by
    simp only [List.mem_cons, List.not_mem_nil, or_false, forall_eq_or_imp, forall_eq] at hm hle
    omega
  rw [this]
  exact h
theorem gMax1_2 {a b : Int} {q : D → Prop} (h : q (.int (max a b))) : gMax1 [.list [.int a, .int b]] q := by
  refine ⟨[a, b], rfl, by simp, fun m hm hle => ?_⟩
  have : m = max a b := by
    simp only [List.mem_cons, List.not_mem_nil, or_false, forall_eq_or_imp, forall_eq] at hm hle
    omega
  rw [this]
  exact h
theorem two_pow_pos' (p : Nat) : 0 < (2 : Int) ^ p := Int.pow_pos (by decide)
theorem bits_shl {x : Int} {m p : Nat} (h : intBits x ≤ m) : intBits (x * 2 ^ p) ≤ m + p + 1 := by
  refine Nat.le_trans (intBits_mul_le h (n := p + 1) ?_) (by omega)
  have e : (2 : Int) ^ p = ((2 ^ p : Nat) : Int) := by simp
  rw [e]
  exact bits_nat (Nat.pow_lt_pow_right (by decide) (by omega))
theorem bits_max {x y : Int} {m : Nat} (h : intBits x ≤ m) (h' : intBits y ≤ m) : intBits (max x y) ≤ m := by
  rcases Int.le_total x y with q | q
  · rw [Int.max_eq_right q]; exact h'
  · rw [Int.max_eq_left q]; exact h
theorem bits_min {x y : Int} {m : Nat} (h : intBits x ≤ m) (h' : intBits y ≤ m) : intBits (min x y) ≤ m := by
  rcases Int.le_total x y with q | q
  · rw [Int.min_eq_left q]; exact h
  · rw [Int.min_eq_right q]; exact h'
def ceilR (n : Nat) : Nat := if Float64.isqrt n * Float64.isqrt n = n then Float64.isqrt n else Float64.isqrt n + 1
def Pv (x : D) (t u : Int) : Prop := x = .tuple [.int t, .int u] ∨ x = .list [.int t, .int u]
abbrev s_floor_root : Stmt := topS 2
theorem sc_floor_root : FnScope ["number"] ["number"] (defScope s_floor_root) := ⟨rfl, rfl, rfl, by decide +kernel, rfl, by decide +kernel, by decide +kernel⟩
def f_floor_root : FD := fun ds q => ∃ n : Int, ds = [.int n] ∧ 0 ≤ n ∧ intBits n ≤ 12000 ∧ q (.val (.int (Float64.isqrt n.toNat : Nat)))
theorem ok_floor_root {f fd} {k : Nat} (F : Fun K "floor_root" "floor_root" s_floor_root f fd) (hdg : base.NoDigits) (m_isqrt : mg "isqrt" = some (.builtin "math.isqrt")) : FnG P w K mg base (k + 1) f fd ["number"] (SpD K 1 f_floor_root) := by
  refine fnD F sc_floor_root fun cdv A outer s H E gA hr => ?_
  have hu := hr.units
  have nd := sc_floor_root.nd
  refine ⟨_, (ss_one (st_ret (de_M c_isqrt m_isqrt (ab_cons (bv 0) ab_nil)))), ?_⟩
  clear F nd hu hr gA E H s outer A cdv hdg m_isqrt
  intro ds q hl hg
  obtain ⟨n, rfl, h0, hn, hq⟩ := hg
  show sRet _ _ [some (.val (.int n))]
  walk_at "rd"
  exact ⟨h0, Nat.lt_trans (log2_lt_of (toNat_lt hn) (by decide)) (by decide), hq⟩
abbrev s_ceil_root : Stmt := topS 3
theorem sc_ceil_root : FnScope ["number", "root"] ["number"] (defScope s_ceil_root) := ⟨rfl, rfl, rfl, by decide +kernel, rfl, by decide +kernel, by decide +kernel⟩
def f_ceil_root : FD := fun ds q => ∃ n : Int, ds = [.int n] ∧ 0 ≤ n ∧ intBits n ≤ 12000 ∧ q (.val (.int (ceilR n.toNat : Nat)))
theorem ok_ceil_root {f fd} {k : Nat} (F : Fun K "ceil_root" "ceil_root" s_ceil_root f fd) (hdg : base.NoDigits) (m_isqrt : mg "isqrt" = some (.builtin "math.isqrt")) : FnG P w K mg base (k + 1) f fd ["number"] (SpD K 1 f_ceil_root) := by
  refine fnD F sc_ceil_root fun cdv A outer s H E gA hr => ?_
  have hu := hr.units
  have nd := sc_ceil_root.nd
  refine ⟨_, (ss_cons (st_set (i := 1) nd (de_M c_isqrt m_isqrt (ab_cons (bv 0) ab_nil)))
    (ss_cons (st_if (dt_cmp (o_eq hu) (DE.toB (de_op o_mul (bv 1) (bv 1))) (bv 0)) (ss_one (st_ret (dv 1))) ss_nil)
    (ss_one (st_ret (de_op o_add (bv 1) (DE.toB de_int)))))), ?_⟩
  clear F nd hu hr gA E H s outer A cdv hdg m_isqrt
  intro ds q hl hg
  obtain ⟨n, rfl, h0, hn, hq⟩ := hg
  show sSeq _ _ _ [some (.val (.int n)), none]
  refine sq_i fun k hk => ?_
  walk_at "rd"
  refine ⟨h0, Nat.lt_trans (log2_lt_of (toNat_lt hn) (by decide)) (by decide), ?_⟩
  subst hk
  have hr := isqrt_root n.toNat
  have hb : intBits (Float64.isqrt n.toNat : Nat) ≤ 12000 := bits_nat (Nat.lt_of_le_of_lt (root_le hr) (toNat_lt hn))
  unfold ceilR at hq
  generalize Float64.isqrt n.toNat = r at hr hb hq ⊢
  have rr : (r : Int) * (r : Int) = ((r * r : Nat) : Int) := by simp
  refine sq_i fun k hk => if_n fun T hT => ?_
  walk_at "rd"
  rw [rr]
  refine ⟨MulOk.of_le hb hb (by decide), fun h => ?_, fun h => ?_⟩
  · subst hT
    walk_at "rd"
    have : r * r = n.toNat := by omega
    rw [if_pos this] at hq
    exact hq
  · subst hk
    walk_at "rd"
    have : ¬ r * r = n.toNat := by omega
    rw [if_neg this] at hq
    simpa using hq
abbrev s_add_intervals : Stmt := topS 5
theorem sc_add_intervals : FnScope ["one", "two"] ["one", "two"] (defScope s_add_intervals) := ⟨rfl, rfl, rfl, by decide +kernel, rfl, by decide +kernel, by decide +kernel⟩
def f_add_intervals : FD := fun ds q => ∃ (x y : D) (a b c d : Int), ds = [x, y] ∧ Pv x a b ∧ Pv y c d ∧ q (.val (.tuple [.int (a + c), .int (b + d)]))
theorem ok_add_intervals {f fd} {k : Nat} (F : Fun K "add_intervals" "add_intervals" s_add_intervals f fd) (hdg : base.NoDigits) : FnG P w K mg base (k + 1) f fd ["one", "two"] (SpD K 2 f_add_intervals) := by
  refine fnD F sc_add_intervals fun cdv A outer s H E gA hr => ?_
  have hu := hr.units
  have nd := sc_add_intervals.nd
  refine ⟨_, (ss_one (st_ret (de_tup (da_cons (de_op o_add (DE.toB (de_ix x_ix (bv 0) (DE.toB de_int))) (DE.toB (de_ix x_ix (bv 1) (DE.toB de_int)))) (da_cons (de_op o_add (DE.toB (de_ix x_ix (bv 0) (DE.toB de_int))) (DE.toB (de_ix x_ix (bv 1) (DE.toB de_int)))) da_nil))))), ?_⟩
  clear F nd hu hr gA E H s outer A cdv hdg 
  intro ds q hl hg
  obtain ⟨x, y, a, b, c, d, rfl, hx, hy, hq⟩ := hg
  show sRet _ _ [some (.val x), some (.val y)]
  rcases hx with rfl | rfl <;> rcases hy with rfl | rfl <;> (walk_at "rd"; exact hq)
abbrev s_negate_interval : Stmt := topS 6
theorem sc_negate_interval : FnScope ["one"] ["one"] (defScope s_negate_interval) := ⟨rfl, rfl, rfl, by decide +kernel, rfl, by decide +kernel, by decide +kernel⟩
def f_negate_interval : FD := fun ds q => ∃ (x : D) (a b : Int), ds = [x] ∧ Pv x a b ∧ q (.val (.tuple [.int (-b), .int (-a)]))
theorem ok_negate_interval {f fd} {k : Nat} (F : Fun K "negate_interval" "negate_interval" s_negate_interval f fd) (hdg : base.NoDigits) : FnG P w K mg base (k + 1) f fd ["one"] (SpD K 1 f_negate_interval) := by
  refine fnD F sc_negate_interval fun cdv A outer s H E gA hr => ?_
  have hu := hr.units
  have nd := sc_negate_interval.nd
  refine ⟨_, (ss_one (st_ret (de_tup (da_cons (de_un u_neg (DE.toB (de_ix x_ix (bv 0) (DE.toB de_int)))) (da_cons (de_un u_neg (DE.toB (de_ix x_ix (bv 0) (DE.toB de_int)))) da_nil))))), ?_⟩
  clear F nd hu hr gA E H s outer A cdv hdg 
  intro ds q hl hg
  obtain ⟨x, a, b, rfl, hx, hq⟩ := hg
  show sRet _ _ [some (.val x)]
  rcases hx with rfl | rfl <;> (walk_at "rd"; exact hq)
abbrev s_multiply_intervals : Stmt := topS 7
theorem sc_multiply_intervals : FnScope ["one", "two", "places", "products"] ["one", "two", "places"] (defScope s_multiply_intervals) := ⟨rfl, rfl, rfl, by decide +kernel, rfl, by decide +kernel, by decide +kernel⟩
def f_multiply_intervals : FD := fun ds q => ∃ (x y : D) (a b c d p : Int), ds = [x, y, .int p] ∧ Pv x a b ∧ Pv y c d ∧ 0 ≤ p ∧ intBits a ≤ 20000 ∧ intBits b ≤ 20000 ∧ intBits c ≤ 20000 ∧ intBits d ≤ 20000 ∧
  q (.val (.tuple [.int (lo4 (a * c) (a * d) (b * c) (b * d) / 2 ^ p.toNat), .int (-(-(hi4 (a * c) (a * d) (b * c) (b * d)) / 2 ^ p.toNat))]))
theorem ok_multiply_intervals {f fd} {k : Nat} (F : Fun K "multiply_intervals" "multiply_intervals" s_multiply_intervals f fd) (hdg : base.NoDigits) (m_max : mg "max" = none) (m_min : mg "min" = none) : FnG P w K mg base (k + 1) f fd ["one", "two", "places"] (SpD K 3 f_multiply_intervals) := by
  refine fnD F sc_multiply_intervals fun cdv A outer s H E gA hr => ?_
  have hu := hr.units
  have nd := sc_multiply_intervals.nd
  refine ⟨_, (ss_cons (st_set (i := 3) nd (DLs.toE (dl_lst (da_cons (de_op o_mul (DE.toB (de_ix x_ix (bv 0) (DE.toB de_int))) (DE.toB (de_ix x_ix (bv 1) (DE.toB de_int)))) (da_cons (de_op o_mul (DE.toB (de_ix x_ix (bv 0) (DE.toB de_int))) (DE.toB (de_ix x_ix (bv 1) (DE.toB de_int)))) (da_cons (de_op o_mul (DE.toB (de_ix x_ix (bv 0) (DE.toB de_int))) (DE.toB (de_ix x_ix (bv 1) (DE.toB de_int)))) (da_cons (de_op o_mul (DE.toB (de_ix x_ix (bv 0) (DE.toB de_int))) (DE.toB (de_ix x_ix (bv 1) (DE.toB de_int)))) da_nil)))))))
    (ss_one (st_ret (de_tup (da_cons (de_op o_shr (DE.toB (de_B c_min1 m_min (ab_cons (bv 3) ab_nil))) (bv 2)) (da_cons (de_un u_neg (DE.toB (de_op o_shr (DE.toB (de_un u_neg (DE.toB (de_B c_max1 m_max (ab_cons (bv 3) ab_nil))))) (bv 2)))) da_nil)))))), ?_⟩
  clear F nd hu hr gA E H s outer A cdv hdg m_max m_min
  intro ds q hl hg
  obtain ⟨x, y, a, b, c, d, p, rfl, hx, hy, hp, ba, bb, bc, bd, hq⟩ := hg
  have mk : ∀ x y : Int, intBits x ≤ 20000 → intBits y ≤ 20000 → MulOk x y := fun x y h h' => MulOk.of_le h h' (by decide)
  show sSeq _ _ _ [some (.val x), some (.val y), some (.val (.int p)), none]
  refine sq_i fun k hk => ?_
  have fin : k [some (.val x), some (.val y), some (.val (.int p)), some (.val (.list [.int (a * c), .int (a * d), .int (b * c), .int (b * d)]))] := by
    subst hk
    walk_at "rd"
    refine gMin1_4 ?_
    walk_at "rd"
    refine ⟨hp, gMax1_4 ?_⟩
    walk_at "rd"
    exact ⟨hp, hq⟩
  rcases hx with rfl | rfl <;> rcases hy with rfl | rfl <;> (walk_at "rd"; exact ⟨mk _ _ ba bc, mk _ _ ba bd, mk _ _ bb bc, mk _ _ bb bd, fin⟩)
abbrev s_scale_interval : Stmt := topS 8
theorem sc_scale_interval : FnScope ["one", "top", "bottom", "ends"] ["one", "top", "bottom"] (defScope s_scale_interval) := ⟨rfl, rfl, rfl, by decide +kernel, rfl, by decide +kernel, by decide +kernel⟩
def f_scale_interval : FD := fun ds q => ∃ (x : D) (a b t u : Int), ds = [x, .int t, .int u] ∧ Pv x a b ∧ 0 < u ∧ u < 2 ^ 64 ∧ intBits a ≤ 20000 ∧ intBits b ≤ 20000 ∧ intBits t ≤ 20000 ∧ q (.val (.tuple [.int ((min (a * t) (b * t)).fdiv u), .int (-((-(max (a * t) (b * t))).fdiv u))]))
theorem ok_scale_interval {f fd} {k : Nat} (F : Fun K "scale_interval" "scale_interval" s_scale_interval f fd) (hdg : base.NoDigits) (m_max : mg "max" = none) (m_min : mg "min" = none) : FnG P w K mg base (k + 1) f fd ["one", "top", "bottom"] (SpD K 3 f_scale_interval) := by
  refine fnD F sc_scale_interval fun cdv A outer s H E gA hr => ?_
  have hu := hr.units
  have nd := sc_scale_interval.nd
  refine ⟨_, (ss_cons (st_set (i := 3) nd (DLs.toE (dl_lst (da_cons (de_op o_mul (DE.toB (de_ix x_ix (bv 0) (DE.toB de_int))) (bv 1)) (da_cons (de_op o_mul (DE.toB (de_ix x_ix (bv 0) (DE.toB de_int))) (bv 1)) da_nil)))))
    (ss_one (st_ret (de_tup (da_cons (de_op o_fdiv (DE.toB (de_B c_min1 m_min (ab_cons (bv 3) ab_nil))) (bv 2)) (da_cons (de_un u_neg (DE.toB (de_op o_fdiv (DE.toB (de_un u_neg (DE.toB (de_B c_max1 m_max (ab_cons (bv 3) ab_nil))))) (bv 2)))) da_nil)))))), ?_⟩
  clear F nd hu hr gA E H s outer A cdv hdg m_max m_min
  intro ds q hl hg
  obtain ⟨x, a, b, t, u, rfl, hx, hu, hu2, ba, bb, bt, hq⟩ := hg
  have mk : ∀ x y : Int, intBits x ≤ 20000 → intBits y ≤ 20000 → MulOk x y := fun x y h h' => MulOk.of_le h h' (by decide)
  have dv : ∀ x : Int, CDivZ x u := fun x => ⟨by omega, PyProof.noPylong_of_log2 (Nat.lt_trans (log2_lt_of (k := 64) (by omega) (by decide)) (by decide))⟩
  show sSeq _ _ _ [some (.val x), some (.val (.int t)), some (.val (.int u)), none]
  refine sq_i fun k hk => ?_
  have fin : k [some (.val x), some (.val (.int t)), some (.val (.int u)), some (.val (.list [.int (a * t), .int (b * t)]))] := by
    subst hk
    walk_at "rd"
    refine gMin1_2 ?_
    walk_at "rd"
    refine ⟨dv _, gMax1_2 ?_⟩
    walk_at "rd"
    exact ⟨dv _, hq⟩
  rcases hx with rfl | rfl <;> (walk_at "rd"; exact ⟨mk _ _ ba bt, mk _ _ bb bt, fin⟩)
abbrev s_root_interval : Stmt := topS 9
theorem sc_root_interval : FnScope ["one", "places", "low", "high"] ["one", "places"] (defScope s_root_interval) := ⟨rfl, rfl, rfl, by decide +kernel, rfl, by decide +kernel, by decide +kernel⟩
def f_root_interval : FD := fun ds q => ∃ (x : D) (a b p : Int), ds = [x, .int p] ∧ Pv x a b ∧ 0 ≤ p ∧ p ≤ 6000 ∧ intBits a ≤ 5000 ∧ intBits b ≤ 5000 ∧ q (.val (.tuple [.int (Float64.isqrt (max a 0 * 2 ^ p.toNat).toNat : Nat), .int (ceilR (max b 0 * 2 ^ p.toNat).toNat : Nat)]))
theorem ok_root_interval {f fd} {k : Nat} (F : Fun K "root_interval" "root_interval" s_root_interval f fd) (hdg : base.NoDigits) (m_max : mg "max" = none) (r_ceil_root : Ready P w K mg base "ceil_root" 1 k f_ceil_root) (r_floor_root : Ready P w K mg base "floor_root" 1 k f_floor_root) : FnG P w K mg base (k + 1) f fd ["one", "places"] (SpD K 2 f_root_interval) := by
  refine fnD F sc_root_interval fun cdv A outer s H E gA hr => ?_
  have hu := hr.units
  have nd := sc_root_interval.nd
  refine ⟨_, (ss_cons (st_set (i := 2) nd (de_B c_max2 m_max (ab_cons (DE.toB (de_ix x_ix (bv 0) (DE.toB de_int))) (ab_cons (DE.toB de_int) ab_nil))))
    (ss_cons (st_set (i := 3) nd (de_B c_max2 m_max (ab_cons (DE.toB (de_ix x_ix (bv 0) (DE.toB de_int))) (ab_cons (DE.toB de_int) ab_nil))))
    (ss_one (st_ret (de_tup (da_cons (r_floor_root.toE gA hr (da_cons (de_op o_shl (bv 2) (bv 1)) da_nil)) (da_cons (r_ceil_root.toE gA hr (da_cons (de_op o_shl (bv 3) (bv 1)) da_nil)) da_nil))))))), ?_⟩
  clear F nd hu hr gA E H s outer A cdv hdg m_max r_ceil_root r_floor_root
  intro ds q hl hg
  obtain ⟨x, a, b, p, rfl, hx, hp, hp2, ba, bb, hq⟩ := hg
  have b0 : intBits 0 ≤ 5000 := by decide
  have nn : ∀ y : Int, 0 ≤ max y 0 * 2 ^ p.toNat := fun y => Int.mul_nonneg (by omega) (Int.le_of_lt (two_pow_pos' _))
  have sh : ∀ y : Int, intBits y ≤ 5000 → ShlOk (max y 0) p := fun y h => ⟨hp, by have := bits_max h b0; omega⟩
  have sb : ∀ y : Int, intBits y ≤ 5000 → intBits (max y 0 * 2 ^ p.toNat) ≤ 12000 := fun y h => Nat.le_trans (bits_shl (bits_max h b0)) (by omega)
  show sSeq _ _ _ [some (.val x), some (.val (.int p)), none, none]
  refine sq_i fun k hk => ?_
  have fin : k [some (.val x), some (.val (.int p)), some (.val (.int (max a 0))), none] := by
    subst hk
    refine sq_i fun k hk => ?_
    have fin : k [some (.val x), some (.val (.int p)), some (.val (.int (max a 0))), some (.val (.int (max b 0)))] := by
      subst hk
      walk_at "rd"
      refine ⟨sh a ba, _, rfl, nn a, sb a ba, ?_⟩
      walk_at "rd"
      exact ⟨sh b bb, _, rfl, nn b, sb b bb, hq⟩
    rcases hx with rfl | rfl <;> (walk_at "rd"; rw [max_if]; exact fin)
  rcases hx with rfl | rfl <;> (walk_at "rd"; rw [max_if]; exact fin)

/-- a box: two intervals, lists or tuples -/
def Bx (X : D) (a b c d : Int) : Prop := ∃ P Q : D, (X = .tuple [P, Q] ∨ X = .list [P, Q]) ∧ Pv P a b ∧ Pv Q c d
abbrev bxD (a b c d : Int) : D := .tuple [.tuple [.int a, .int b], .tuple [.int c, .int d]]
def mulLo (a b c d : Int) (n : Nat) : Int := lo4 (a * c) (a * d) (b * c) (b * d) / 2 ^ n
def mulHi (a b c d : Int) (n : Nat) : Int := -(-(hi4 (a * c) (a * d) (b * c) (b * d)) / 2 ^ n)
abbrev s_add_boxes : Stmt := topS 10
theorem sc_add_boxes : FnScope ["one", "two"] ["one", "two"] (defScope s_add_boxes) := ⟨rfl, rfl, rfl, by decide +kernel, rfl, by decide +kernel, by decide +kernel⟩
def f_add_boxes : FD := fun ds q => ∃ (X Y : D) (a b c d e f g h : Int), ds = [X, Y] ∧ Bx X a b c d ∧ Bx Y e f g h ∧ q (.val (bxD (a + e) (b + f) (c + g) (d + h)))
theorem ok_add_boxes {f fd} {k : Nat} (F : Fun K "add_boxes" "add_boxes" s_add_boxes f fd) (hdg : base.NoDigits) (r_add_intervals : Ready P w K mg base "add_intervals" 2 k f_add_intervals) : FnG P w K mg base (k + 1) f fd ["one", "two"] (SpD K 2 f_add_boxes) := by
  refine fnD F sc_add_boxes fun cdv A outer s H E gA hr => ?_
  have hu := hr.units
  have nd := sc_add_boxes.nd
  refine ⟨_, (ss_one (st_ret (de_tup (da_cons (r_add_intervals.toE gA hr (da_cons (de_ix x_ix (bv 0) (DE.toB de_int)) (da_cons (de_ix x_ix (bv 1) (DE.toB de_int)) da_nil))) (da_cons (r_add_intervals.toE gA hr (da_cons (de_ix x_ix (bv 0) (DE.toB de_int)) (da_cons (de_ix x_ix (bv 1) (DE.toB de_int)) da_nil))) da_nil))))), ?_⟩
  clear F nd hu hr gA E H s outer A cdv hdg r_add_intervals
  intro ds q hl hg
  obtain ⟨X, Y, a, b, c, d, e, f, g, h, rfl, ⟨P, Q, hX, hP, hQ⟩, ⟨P', Q', hY, hP', hQ'⟩, hq⟩ := hg
  show sRet _ _ [some (.val X), some (.val Y)]
  rcases hX with rfl | rfl <;> rcases hY with rfl | rfl <;> (walk_at "rd"; refine ⟨_, _, a, b, e, f, rfl, hP, hP', ?_⟩; walk_at "rd"; refine ⟨_, _, c, d, g, h, rfl, hQ, hQ', ?_⟩; walk_at "rd"; exact hq)
abbrev s_negate_box : Stmt := topS 11
theorem sc_negate_box : FnScope ["one"] ["one"] (defScope s_negate_box) := ⟨rfl, rfl, rfl, by decide +kernel, rfl, by decide +kernel, by decide +kernel⟩
def f_negate_box : FD := fun ds q => ∃ (X : D) (a b c d : Int), ds = [X] ∧ Bx X a b c d ∧ q (.val (bxD (-b) (-a) (-d) (-c)))
theorem ok_negate_box {f fd} {k : Nat} (F : Fun K "negate_box" "negate_box" s_negate_box f fd) (hdg : base.NoDigits) (r_negate_interval : Ready P w K mg base "negate_interval" 1 k f_negate_interval) : FnG P w K mg base (k + 1) f fd ["one"] (SpD K 1 f_negate_box) := by
  refine fnD F sc_negate_box fun cdv A outer s H E gA hr => ?_
  have hu := hr.units
  have nd := sc_negate_box.nd
  refine ⟨_, (ss_one (st_ret (de_tup (da_cons (r_negate_interval.toE gA hr (da_cons (de_ix x_ix (bv 0) (DE.toB de_int)) da_nil)) (da_cons (r_negate_interval.toE gA hr (da_cons (de_ix x_ix (bv 0) (DE.toB de_int)) da_nil)) da_nil))))), ?_⟩
  clear F nd hu hr gA E H s outer A cdv hdg r_negate_interval
  intro ds q hl hg
  obtain ⟨X, a, b, c, d, rfl, ⟨P, Q, hX, hP, hQ⟩, hq⟩ := hg
  show sRet _ _ [some (.val X)]
  rcases hX with rfl | rfl <;> (walk_at "rd"; refine ⟨_, a, b, rfl, hP, ?_⟩; walk_at "rd"; refine ⟨_, c, d, rfl, hQ, ?_⟩; walk_at "rd"; exact hq)
abbrev s_multiply_boxes : Stmt := topS 12
theorem sc_multiply_boxes : FnScope ["one", "two", "places", "left", "right", "first", "second"] ["one", "two", "places"] (defScope s_multiply_boxes) := ⟨rfl, rfl, rfl, by decide +kernel, rfl, by decide +kernel, by decide +kernel⟩
def f_multiply_boxes : FD := fun ds q => ∃ (X Y : D) (a b c d e f g h p : Int), ds = [X, Y, .int p] ∧ Bx X a b c d ∧ Bx Y e f g h ∧ 0 ≤ p ∧ (∀ x ∈ [a, b, c, d, e, f, g, h], intBits x ≤ 20000) ∧
  q (.val (bxD (mulLo a b e f p.toNat + -(mulHi c d g h p.toNat)) (mulHi a b e f p.toNat + -(mulLo c d g h p.toNat)) (mulLo a b g h p.toNat + mulLo c d e f p.toNat) (mulHi a b g h p.toNat + mulHi c d e f p.toNat)))
theorem ok_multiply_boxes {f fd} {k : Nat} (F : Fun K "multiply_boxes" "multiply_boxes" s_multiply_boxes f fd) (hdg : base.NoDigits) (r_multiply_intervals : Ready P w K mg base "multiply_intervals" 3 k f_multiply_intervals) (r_add_intervals : Ready P w K mg base "add_intervals" 2 k f_add_intervals) (r_negate_interval : Ready P w K mg base "negate_interval" 1 k f_negate_interval) : FnG P w K mg base (k + 1) f fd ["one", "two", "places"] (SpD K 3 f_multiply_boxes) := by
  refine fnD F sc_multiply_boxes fun cdv A outer s H E gA hr => ?_
  have hu := hr.units
  have nd := sc_multiply_boxes.nd
  refine ⟨_, (ss_cons (st_set (i := 3) nd (r_multiply_intervals.toE gA hr (da_cons (de_ix x_ix (bv 0) (DE.toB de_int)) (da_cons (de_ix x_ix (bv 1) (DE.toB de_int)) (da_cons (dv 2) da_nil)))))
    (ss_cons (st_set (i := 4) nd (r_multiply_intervals.toE gA hr (da_cons (de_ix x_ix (bv 0) (DE.toB de_int)) (da_cons (de_ix x_ix (bv 1) (DE.toB de_int)) (da_cons (dv 2) da_nil)))))
    (ss_cons (st_set (i := 5) nd (r_multiply_intervals.toE gA hr (da_cons (de_ix x_ix (bv 0) (DE.toB de_int)) (da_cons (de_ix x_ix (bv 1) (DE.toB de_int)) (da_cons (dv 2) da_nil)))))
    (ss_cons (st_set (i := 6) nd (r_multiply_intervals.toE gA hr (da_cons (de_ix x_ix (bv 0) (DE.toB de_int)) (da_cons (de_ix x_ix (bv 1) (DE.toB de_int)) (da_cons (dv 2) da_nil)))))
    (ss_one (st_ret (de_tup (da_cons (r_add_intervals.toE gA hr (da_cons (dv 3) (da_cons (r_negate_interval.toE gA hr (da_cons (dv 4) da_nil)) da_nil))) (da_cons (r_add_intervals.toE gA hr (da_cons (dv 5) (da_cons (dv 6) da_nil))) da_nil))))))))), ?_⟩
  clear F nd hu hr gA E H s outer A cdv hdg r_multiply_intervals r_add_intervals r_negate_interval
  intro ds q hl hg
  obtain ⟨X, Y, a, b, c, d, e, f, g, h, p, rfl, ⟨P, Q, hX, hP, hQ⟩, ⟨P', Q', hY, hP', hQ'⟩, hp, hb, hq⟩ := hg
  simp only [List.mem_cons, List.not_mem_nil, or_false, forall_eq_or_imp, forall_eq] at hb
  obtain ⟨ba, bb, bc, bd, be, bf, bg, bh⟩ := hb
  show sSeq _ _ _ [some (.val X), some (.val Y), some (.val (.int p)), none, none, none, none]
  refine sq_i fun k hk => ?_
  have s1 : ∀ l, l = PyData.tuple [.int (mulLo a b e f p.toNat), .int (mulHi a b e f p.toNat)] → k [some (.val X), some (.val Y), some (.val (.int p)), some (.val l), none, none, none] := by
    rintro l rfl
    subst hk
    refine sq_i fun k hk => ?_
    have s2 : ∀ l2, l2 = PyData.tuple [.int (mulLo c d g h p.toNat), .int (mulHi c d g h p.toNat)] → k [some (.val X), some (.val Y), some (.val (.int p)), some (.val (.tuple [.int (mulLo a b e f p.toNat), .int (mulHi a b e f p.toNat)])), some (.val l2), none, none] := by
      rintro l2 rfl
      subst hk
      refine sq_i fun k hk => ?_
      have s3 : ∀ l3, l3 = PyData.tuple [.int (mulLo a b g h p.toNat), .int (mulHi a b g h p.toNat)] → k [some (.val X), some (.val Y), some (.val (.int p)), some (.val (.tuple [.int (mulLo a b e f p.toNat), .int (mulHi a b e f p.toNat)])), some (.val (.tuple [.int (mulLo c d g h p.toNat), .int (mulHi c d g h p.toNat)])), some (.val l3), none] := by
        rintro l3 rfl
        subst hk
        refine sq_i fun k hk => ?_
        have s4 : ∀ l4, l4 = PyData.tuple [.int (mulLo c d e f p.toNat), .int (mulHi c d e f p.toNat)] → k [some (.val X), some (.val Y), some (.val (.int p)), some (.val (.tuple [.int (mulLo a b e f p.toNat), .int (mulHi a b e f p.toNat)])), some (.val (.tuple [.int (mulLo c d g h p.toNat), .int (mulHi c d g h p.toNat)])), some (.val (.tuple [.int (mulLo a b g h p.toNat), .int (mulHi a b g h p.toNat)])), some (.val l4)] := by
          rintro l4 rfl
          subst hk
          walk_at "rd"
          refine ⟨_, _, _, rfl, .inl rfl, ?_⟩
          walk_at "rd"
          refine ⟨_, _, _, _, _, _, rfl, .inl rfl, .inl rfl, ?_⟩
          walk_at "rd"
          refine ⟨_, _, _, _, _, _, rfl, .inl rfl, .inl rfl, ?_⟩
          walk_at "rd"
          exact hq
        rcases hX with rfl | rfl <;> rcases hY with rfl | rfl <;> (walk_at "rd"; exact ⟨_, _, c, d, e, f, p, rfl, hQ, hP', hp, bc, bd, be, bf, s4 _ rfl⟩)
      rcases hX with rfl | rfl <;> rcases hY with rfl | rfl <;> (walk_at "rd"; exact ⟨_, _, a, b, g, h, p, rfl, hP, hQ', hp, ba, bb, bg, bh, s3 _ rfl⟩)
    rcases hX with rfl | rfl <;> rcases hY with rfl | rfl <;> (walk_at "rd"; exact ⟨_, _, c, d, g, h, p, rfl, hQ, hQ', hp, bc, bd, bg, bh, s2 _ rfl⟩)
  rcases hX with rfl | rfl <;> rcases hY with rfl | rfl <;> (walk_at "rd"; exact ⟨_, _, a, b, e, f, p, rfl, hP, hP', hp, ba, bb, be, bf, s1 _ rfl⟩)
abbrev s_scale_box : Stmt := topS 13
theorem sc_scale_box : FnScope ["one", "top", "bottom"] ["one", "top", "bottom"] (defScope s_scale_box) := ⟨rfl, rfl, rfl, by decide +kernel, rfl, by decide +kernel, by decide +kernel⟩
def f_scale_box : FD := fun ds q => ∃ (X : D) (a b c d t u : Int), ds = [X, .int t, .int u] ∧ Bx X a b c d ∧ 0 < u ∧ u < 2 ^ 64 ∧ (∀ x ∈ [a, b, c, d, t], intBits x ≤ 20000) ∧
  q (.val (bxD ((min (a * t) (b * t)).fdiv u) (-((-(max (a * t) (b * t))).fdiv u)) ((min (c * t) (d * t)).fdiv u) (-((-(max (c * t) (d * t))).fdiv u))))
theorem ok_scale_box {f fd} {k : Nat} (F : Fun K "scale_box" "scale_box" s_scale_box f fd) (hdg : base.NoDigits) (r_scale_interval : Ready P w K mg base "scale_interval" 3 k f_scale_interval) : FnG P w K mg base (k + 1) f fd ["one", "top", "bottom"] (SpD K 3 f_scale_box) := by
  refine fnD F sc_scale_box fun cdv A outer s H E gA hr => ?_
  have hu := hr.units
  have nd := sc_scale_box.nd
  refine ⟨_, (ss_one (st_ret (de_tup (da_cons (r_scale_interval.toE gA hr (da_cons (de_ix x_ix (bv 0) (DE.toB de_int)) (da_cons (dv 1) (da_cons (dv 2) da_nil)))) (da_cons (r_scale_interval.toE gA hr (da_cons (de_ix x_ix (bv 0) (DE.toB de_int)) (da_cons (dv 1) (da_cons (dv 2) da_nil)))) da_nil))))), ?_⟩
  clear F nd hu hr gA E H s outer A cdv hdg r_scale_interval
  intro ds q hl hg
  obtain ⟨X, a, b, c, d, t, u, rfl, ⟨P, Q, hX, hP, hQ⟩, hu, hu2, hb, hq⟩ := hg
  simp only [List.mem_cons, List.not_mem_nil, or_false, forall_eq_or_imp, forall_eq] at hb
  obtain ⟨ba, bb, bc, bd, bt⟩ := hb
  show sRet _ _ [some (.val X), some (.val (.int t)), some (.val (.int u))]
  rcases hX with rfl | rfl <;> (walk_at "rd"; refine ⟨_, a, b, t, u, rfl, hP, hu, hu2, ba, bb, bt, ?_⟩; walk_at "rd"; refine ⟨_, c, d, t, u, rfl, hQ, hu, hu2, bc, bd, bt, ?_⟩; walk_at "rd"; exact hq)
def rLo (x : Int) (n : Nat) : Int := (Float64.isqrt (max x 0 * 2 ^ n).toNat : Nat)
def rHi (x : Int) (n : Nat) : Int := (ceilR (max x 0 * 2 ^ n).toNat : Nat)
def hLo (x y : Int) : Int := (min (x * 1) (y * 1)).fdiv 2
def hHi (x y : Int) : Int := -((-(max (x * 1) (y * 1))).fdiv 2)
theorem mul_pow_bits {x : Int} {m : Nat} (h : intBits x ≤ m) (n : Nat) : intBits (max x 0 * 2 ^ n) ≤ m + n + 1 := bits_shl (bits_max h (by exact Nat.le_trans (by decide) (Nat.zero_le m)))
theorem rLo_bits {x : Int} {m n : Nat} (h : intBits x ≤ m) : intBits (rLo x n) ≤ m + n + 1 := bits_nat (Nat.lt_of_le_of_lt (root_le (isqrt_root _)) (toNat_lt (mul_pow_bits h n)))
theorem rHi_bits {x : Int} {m n : Nat} (h : intBits x ≤ m) : intBits (rHi x n) ≤ m + n + 2 := by
  have := Nat.lt_of_le_of_lt (root_le (isqrt_root (max x 0 * 2 ^ n).toNat)) (toNat_lt (mul_pow_bits h n))
  refine bits_nat ?_
  rw [Nat.pow_succ]
  have := Nat.two_pow_pos (m + n + 1)
  unfold ceilR
  split <;> omega
theorem mulLo_bits {a b c d : Int} {m n : Nat} (ha : intBits a ≤ m) (hb : intBits b ≤ m) (hc : intBits c ≤ m) (hd : intBits d ≤ m) : intBits (mulLo a b c d n) ≤ 2 * m := by
  have mm : ∀ {x y : Int}, intBits x ≤ m → intBits y ≤ m → intBits (x * y) ≤ 2 * m := fun h h' => Nat.le_trans (intBits_mul_le h h') (by omega)
  unfold mulLo
  rw [← Int.fdiv_eq_ediv_of_nonneg _ (Int.le_of_lt (two_pow_pos' n))]
  exact intBits_fdiv_le (bits_min (bits_min (mm ha hc) (mm ha hd)) (bits_min (mm hb hc) (mm hb hd)))
theorem mulHi_bits {a b c d : Int} {m n : Nat} (ha : intBits a ≤ m) (hb : intBits b ≤ m) (hc : intBits c ≤ m) (hd : intBits d ≤ m) : intBits (mulHi a b c d n) ≤ 2 * m := by
  have mm : ∀ {x y : Int}, intBits x ≤ m → intBits y ≤ m → intBits (x * y) ≤ 2 * m := fun h h' => Nat.le_trans (intBits_mul_le h h') (by omega)
  unfold mulHi
  rw [← Int.fdiv_eq_ediv_of_nonneg _ (Int.le_of_lt (two_pow_pos' n))]
  exact intBits_neg_le (intBits_fdiv_le (intBits_neg_le (bits_max (bits_max (mm ha hc) (mm ha hd)) (bits_max (mm hb hc) (mm hb hd)))))
theorem hLo_bits {x y : Int} {m : Nat} (h : intBits x ≤ m) (h' : intBits y ≤ m) : intBits (hLo x y) ≤ m := by
  unfold hLo
  rw [Int.mul_one, Int.mul_one]
  exact intBits_fdiv_le (bits_min h h')
theorem hHi_bits {x y : Int} {m : Nat} (h : intBits x ≤ m) (h' : intBits y ≤ m) : intBits (hHi x y) ≤ m := by
  unfold hHi
  rw [Int.mul_one, Int.mul_one]
  exact intBits_neg_le (intBits_fdiv_le (intBits_neg_le (bits_max h h')))
def sz0 (a b c d : Int) (n : Nat) : Int := rLo (mulLo a b a b n + mulLo c d c d n) n
def sz1 (a b c d : Int) (n : Nat) : Int := rHi (mulHi a b a b n + mulHi c d c d n) n
def rootBox (kind : Str) (a b c d : Int) (n : Nat) : D :=
  if kind = "plus" then bxD (rLo a n) (rHi b n) 0 0 else if kind = "minus" then bxD 0 0 (rLo (-b) n) (rHi (-a) n) else
  if kind = "lower" then bxD (rLo (hLo (sz0 a b c d n + a) (sz1 a b c d n + b)) n) (rHi (hHi (sz0 a b c d n + a) (sz1 a b c d n + b)) n) (-(rHi (hHi (sz0 a b c d n + -b) (sz1 a b c d n + -a)) n)) (-(rLo (hLo (sz0 a b c d n + -b) (sz1 a b c d n + -a)) n))
  else bxD (rLo (hLo (sz0 a b c d n + a) (sz1 a b c d n + b)) n) (rHi (hHi (sz0 a b c d n + a) (sz1 a b c d n + b)) n) (rLo (hLo (sz0 a b c d n + -b) (sz1 a b c d n + -a)) n) (rHi (hHi (sz0 a b c d n + -b) (sz1 a b c d n + -a)) n)
abbrev s_root_box : Stmt := topS 14
theorem sc_root_box : FnScope ["box", "kind", "places", "squares", "size", "real", "side"] ["box", "kind", "places"] (defScope s_root_box) := ⟨rfl, rfl, rfl, by decide +kernel, rfl, by decide +kernel, by decide +kernel⟩
def f_root_box : FD := fun ds q => ∃ (X : D) (kind : Str) (a b c d p : Int), ds = [X, .str kind, .int p] ∧ Bx X a b c d ∧ 0 ≤ p ∧ p ≤ 700 ∧ intBits a ≤ 900 ∧ intBits b ≤ 900 ∧ intBits c ≤ 900 ∧ intBits d ≤ 900 ∧ q (.val (rootBox kind a b c d p.toNat))
theorem ok_root_box {f fd} {k : Nat} (F : Fun K "root_box" "root_box" s_root_box f fd) (hdg : base.NoDigits) (r_root_interval : Ready P w K mg base "root_interval" 2 k f_root_interval) (r_negate_interval : Ready P w K mg base "negate_interval" 1 k f_negate_interval) (r_add_intervals : Ready P w K mg base "add_intervals" 2 k f_add_intervals) (r_multiply_intervals : Ready P w K mg base "multiply_intervals" 3 k f_multiply_intervals) (r_scale_interval : Ready P w K mg base "scale_interval" 3 k f_scale_interval) : FnG P w K mg base (k + 1) f fd ["box", "kind", "places"] (SpD K 3 f_root_box) := by
  refine fnD F sc_root_box fun cdv A outer s H E gA hr => ?_
  have hu := hr.units
  have nd := sc_root_box.nd
  refine ⟨_, (ss_cons (st_if (dt_cmp (o_eq hu) (bv 1) (DE.toB de_str)) (ss_one (st_ret (de_tup (da_cons (r_root_interval.toE gA hr (da_cons (de_ix x_ix (bv 0) (DE.toB de_int)) (da_cons (dv 2) da_nil))) (da_cons (de_tup (da_cons de_int (da_cons de_int da_nil))) da_nil))))) ss_nil)
    (ss_cons (st_if (dt_cmp (o_eq hu) (bv 1) (DE.toB de_str)) (ss_one (st_ret (de_tup (da_cons (de_tup (da_cons de_int (da_cons de_int da_nil))) (da_cons (r_root_interval.toE gA hr (da_cons (r_negate_interval.toE gA hr (da_cons (de_ix x_ix (bv 0) (DE.toB de_int)) da_nil)) (da_cons (dv 2) da_nil))) da_nil))))) ss_nil)
    (ss_cons (st_set (i := 3) nd (r_add_intervals.toE gA hr (da_cons (r_multiply_intervals.toE gA hr (da_cons (de_ix x_ix (bv 0) (DE.toB de_int)) (da_cons (de_ix x_ix (bv 0) (DE.toB de_int)) (da_cons (dv 2) da_nil)))) (da_cons (r_multiply_intervals.toE gA hr (da_cons (de_ix x_ix (bv 0) (DE.toB de_int)) (da_cons (de_ix x_ix (bv 0) (DE.toB de_int)) (da_cons (dv 2) da_nil)))) da_nil))))
    (ss_cons (st_set (i := 4) nd (r_root_interval.toE gA hr (da_cons (dv 3) (da_cons (dv 2) da_nil))))
    (ss_cons (st_set (i := 5) nd (r_root_interval.toE gA hr (da_cons (r_scale_interval.toE gA hr (da_cons (r_add_intervals.toE gA hr (da_cons (dv 4) (da_cons (de_ix x_ix (bv 0) (DE.toB de_int)) da_nil))) (da_cons de_int (da_cons de_int da_nil)))) (da_cons (dv 2) da_nil))))
    (ss_cons (st_set (i := 6) nd (r_root_interval.toE gA hr (da_cons (r_scale_interval.toE gA hr (da_cons (r_add_intervals.toE gA hr (da_cons (dv 4) (da_cons (r_negate_interval.toE gA hr (da_cons (de_ix x_ix (bv 0) (DE.toB de_int)) da_nil)) da_nil))) (da_cons de_int (da_cons de_int da_nil)))) (da_cons (dv 2) da_nil))))
    (ss_cons (st_if (dt_cmp (o_eq hu) (bv 1) (DE.toB de_str)) (ss_one (st_set (i := 6) nd (r_negate_interval.toE gA hr (da_cons (dv 6) da_nil)))) ss_nil)
    (ss_one (st_ret (de_tup (da_cons (dv 5) (da_cons (dv 6) da_nil)))))))))))), ?_⟩
  clear F nd hu hr gA E H s outer A cdv hdg r_root_interval r_negate_interval r_add_intervals r_multiply_intervals r_scale_interval
  intro ds q hl hg
  obtain ⟨X, kind, a, b, c, d, p, rfl, ⟨P, Q, hX, hP, hQ⟩, hp, hp7, ba, bb, bc, bd, hq⟩ := hg
  have up : ∀ {x : Int} {m n : Nat}, intBits x ≤ m → m ≤ n → intBits x ≤ n := fun h h' => Nat.le_trans h h'
  show sSeq _ _ _ [some (.val X), some (.val (.str kind)), some (.val (.int p)), none, none, none, none]
  refine sq_i fun k hk => if_n fun T hT => ?_
  walk_at "rd"
  refine ⟨fun h => ?_, fun h => ?_⟩
  · subst hT
    unfold rootBox at hq
    rw [if_pos h] at hq
    rcases hX with rfl | rfl <;> (walk_at "rd"; refine ⟨_, a, b, p, rfl, hP, hp, by omega, up ba (by decide), up bb (by decide), ?_⟩; walk_at "rd"; exact hq)
  · subst hk
    refine sq_i fun k hk => if_n fun T hT => ?_
    walk_at "rd"
    refine ⟨fun h2 => ?_, fun h2 => ?_⟩
    · subst hT
      unfold rootBox at hq
      rw [if_neg h, if_pos h2] at hq
      rcases hX with rfl | rfl <;> (walk_at "rd"; refine ⟨_, a, b, rfl, hP, ?_⟩; walk_at "rd"; refine ⟨_, -b, -a, p, rfl, .inl rfl, hp, by omega, up (intBits_neg_le bb) (by decide), up (intBits_neg_le ba) (by decide), ?_⟩; walk_at "rd"; exact hq)
    · subst hk
      obtain ⟨n, rfl⟩ : ∃ n : Nat, p = (n : Int) := ⟨p.toNat, by omega⟩
      rw [Int.toNat_natCast] at hq
      have hn : n ≤ 700 := by omega
      have q1 := mulLo_bits (n := n) ba bb ba bb
      have q2 := mulHi_bits (n := n) ba bb ba bb
      have q3 := mulLo_bits (n := n) bc bd bc bd
      have q4 := mulHi_bits (n := n) bc bd bc bd
      have b1 := intBits_add_le q1 q3
      have b2 := intBits_add_le q2 q4
      have b3 : intBits (sz0 a b c d n) ≤ 2600 := up (rLo_bits (n := n) b1) (by omega)
      have b4 : intBits (sz1 a b c d n) ≤ 2600 := up (rHi_bits (n := n) b2) (by omega)
      have a1 := intBits_add_le b3 ba
      have a2 := intBits_add_le b4 bb
      have a3 := intBits_add_le b3 (intBits_neg_le bb)
      have a4 := intBits_add_le b4 (intBits_neg_le ba)
      unfold rootBox at hq
      rw [if_neg h, if_neg h2] at hq
      generalize hS0 : sz0 a b c d n = S0 at hq b3 a1 a3
      generalize hS1 : sz1 a b c d n = S1 at hq b4 a2 a4
      have e1 := hLo_bits (up a1 (show _ ≤ 2601 by decide)) (up a2 (show _ ≤ 2601 by decide))
      have e2 := hHi_bits (up a1 (show _ ≤ 2601 by decide)) (up a2 (show _ ≤ 2601 by decide))
      have e3 := hLo_bits (up a3 (show _ ≤ 2601 by decide)) (up a4 (show _ ≤ 2601 by decide))
      have e4 := hHi_bits (up a3 (show _ ≤ 2601 by decide)) (up a4 (show _ ≤ 2601 by decide))
      refine sq_i fun k hk => ?_
      have t1 : k [some (.val X), some (.val (.str kind)), some (.val (.int (n : Int))), some (.val (.tuple [.int (mulLo a b a b n + mulLo c d c d n), .int (mulHi a b a b n + mulHi c d c d n)])), none, none, none] := by
        subst hk
        refine sq_i fun k hk => ?_
        walk_at "rd"
        refine ⟨_, _, _, _, rfl, .inl rfl, hp, by omega, up b1 (by decide), up b2 (by decide), ?_⟩
        rw [Int.toNat_natCast]
        have f0 : ((Float64.isqrt (max (mulLo a b a b n + mulLo c d c d n) 0 * 2 ^ n).toNat : Nat) : Int) = S0 := hS0
        have f1 : ((ceilR (max (mulHi a b a b n + mulHi c d c d n) 0 * 2 ^ n).toNat : Nat) : Int) = S1 := hS1
        rw [f0, f1]
        walk_at "rd"
        subst hk
        refine sq_i fun k hk => ?_
        have t2 : k [some (.val X), some (.val (.str kind)), some (.val (.int (n : Int))), some (.val (.tuple [.int (mulLo a b a b n + mulLo c d c d n), .int (mulHi a b a b n + mulHi c d c d n)])), some (.val (.tuple [.int S0, .int S1])), some (.val (.tuple [.int (rLo (hLo (S0 + a) (S1 + b)) n), .int (rHi (hHi (S0 + a) (S1 + b)) n)])), none] := by
          subst hk
          refine sq_i fun k hk => ?_
          have t3 : k [some (.val X), some (.val (.str kind)), some (.val (.int (n : Int))), some (.val (.tuple [.int (mulLo a b a b n + mulLo c d c d n), .int (mulHi a b a b n + mulHi c d c d n)])), some (.val (.tuple [.int S0, .int S1])), some (.val (.tuple [.int (rLo (hLo (S0 + a) (S1 + b)) n), .int (rHi (hHi (S0 + a) (S1 + b)) n)])), some (.val (.tuple [.int (rLo (hLo (S0 + -b) (S1 + -a)) n), .int (rHi (hHi (S0 + -b) (S1 + -a)) n)]))] := by
            subst hk
            refine sq_i fun k hk => if_n fun T hT => ?_
            walk_at "rd"
            refine ⟨fun h3 => ?_, fun h3 => ?_⟩
            · subst hT
              rw [if_pos h3] at hq
              walk_at "rd"
              refine ⟨_, _, _, rfl, .inl rfl, ?_⟩
              walk_at "rd"
              subst hk
              walk_at "rd"
              exact hq
            · subst hk
              rw [if_neg h3] at hq
              walk_at "rd"
              exact hq
          rcases hX with rfl | rfl <;> (walk_at "rd"; refine ⟨_, a, b, rfl, hP, ?_⟩; walk_at "rd"; refine ⟨_, _, S0, S1, -b, -a, rfl, .inl rfl, .inl rfl, ?_⟩; walk_at "rd"; refine ⟨_, S0 + -b, S1 + -a, 1, 2, rfl, .inl rfl, by decide, by decide, up a3 (by decide), up a4 (by decide), by decide, ?_⟩; walk_at "rd"; refine ⟨_, hLo (S0 + -b) (S1 + -a), hHi (S0 + -b) (S1 + -a), n, rfl, .inl rfl, hp, by omega, up e3 (by decide), up e4 (by decide), ?_⟩; rw [Int.toNat_natCast]; exact t3)
        rcases hX with rfl | rfl <;> (walk_at "rd"; refine ⟨_, _, S0, S1, a, b, rfl, .inl rfl, hP, ?_⟩; walk_at "rd"; refine ⟨_, S0 + a, S1 + b, 1, 2, rfl, .inl rfl, by decide, by decide, up a1 (by decide), up a2 (by decide), by decide, ?_⟩; walk_at "rd"; refine ⟨_, hLo (S0 + a) (S1 + b), hHi (S0 + a) (S1 + b), n, rfl, .inl rfl, hp, by omega, up e1 (by decide), up e2 (by decide), ?_⟩; rw [Int.toNat_natCast]; exact t2)
      rcases hX with rfl | rfl <;> (walk_at "rd"; refine ⟨_, _, a, b, a, b, _, rfl, hP, hP, hp, up ba (by decide), up bb (by decide), up ba (by decide), up bb (by decide), ?_⟩; walk_at "rd"; refine ⟨_, _, c, d, c, d, _, rfl, hQ, hQ, hp, up bc (by decide), up bd (by decide), up bc (by decide), up bd (by decide), ?_⟩; walk_at "rd"; refine ⟨_, _, _, _, _, _, rfl, .inl rfl, .inl rfl, ?_⟩; rw [Int.toNat_natCast]; exact t1)

/-! ### boxes: plain facts -/
/-- t / 2^m lies in the interval lo / 2^p .. hi / 2^p -/
def Hd (lo hi t : Int) (m p : Nat) : Prop := lo * 2 ^ m ≤ t * 2 ^ p ∧ t * 2 ^ p ≤ hi * 2 ^ m
theorem sq_le {x y : Int} (hy : 0 ≤ y) (h : x * x ≤ y * y) : x ≤ y := by
  refine Int.not_lt.mp fun c => ?_
  have h1 : y * y ≤ y * x := Int.mul_le_mul_of_nonneg_left (Int.le_of_lt c) hy
  have h2 : y * x < x * x := Int.mul_lt_mul_of_pos_right c (by omega)
  omega
theorem sqnn (x : Int) : 0 ≤ x * x := by
  rcases Int.le_total 0 x with h | h
  · exact Int.mul_nonneg h h
  · exact Int.mul_nonneg_of_nonpos_of_nonpos h h
theorem root_lo {R lo t M Q : Int} (h1 : R * R ≤ max lo 0 * Q) (h2 : lo * (M * M) ≤ t * t * Q) (ht : 0 ≤ t) (hM : 0 < M) (hQ : 0 < Q) : R * M ≤ t * Q := by
  have hMM : 0 < M * M := Int.mul_pos hM hM
  have e0 : max lo 0 * (M * M) ≤ t * t * Q := by
    rcases Int.le_total lo 0 with q | q
    · rw [Int.max_eq_right q, Int.zero_mul]
      exact Int.mul_nonneg (Int.mul_nonneg ht ht) (Int.le_of_lt hQ)
    · rw [Int.max_eq_left q]; exact h2
  have e1 := Int.mul_le_mul_of_nonneg_right h1 (Int.le_of_lt hMM)
  have e2 := Int.mul_le_mul_of_nonneg_right e0 (Int.le_of_lt hQ)
  refine sq_le (Int.mul_nonneg ht (Int.le_of_lt hQ)) ?_
  have a1 : R * M * (R * M) = R * R * (M * M) := by grind
  have a2 : t * Q * (t * Q) = t * t * Q * Q := by grind
  have a3 : max lo 0 * Q * (M * M) = max lo 0 * (M * M) * Q := by grind
  omega
theorem root_hi {S hi t M Q : Int} (h1 : max hi 0 * Q ≤ S * S) (h2 : t * t * Q ≤ hi * (M * M)) (hS : 0 ≤ S) (hM : 0 < M) (hQ : 0 < Q) : t * Q ≤ S * M := by
  have hMM : 0 < M * M := Int.mul_pos hM hM
  have e0 : hi * (M * M) ≤ max hi 0 * (M * M) := Int.mul_le_mul_of_nonneg_right (Int.le_max_left _ _) (Int.le_of_lt hMM)
  have e1 := Int.mul_le_mul_of_nonneg_right h1 (Int.le_of_lt hMM)
  have e2 := Int.mul_le_mul_of_nonneg_right (Int.le_trans h2 e0) (Int.le_of_lt hQ)
  refine sq_le (Int.mul_nonneg hS (Int.le_of_lt hM)) ?_
  have a1 : S * M * (S * M) = S * S * (M * M) := by grind
  have a2 : t * Q * (t * Q) = t * t * Q * Q := by grind
  have a3 : max hi 0 * Q * (M * M) = max hi 0 * (M * M) * Q := by grind
  omega
theorem pow_dbl (m : Nat) : (2 : Int) ^ (2 * m) = 2 ^ m * 2 ^ m := by rw [Nat.two_mul, Int.pow_add]
theorem sqI (R : Nat) : (R : Int) * R = ((R * R : Nat) : Int) := by simp
theorem ceilR_sq (n : Nat) : n ≤ ceilR n * ceilR n := by
  have h := isqrt_root n
  unfold ceilR
  split
  · omega
  · exact Nat.le_of_lt h.2
theorem rLo_sq (lo : Int) (p : Nat) : rLo lo p * rLo lo p ≤ max lo 0 * 2 ^ p := by
  have h := (isqrt_root (max lo 0 * 2 ^ p).toNat).1
  have p1 : 0 ≤ max lo 0 * 2 ^ p := Int.mul_nonneg (by omega) (Int.le_of_lt (two_pow_pos' _))
  unfold rLo
  rw [sqI]
  omega
theorem rHi_sq (hi : Int) (p : Nat) : max hi 0 * 2 ^ p ≤ rHi hi p * rHi hi p := by
  have h := ceilR_sq (max hi 0 * 2 ^ p).toNat
  have p1 : 0 ≤ max hi 0 * 2 ^ p := Int.mul_nonneg (by omega) (Int.le_of_lt (two_pow_pos' _))
  unfold rHi
  rw [sqI]
  omega
theorem rLo_nn (x : Int) (p : Nat) : 0 ≤ rLo x p := by unfold rLo; omega
theorem rHi_nn (x : Int) (p : Nat) : 0 ≤ rHi x p := by unfold rHi; omega
theorem hd_root {lo hi t : Int} {m p : Nat} (h : Hd lo hi (t * t) (2 * m) p) (ht : 0 ≤ t) : Hd (rLo lo p) (rHi hi p) t m p := by
  unfold Hd at h
  rw [pow_dbl] at h
  exact ⟨root_lo (rLo_sq lo p) h.1 ht (two_pow_pos' _) (two_pow_pos' _), root_hi (rHi_sq hi p) h.2 (rHi_nn _ _) (two_pow_pos' _) (two_pow_pos' _)⟩
theorem root_mono {x y : Int} (h : x ≤ y) (p : Nat) : rLo x p ≤ rHi y p := by
  refine sq_le (rHi_nn _ _) (Int.le_trans (rLo_sq x p) (Int.le_trans ?_ (rHi_sq y p)))
  exact Int.mul_le_mul_of_nonneg_right (by omega) (Int.le_of_lt (two_pow_pos' _))
theorem lin {a b x y : Int} (h1 : a ≤ x) (h2 : x ≤ b) : min (a * y) (b * y) ≤ x * y ∧ x * y ≤ max (a * y) (b * y) := by
  rcases Int.le_total 0 y with h | h
  · have e1 := Int.mul_le_mul_of_nonneg_right h1 h
    have e2 := Int.mul_le_mul_of_nonneg_right h2 h
    omega
  · have e1 := Int.mul_le_mul_of_nonpos_right h1 h
    have e2 := Int.mul_le_mul_of_nonpos_right h2 h
    omega
theorem bilin {a b c d x y : Int} (h1 : a ≤ x) (h2 : x ≤ b) (h3 : c ≤ y) (h4 : y ≤ d) : lo4 (a * c) (a * d) (b * c) (b * d) ≤ x * y ∧ x * y ≤ hi4 (a * c) (a * d) (b * c) (b * d) := by
  have e := lin (y := y) h1 h2
  have f1 := lin (y := a) h3 h4
  have f2 := lin (y := b) h3 h4
  rw [Int.mul_comm y a, Int.mul_comm c a, Int.mul_comm d a] at f1
  rw [Int.mul_comm y b, Int.mul_comm c b, Int.mul_comm d b] at f2
  unfold lo4 hi4
  omega
theorem lo4_sc {w x y z K : Int} (hK : 0 ≤ K) : lo4 w x y z * K ≤ lo4 (w * K) (x * K) (y * K) (z * K) := by
  have h1 := Int.mul_le_mul_of_nonneg_right (show lo4 w x y z ≤ w by unfold lo4; omega) hK
  have h2 := Int.mul_le_mul_of_nonneg_right (show lo4 w x y z ≤ x by unfold lo4; omega) hK
  have h3 := Int.mul_le_mul_of_nonneg_right (show lo4 w x y z ≤ y by unfold lo4; omega) hK
  have h4 := Int.mul_le_mul_of_nonneg_right (show lo4 w x y z ≤ z by unfold lo4; omega) hK
  generalize lo4 w x y z * K = L at *
  unfold lo4
  omega
theorem hi4_sc {w x y z K : Int} (hK : 0 ≤ K) : hi4 (w * K) (x * K) (y * K) (z * K) ≤ hi4 w x y z * K := by
  have h1 := Int.mul_le_mul_of_nonneg_right (show w ≤ hi4 w x y z by unfold hi4; omega) hK
  have h2 := Int.mul_le_mul_of_nonneg_right (show x ≤ hi4 w x y z by unfold hi4; omega) hK
  have h3 := Int.mul_le_mul_of_nonneg_right (show y ≤ hi4 w x y z by unfold hi4; omega) hK
  have h4 := Int.mul_le_mul_of_nonneg_right (show z ≤ hi4 w x y z by unfold hi4; omega) hK
  generalize hi4 w x y z * K = L at *
  unfold hi4
  omega
theorem hd_mul {a b c d x y : Int} {m n p : Nat} (h : Hd a b x m p) (g : Hd c d y n p) : Hd (mulLo a b c d p) (mulHi a b c d p) (x * y) (m + n) p := by
  unfold Hd at *
  have hK : 0 < (2 : Int) ^ m * 2 ^ n := Int.mul_pos (two_pow_pos' _) (two_pow_pos' _)
  have hQ := two_pow_pos' p
  rw [Int.pow_add]
  have e := bilin h.1 h.2 g.1 g.2
  unfold mulLo mulHi
  generalize (2 : Int) ^ m = M at *
  generalize (2 : Int) ^ n = N at *
  generalize (2 : Int) ^ p = Q at *
  have r : ∀ u v : Int, u * M * (v * N) = u * v * (M * N) := fun u v => by grind
  rw [r, r, r, r] at e
  have s1 := lo4_sc (w := a * c) (x := a * d) (y := b * c) (z := b * d) (Int.le_of_lt hK)
  have s2 := hi4_sc (w := a * c) (x := a * d) (y := b * c) (z := b * d) (Int.le_of_lt hK)
  generalize hL : lo4 (a * c) (a * d) (b * c) (b * d) = L at *
  generalize hU : hi4 (a * c) (a * d) (b * c) (b * d) = U at *
  have d1 := Int.mul_le_mul_of_nonneg_right (Int.ediv_mul_le L (b := Q) (by omega)) (Int.le_of_lt hK)
  have d2 := Int.mul_le_mul_of_nonneg_right (Int.ediv_mul_le (-U) (b := Q) (by omega)) (Int.le_of_lt hK)
  refine ⟨Int.le_of_mul_le_mul_right (a := Q) ?_ hQ, Int.le_of_mul_le_mul_right (a := Q) ?_ hQ⟩
  · have a1 : L / Q * (M * N) * Q = L / Q * Q * (M * N) := by grind
    have a2 : x * y * Q * Q = x * Q * (y * Q) := by grind
    omega
  · have a1 : -(-U / Q) * (M * N) * Q = -(-U / Q * Q * (M * N)) := by grind
    have a2 : x * y * Q * Q = x * Q * (y * Q) := by grind
    have a3 : -U * (M * N) = -(U * (M * N)) := Int.neg_mul _ _
    omega
theorem hd_add {a b c d x y : Int} {m p : Nat} (h : Hd a b x m p) (g : Hd c d y m p) : Hd (a + c) (b + d) (x + y) m p := by
  unfold Hd at *
  rw [Int.add_mul, Int.add_mul, Int.add_mul]
  omega
theorem hd_neg {a b x : Int} {m p : Nat} (h : Hd a b x m p) : Hd (-b) (-a) (-x) m p := by
  unfold Hd at *
  rw [Int.neg_mul, Int.neg_mul, Int.neg_mul]
  omega
theorem hd_half {a b x : Int} {m p : Nat} (h : Hd a b (2 * x) m p) : Hd (a / 2) (-(-b / 2)) x m p := by
  unfold Hd at *
  have hM := two_pow_pos' m
  generalize (2 : Int) ^ m = M at *
  generalize (2 : Int) ^ p = Q at *
  have d1 := Int.mul_le_mul_of_nonneg_right (Int.ediv_mul_le a (b := 2) (by omega)) (Int.le_of_lt hM)
  have d2 := Int.mul_le_mul_of_nonneg_right (Int.ediv_mul_le (-b) (b := 2) (by omega)) (Int.le_of_lt hM)
  rw [Int.mul_right_comm] at d1 d2
  rw [Int.mul_assoc] at h
  rw [Int.neg_mul] at d2 ⊢
  omega
def flo (t : Int) (m p : Nat) : Int := if m ≤ p then t * 2 ^ (p - m) else t / 2 ^ (m - p)
theorem hd_around {t s s' : Int} {m p : Nat} (h : 0 ≤ s) (h' : 0 ≤ s') : Hd (flo t m p - s) (flo t m p + 1 + s') t m p := by
  have hM := two_pow_pos' m
  have q1 := Int.mul_nonneg h (Int.le_of_lt hM)
  have q2 := Int.mul_nonneg h' (Int.le_of_lt hM)
  unfold Hd flo
  rw [Int.sub_mul, Int.add_mul, Int.add_mul, Int.one_mul]
  split
  · rename_i hmp
    have e : (2 : Int) ^ p = 2 ^ (p - m) * 2 ^ m := by rw [← Int.pow_add, Nat.sub_add_cancel hmp]
    rw [e, Int.mul_assoc]
    omega
  · have e : (2 : Int) ^ m = 2 ^ (m - p) * 2 ^ p := by rw [← Int.pow_add, Nat.sub_add_cancel (by omega)]
    have hQ := two_pow_pos' p
    have hK := two_pow_pos' (m - p)
    generalize (2 : Int) ^ (m - p) = K at *
    rw [e] at q1 q2 ⊢
    clear e hM
    generalize (2 : Int) ^ p = Q at *
    have a1 := Int.mul_le_mul_of_nonneg_right (Int.ediv_mul_le t (b := K) (by omega)) (Int.le_of_lt hQ)
    have a2 := Int.mul_le_mul_of_nonneg_right (Int.le_of_lt (Int.lt_ediv_add_one_mul_self t hK)) (Int.le_of_lt hQ)
    rw [Int.add_mul, Int.one_mul, Int.add_mul] at a2
    rw [← Int.mul_assoc]
    omega
theorem hLo_eq {x y : Int} (h : x ≤ y) : hLo x y = x / 2 := by
  unfold hLo
  rw [Int.mul_one, Int.mul_one, Int.fdiv_eq_ediv_of_nonneg _ (by decide)]
  congr 1
  omega
theorem hHi_eq {x y : Int} (h : x ≤ y) : hHi x y = -(-y / 2) := by
  unfold hHi
  rw [Int.mul_one, Int.mul_one, Int.fdiv_eq_ediv_of_nonneg _ (by decide)]
  congr 3
  omega
theorem mul_mono {a b c d : Int} (p : Nat) (h : a ≤ b) (g : c ≤ d) : mulLo a b c d p ≤ mulHi a b c d p := by
  have e := hd_mul (p := p) (m := p) (n := p) (x := a) (y := c) (a := a) (b := b) (c := c) (d := d) ⟨Int.le_refl _, Int.mul_le_mul_of_nonneg_right h (Int.le_of_lt (two_pow_pos' _))⟩ ⟨Int.le_refl _, Int.mul_le_mul_of_nonneg_right g (Int.le_of_lt (two_pow_pos' _))⟩
  exact Int.le_of_mul_le_mul_right (Int.le_trans e.1 e.2) (two_pow_pos' (p + p))
theorem sz_mono {a b c d : Int} (p : Nat) (h : a ≤ b) (g : c ≤ d) : sz0 a b c d p ≤ sz1 a b c d p := by
  unfold sz0 sz1
  have := mul_mono p h h
  have := mul_mono p g g
  exact root_mono (by omega) p
def kindR (u v : Int) : Str := if u ≠ 0 ∧ v = 0 then "plus" else if u = 0 then "minus" else if 0 < u * v then "upper" else "lower"
theorem hd_zero (m p : Nat) : Hd 0 0 0 m p := by unfold Hd; omega
theorem hd_abs {lo hi t : Int} {m p : Nat} (h : Hd lo hi (t * t) (2 * m) p) : Hd (rLo lo p) (rHi hi p) (t.natAbs : Int) m p := by
  refine hd_root (t := (t.natAbs : Int)) ?_ (by omega)
  have : ((t.natAbs : Int) * (t.natAbs : Int)) = t * t := by
    rcases Int.le_total 0 t with q | q
    · rw [show (t.natAbs : Int) = t by omega]
    · rw [show (t.natAbs : Int) = -t by omega, Int.neg_mul_neg]
  rw [this]
  exact h
theorem root_holds {a b c d u v : Int} {m p : Nat} (hx : Hd a b (u * u - v * v) (2 * m) p) (hy : Hd c d (2 * u * v) (2 * m) p) (hab : a ≤ b) (hcd : c ≤ d) (hu : 0 < u ∨ u = 0 ∧ 0 < v) :
    ∃ e f g h, rootBox (kindR u v) a b c d p = bxD e f g h ∧ Hd e f u m p ∧ Hd g h v m p := by
  have hs : Hd (sz0 a b c d p) (sz1 a b c d p) (u * u + v * v) (2 * m) p := by
    have e := hd_add (hd_mul hx hx) (hd_mul hy hy)
    have e2 : (u * u - v * v) * (u * u - v * v) + 2 * u * v * (2 * u * v) = (u * u + v * v) * (u * u + v * v) := by grind
    rw [e2, show 2 * m + 2 * m = 2 * (2 * m) by omega] at e
    refine hd_root e ?_
    have := sqnn u
    have := sqnn v
    omega
  have hsz := sz_mono p hab hcd
  have hm := hd_add hs hx
  have hl := hd_add hs (hd_neg hx)
  rw [show u * u + v * v + (u * u - v * v) = 2 * (u * u) by grind] at hm
  rw [show u * u + v * v + -(u * u - v * v) = 2 * (v * v) by grind] at hl
  have gm := hd_abs (hd_half hm)
  have gl := hd_abs (hd_half hl)
  unfold rootBox kindR
  rw [hLo_eq (by omega), hHi_eq (by omega), hLo_eq (by omega), hHi_eq (by omega)]
  split
  · rename_i h
    obtain ⟨h1, rfl⟩ := h
    rw [Int.mul_zero, Int.sub_zero] at hx
    exact ⟨_, _, _, _, rfl, hd_root hx (by omega), hd_zero m p⟩
  · rename_i n1
    split
    · rename_i h
      subst h
      rw [if_neg (by decide), if_pos rfl]
      have := hd_neg hx
      rw [show -((0 : Int) * 0 - v * v) = v * v by grind] at this
      exact ⟨_, _, _, _, rfl, hd_zero m p, hd_root this (by omega)⟩
    · rename_i n2
      have hu0 : 0 < u := by omega
      rw [show (u.natAbs : Int) = u by omega] at gm
      split
      · rename_i h
        have hv : 0 < v := by
          refine Int.not_le.mp fun c => ?_
          have := Int.mul_nonpos_of_nonneg_of_nonpos (Int.le_of_lt hu0) c
          omega
        rw [show (v.natAbs : Int) = v by omega] at gl
        rw [if_neg (by decide), if_neg (by decide), if_neg (by decide)]
        exact ⟨_, _, _, _, rfl, gm, gl⟩
      · rename_i h
        have hv : v < 0 := by
          have : v ≠ 0 := fun e => n1 ⟨n2, e⟩
          refine Int.lt_iff_le_and_ne.mpr ⟨Int.not_lt.mp fun c => h (Int.mul_pos hu0 c), this⟩
        have := hd_neg gl
        rw [show -(v.natAbs : Int) = v by omega] at this
        rw [if_neg (by decide), if_neg (by decide), if_pos rfl]
        exact ⟨_, _, _, _, rfl, gm, this⟩
theorem rootBox_bits {kind : Str} {a b c d : Int} {n : Nat} (ba : intBits a ≤ 900) (bb : intBits b ≤ 900) (bc : intBits c ≤ 900) (bd : intBits d ≤ 900) (hn : n ≤ 700) :
    ∃ e f g h, rootBox kind a b c d n = bxD e f g h ∧ ∀ x ∈ [e, f, g, h], intBits x ≤ 4000 := by
  have up : ∀ {x : Int} {m n : Nat}, intBits x ≤ m → m ≤ n → intBits x ≤ n := fun h h' => Nat.le_trans h h'
  have q1 := mulLo_bits (n := n) ba bb ba bb
  have q2 := mulHi_bits (n := n) ba bb ba bb
  have q3 := mulLo_bits (n := n) bc bd bc bd
  have q4 := mulHi_bits (n := n) bc bd bc bd
  have b1 := intBits_add_le q1 q3
  have b2 := intBits_add_le q2 q4
  have b3 : intBits (sz0 a b c d n) ≤ 2600 := up (rLo_bits (n := n) b1) (by omega)
  have b4 : intBits (sz1 a b c d n) ≤ 2600 := up (rHi_bits (n := n) b2) (by omega)
  have a1 := intBits_add_le b3 ba
  have a2 := intBits_add_le b4 bb
  have a3 := intBits_add_le b3 (intBits_neg_le bb)
  have a4 := intBits_add_le b4 (intBits_neg_le ba)
  have e1 := hLo_bits (up a1 (show _ ≤ 2601 by decide)) (up a2 (show _ ≤ 2601 by decide))
  have e2 := hHi_bits (up a1 (show _ ≤ 2601 by decide)) (up a2 (show _ ≤ 2601 by decide))
  have e3 := hLo_bits (up a3 (show _ ≤ 2601 by decide)) (up a4 (show _ ≤ 2601 by decide))
  have e4 := hHi_bits (up a3 (show _ ≤ 2601 by decide)) (up a4 (show _ ≤ 2601 by decide))
  have z : intBits 0 ≤ 4000 := by decide
  have L : ∀ {x : Int}, intBits x ≤ 2601 → intBits (rLo x n) ≤ 4000 := fun h => up (rLo_bits (n := n) h) (by omega)
  have H : ∀ {x : Int}, intBits x ≤ 2601 → intBits (rHi x n) ≤ 4000 := fun h => up (rHi_bits (n := n) h) (by omega)
  unfold rootBox
  split
  · exact ⟨_, _, _, _, rfl, by simp only [List.mem_cons, List.not_mem_nil, or_false, forall_eq_or_imp, forall_eq]; exact ⟨L (up ba (by decide)), H (up bb (by decide)), z, z⟩⟩
  · split
    · exact ⟨_, _, _, _, rfl, by simp only [List.mem_cons, List.not_mem_nil, or_false, forall_eq_or_imp, forall_eq]; exact ⟨z, z, L (up (intBits_neg_le bb) (by decide)), H (up (intBits_neg_le ba) (by decide))⟩⟩
    · split
      · exact ⟨_, _, _, _, rfl, by simp only [List.mem_cons, List.not_mem_nil, or_false, forall_eq_or_imp, forall_eq]; exact ⟨L e1, H e2, intBits_neg_le (H e4), intBits_neg_le (L e3)⟩⟩
      · exact ⟨_, _, _, _, rfl, by simp only [List.mem_cons, List.not_mem_nil, or_false, forall_eq_or_imp, forall_eq]; exact ⟨L e1, H e2, L e3, H e4⟩⟩

theorem sorted4 {ns : List Int} {a b c d : Int} (hp : ns.Perm [a, b, c, d]) (hs : ns.Pairwise (· ≤ ·)) : ∃ x y, ns = [lo4 a b c d, x, y, hi4 a b c d] := by
  have hl := hp.length_eq
  match ns, hl with
  | [w, x, y, z], _ =>
    simp only [List.pairwise_cons, List.mem_cons, List.not_mem_nil, or_false, forall_eq_or_imp, forall_eq, List.Pairwise.nil, and_true] at hs
    have h1 : ∀ t, t ∈ [w, x, y, z] ↔ t ∈ [a, b, c, d] := fun t => hp.mem_iff
    simp only [List.mem_cons, List.not_mem_nil, or_false] at h1
    have ha := (h1 a).mpr (.inl rfl)
    have hb := (h1 b).mpr (.inr (.inl rfl))
    have hc := (h1 c).mpr (.inr (.inr (.inl rfl)))
    have hd := (h1 d).mpr (.inr (.inr (.inr rfl)))
    have hw := (h1 w).mp (.inl rfl)
    have hz := (h1 z).mp (.inr (.inr (.inr rfl)))
    refine ⟨x, y, ?_⟩
    unfold lo4 hi4
    congr 1
    · omega
    · congr 2
      congr 1
      omega
abbrev s__law_interval_mul : Stmt := topS 20
theorem sc__law_interval_mul : FnScope ["one", "two", "places", "ends"] ["one", "two", "places"] (defScope s__law_interval_mul) := ⟨rfl, rfl, rfl, by decide +kernel, rfl, by decide +kernel, by decide +kernel⟩
def f__law_interval_mul : FD := fun ds q => ∃ (a b c d p : Int), ds = [.tuple [.int a, .int b], .tuple [.int c, .int d], .int p] ∧ 0 ≤ p ∧ intBits a ≤ 20000 ∧ intBits b ≤ 20000 ∧ intBits c ≤ 20000 ∧ intBits d ≤ 20000 ∧ q (.val (.tuple [.int (mulLo a b c d p.toNat), .int (mulHi a b c d p.toNat)]))
theorem ok__law_interval_mul {f fd} {k : Nat} (F : Fun K "_law_interval_mul" "_law_interval_mul" s__law_interval_mul f fd) (hdg : base.NoDigits) (m_sorted : mg "sorted" = none) : FnG P w K mg base (k + 1) f fd ["one", "two", "places"] (SpD K 3 f__law_interval_mul) := by
  refine fnD F sc__law_interval_mul fun cdv A outer s H E gA hr => ?_
  have hu := hr.units
  have nd := sc__law_interval_mul.nd
  refine ⟨_, (ss_cons (st_set (i := 3) nd (DLs.toE (dl_B c_sorted m_sorted (ab_cons (DE.toB (DLs.toE (dl_lst (da_cons (de_op o_mul (DE.toB (de_ix x_ix (bv 0) (DE.toB de_int))) (DE.toB (de_ix x_ix (bv 1) (DE.toB de_int)))) (da_cons (de_op o_mul (DE.toB (de_ix x_ix (bv 0) (DE.toB de_int))) (DE.toB (de_ix x_ix (bv 1) (DE.toB de_int)))) (da_cons (de_op o_mul (DE.toB (de_ix x_ix (bv 0) (DE.toB de_int))) (DE.toB (de_ix x_ix (bv 1) (DE.toB de_int)))) (da_cons (de_op o_mul (DE.toB (de_ix x_ix (bv 0) (DE.toB de_int))) (DE.toB (de_ix x_ix (bv 1) (DE.toB de_int)))) da_nil))))))) ab_nil))))
    (ss_one (st_ret (de_tup (da_cons (de_op o_shr (DE.toB (de_ix x_ix (bv 3) (DE.toB de_int))) (bv 2)) (da_cons (de_un u_neg (DE.toB (de_op o_shr (DE.toB (de_un u_neg (DE.toB (de_ix x_ix (bv 3) (DE.toB de_int))))) (bv 2)))) da_nil)))))), ?_⟩
  clear F nd hu hr gA E H s outer A cdv hdg m_sorted
  intro ds q hl hg
  obtain ⟨a, b, c, d, p, rfl, hp, ba, bb, bc, bd, hq⟩ := hg
  have mk : ∀ {x y : Int}, intBits x ≤ 20000 → intBits y ≤ 20000 → MulOk x y := fun h h' => MulOk.of_le h h' (by decide)
  show sSeq _ _ _ [some (.val (.tuple [.int a, .int b])), some (.val (.tuple [.int c, .int d])), some (.val (.int p)), none]
  refine sq_i fun k hk => ?_
  walk_at "rd"
  refine ⟨mk ba bc, mk ba bd, mk bb bc, mk bb bd, [_, _, _, _], rfl, by simp, fun ns' h1 h2 => ?_⟩
  obtain ⟨x, y, rfl⟩ := sorted4 h1 h2
  subst hk
  walk_at "rd"
  exact ⟨hp, hp, hq⟩
abbrev s__law_interval_root : Stmt := topS 21
theorem sc__law_interval_root : FnScope ["one", "places", "low", "top", "high"] ["one", "places"] (defScope s__law_interval_root) := ⟨rfl, rfl, rfl, by decide +kernel, rfl, by decide +kernel, by decide +kernel⟩
def f__law_interval_root : FD := fun ds q => ∃ (a b p : Int), ds = [.tuple [.int a, .int b], .int p] ∧ 0 ≤ p ∧ p ≤ 700 ∧ intBits a ≤ 5000 ∧ intBits b ≤ 5000 ∧ q (.val (.tuple [.int (rLo a p.toNat), .int (rHi b p.toNat)]))
theorem ok__law_interval_root {f fd} {k : Nat} (F : Fun K "_law_interval_root" "_law_interval_root" s__law_interval_root f fd) (hdg : base.NoDigits) (m_max : mg "max" = none) (r__law_isqrt : Ready P w K mg base "_law_isqrt" 1 k f__law_isqrt) : FnG P w K mg base (k + 1) f fd ["one", "places"] (SpD K 2 f__law_interval_root) := by
  refine fnD F sc__law_interval_root fun cdv A outer s H E gA hr => ?_
  have hu := hr.units
  have nd := sc__law_interval_root.nd
  refine ⟨_, (ss_cons (st_set (i := 2) nd (r__law_isqrt.toE gA hr (da_cons (de_op o_shl (DE.toB (de_B c_max2 m_max (ab_cons (DE.toB (de_ix x_ix (bv 0) (DE.toB de_int))) (ab_cons (DE.toB de_int) ab_nil)))) (bv 1)) da_nil)))
    (ss_cons (st_set (i := 3) nd (de_op o_shl (DE.toB (de_B c_max2 m_max (ab_cons (DE.toB (de_ix x_ix (bv 0) (DE.toB de_int))) (ab_cons (DE.toB de_int) ab_nil)))) (bv 1)))
    (ss_cons (st_set (i := 4) nd (r__law_isqrt.toE gA hr (da_cons (dv 3) da_nil)))
    (ss_cons (st_if (dt_cmp o_lt (DE.toB (de_op o_mul (bv 4) (bv 4))) (bv 3)) (ss_one (st_set (i := 4) nd (de_op o_add (bv 4) (DE.toB de_int)))) ss_nil)
    (ss_one (st_ret (de_tup (da_cons (dv 2) (da_cons (dv 4) da_nil))))))))), ?_⟩
  clear F nd hu hr gA E H s outer A cdv hdg m_max r__law_isqrt
  intro ds q hl hg
  obtain ⟨a, b, p, rfl, hp, hp7, ba, bb, hq⟩ := hg
  have b0 : intBits 0 ≤ 5000 := by decide
  have nn : ∀ y : Int, 0 ≤ max y 0 * 2 ^ p.toNat := fun y => Int.mul_nonneg (by omega) (Int.le_of_lt (two_pow_pos' _))
  have sh : ∀ y : Int, intBits y ≤ 5000 → ShlOk (max y 0) p := fun y h => ⟨hp, by have := bits_max h b0; omega⟩
  have sb : ∀ y : Int, intBits y ≤ 5000 → intBits (max y 0 * 2 ^ p.toNat) ≤ 8000 := fun y h => Nat.le_trans (bits_shl (bits_max h b0)) (by omega)
  show sSeq _ _ _ [some (.val (.tuple [.int a, .int b])), some (.val (.int p)), none, none, none]
  refine sq_i fun k hk => ?_
  walk_at "rd"
  rw [max_if]
  refine ⟨sh a ba, _, rfl, nn a, sb a ba, ?_⟩
  walk_at "rd"
  subst hk
  refine sq_i fun k hk => ?_
  walk_at "rd"
  rw [max_if]
  refine ⟨sh b bb, ?_⟩
  unfold rLo rHi at hq
  have nb := nn b
  have bbh := sb b bb
  generalize max b 0 * 2 ^ p.toNat = h at nb bbh hq ⊢
  subst hk
  refine sq_i fun k hk => ?_
  walk_at "rd"
  refine ⟨h, rfl, nb, bbh, ?_⟩
  walk_at "rd"
  subst hk
  have hr := isqrt_root h.toNat
  have hb : intBits (Float64.isqrt h.toNat : Nat) ≤ 8000 := bits_nat (Nat.lt_of_le_of_lt (root_le hr) (toNat_lt bbh))
  unfold ceilR at hq
  generalize Float64.isqrt h.toNat = r at hr hb hq ⊢
  have rr : (r : Int) * (r : Int) = ((r * r : Nat) : Int) := by simp
  refine sq_i fun k hk => if_n fun T hT => ?_
  walk_at "rd"
  rw [rr]
  have h1 := hr.1
  refine ⟨MulOk.of_le hb hb (by decide), fun h2 => ?_, fun h2 => ?_⟩
  · subst hT
    walk_at "rd"
    subst hk
    walk_at "rd"
    rw [if_neg (by omega)] at hq
    simpa using hq
  · subst hk
    walk_at "rd"
    rw [if_pos (by omega)] at hq
    exact hq
end
end K04

namespace K04
open PySem PySem.Spec PyProof.Rows L2 DL Builtin.Int
local macro_rules | `(tactic| walk_at "rd") => `(tactic| simp -failIfUnchanged only [sSet, sSetL, sRet, sRetL, sRetO, sRetN, sNext, sBreak, sCont, sDrop, sApp, sAug, sAsg, sPar, sSetI, sPop, sRev, sFrz, frz1, iSeq, iRevD, iRange1, iRange2, iRangeD, rName, rTup, rCons, rNil,
  dLst, dView, tView, lView, view, look, dVar, bVar, dC, d2, d1, l2, tBool, dNil, dCons, dTup, gI, gSubI, gMulI, gFdiv, gMod, gPow, gShl, gShr, gAnd, gXor, gLt, gLe, gGt, gGe, gAdd, gEq, gNe, isNone, gIs, gIsNot, gNeg, lCat, gLen, gInt, gAbs, gMax2, gMin2, gTuple, lList, gGcd, gIsqrt, dCall, lCall, dIsi, dIsi2,
  tAndD, tOrD, tNotD, tTru, truD, dAndV, dOrV, dNotV, dIf, dBits, oNone, oSome, dSl, lSl, dFn, lFn, valD, tYesD, eqOk_ii, eqOk_bb, eqOk_ss, eqv_int, eqv_str, eqv_bool, noLst, noLstAll, List.map_cons, List.map_nil, Option.map_some, Option.map_none,
  List.getElem?_cons_zero, List.getElem?_cons_succ, List.set_cons_zero, List.set_cons_succ, true_and, and_true, decide_eq_true_eq, decide_eq_false_iff_not, Bool.not_eq_true', Bool.not_eq_false', beq_iff_eq, beq_eq_false_iff_ne, Bool.true_eq_false, Bool.false_eq_true, false_imp_iff, true_imp_iff, forall_const, reduceCtorEq, ne_eq, not_true_eq_false, not_false_eq_true, Bool.not_true, Bool.not_false, Bool.true_and, Bool.and_true, Bool.false_and, Bool.and_false, Int.reduceToNat, Int.cast_ofNat_Int, eq_self, isTy_none_int, isTy_none_bool, isTy_none_str, isTy_none_list, isTy_none_tuple, isTy_bool_int, isTy_bool_bool, isTy_bool_str, isTy_bool_list, isTy_bool_tuple, isTy_int_int, isTy_int_bool, isTy_int_str, isTy_int_list, isTy_int_tuple, isTy_str_int, isTy_str_bool, isTy_str_str, isTy_str_list, isTy_str_tuple, isTy_list_int, isTy_list_bool, isTy_list_str, isTy_list_list, isTy_list_tuple, isTy_tuple_int, isTy_tuple_bool, isTy_tuple_str, isTy_tuple_list, isTy_tuple_tuple, List.length_cons, List.length_nil, Nat.reduceAdd, Nat.zero_add, ix2_0, ix2_1,
  gIx_l0, gIx_t0, gIx_l1, gIx_t1, gIx_l2, gIx_t2, gIx_l3, gIx_t3, gIx_l4, gIx_t4, gIx_l5, gIx_t5, gIx_l6, gIx_t6, gIx_l7, gIx_t7, gIx_l8, gIx_t8, gIx_l9, gIx_t9, gIx_l10, gIx_t10, gIx_l11, gIx_t11, gIx_l12, gIx_t12, gIx_l13, gIx_t13, gIx_l14, gIx_t14, gIx_l15, gIx_t15])
section
variable {P : Program} {w : World} {K : Frag} {mg : Str → Option Value} {base : Heap}
abbrev s__law_box_add : Stmt := topS 22
theorem sc__law_box_add : FnScope ["one", "two"] ["one", "two"] (defScope s__law_box_add) := ⟨rfl, rfl, rfl, by decide +kernel, rfl, by decide +kernel, by decide +kernel⟩
def f__law_box_add : FD := fun ds q => ∃ (a b c d e f g h : Int), ds = [bxD a b c d, bxD e f g h] ∧ q (.val (bxD (a + e) (b + f) (c + g) (d + h)))
theorem ok__law_box_add {f fd} {k : Nat} (F : Fun K "_law_box_add" "_law_box_add" s__law_box_add f fd) (hdg : base.NoDigits) : FnG P w K mg base (k + 1) f fd ["one", "two"] (SpD K 2 f__law_box_add) := by
  refine fnD F sc__law_box_add fun cdv A outer s H E gA hr => ?_
  have hu := hr.units
  have nd := sc__law_box_add.nd
  refine ⟨_, (ss_one (st_ret (de_tup (da_cons (de_tup (da_cons (de_op o_add (DE.toB (de_ix x_ix (DE.toB (de_ix x_ix (bv 0) (DE.toB de_int))) (DE.toB de_int))) (DE.toB (de_ix x_ix (DE.toB (de_ix x_ix (bv 1) (DE.toB de_int))) (DE.toB de_int)))) (da_cons (de_op o_add (DE.toB (de_ix x_ix (DE.toB (de_ix x_ix (bv 0) (DE.toB de_int))) (DE.toB de_int))) (DE.toB (de_ix x_ix (DE.toB (de_ix x_ix (bv 1) (DE.toB de_int))) (DE.toB de_int)))) da_nil))) (da_cons (de_tup (da_cons (de_op o_add (DE.toB (de_ix x_ix (DE.toB (de_ix x_ix (bv 0) (DE.toB de_int))) (DE.toB de_int))) (DE.toB (de_ix x_ix (DE.toB (de_ix x_ix (bv 1) (DE.toB de_int))) (DE.toB de_int)))) (da_cons (de_op o_add (DE.toB (de_ix x_ix (DE.toB (de_ix x_ix (bv 0) (DE.toB de_int))) (DE.toB de_int))) (DE.toB (de_ix x_ix (DE.toB (de_ix x_ix (bv 1) (DE.toB de_int))) (DE.toB de_int)))) da_nil))) da_nil))))), ?_⟩
  clear F nd hu hr gA E H s outer A cdv hdg 
  intro ds q hl hg
  obtain ⟨a, b, c, d, e, f, g, h, rfl, hq⟩ := hg
  show sRet _ _ [some (.val (bxD a b c d)), some (.val (bxD e f g h))]
  walk_at "rd"
  exact hq
abbrev s__law_box_mul : Stmt := topS 23
theorem sc__law_box_mul : FnScope ["one", "two", "places", "a", "b", "c", "d"] ["one", "two", "places"] (defScope s__law_box_mul) := ⟨rfl, rfl, rfl, by decide +kernel, rfl, by decide +kernel, by decide +kernel⟩
def f__law_box_mul : FD := fun ds q => ∃ (a b c d e f g h p : Int), ds = [bxD a b c d, bxD e f g h, .int p] ∧ 0 ≤ p ∧ (∀ x ∈ [a, b, c, d, e, f, g, h], intBits x ≤ 20000) ∧
  q (.val (bxD (mulLo a b e f p.toNat + -(mulHi c d g h p.toNat)) (mulHi a b e f p.toNat + -(mulLo c d g h p.toNat)) (mulLo a b g h p.toNat + mulLo c d e f p.toNat) (mulHi a b g h p.toNat + mulHi c d e f p.toNat)))
theorem ok__law_box_mul {f fd} {k : Nat} (F : Fun K "_law_box_mul" "_law_box_mul" s__law_box_mul f fd) (hdg : base.NoDigits) (r__law_interval_mul : Ready P w K mg base "_law_interval_mul" 3 k f__law_interval_mul) : FnG P w K mg base (k + 1) f fd ["one", "two", "places"] (SpD K 3 f__law_box_mul) := by
  refine fnD F sc__law_box_mul fun cdv A outer s H E gA hr => ?_
  have hu := hr.units
  have nd := sc__law_box_mul.nd
  refine ⟨_, (ss_cons (st_set (i := 3) nd (r__law_interval_mul.toE gA hr (da_cons (de_ix x_ix (bv 0) (DE.toB de_int)) (da_cons (de_ix x_ix (bv 1) (DE.toB de_int)) (da_cons (dv 2) da_nil)))))
    (ss_cons (st_set (i := 4) nd (r__law_interval_mul.toE gA hr (da_cons (de_ix x_ix (bv 0) (DE.toB de_int)) (da_cons (de_ix x_ix (bv 1) (DE.toB de_int)) (da_cons (dv 2) da_nil)))))
    (ss_cons (st_set (i := 5) nd (r__law_interval_mul.toE gA hr (da_cons (de_ix x_ix (bv 0) (DE.toB de_int)) (da_cons (de_ix x_ix (bv 1) (DE.toB de_int)) (da_cons (dv 2) da_nil)))))
    (ss_cons (st_set (i := 6) nd (r__law_interval_mul.toE gA hr (da_cons (de_ix x_ix (bv 0) (DE.toB de_int)) (da_cons (de_ix x_ix (bv 1) (DE.toB de_int)) (da_cons (dv 2) da_nil)))))
    (ss_one (st_ret (de_tup (da_cons (de_tup (da_cons (de_op o_sub (DE.toB (de_ix x_ix (bv 3) (DE.toB de_int))) (DE.toB (de_ix x_ix (bv 4) (DE.toB de_int)))) (da_cons (de_op o_sub (DE.toB (de_ix x_ix (bv 3) (DE.toB de_int))) (DE.toB (de_ix x_ix (bv 4) (DE.toB de_int)))) da_nil))) (da_cons (de_tup (da_cons (de_op o_add (DE.toB (de_ix x_ix (bv 5) (DE.toB de_int))) (DE.toB (de_ix x_ix (bv 6) (DE.toB de_int)))) (da_cons (de_op o_add (DE.toB (de_ix x_ix (bv 5) (DE.toB de_int))) (DE.toB (de_ix x_ix (bv 6) (DE.toB de_int)))) da_nil))) da_nil))))))))), ?_⟩
  clear F nd hu hr gA E H s outer A cdv hdg r__law_interval_mul
  intro ds q hl hg
  obtain ⟨a, b, c, d, e, f, g, h, p, rfl, hp, hb, hq⟩ := hg
  simp only [List.mem_cons, List.not_mem_nil, or_false, forall_eq_or_imp, forall_eq] at hb
  obtain ⟨ba, bb, bc, bd, be, bf, bg, bh⟩ := hb
  show sSeq _ _ _ [some (.val (bxD a b c d)), some (.val (bxD e f g h)), some (.val (.int p)), none, none, none, none]
  refine sq_i fun k hk => ?_
  walk_at "rd"
  refine ⟨_, _, _, _, _, rfl, hp, ba, bb, be, bf, ?_⟩
  walk_at "rd"
  subst hk
  refine sq_i fun k hk => ?_
  walk_at "rd"
  refine ⟨_, _, _, _, _, rfl, hp, bc, bd, bg, bh, ?_⟩
  walk_at "rd"
  subst hk
  refine sq_i fun k hk => ?_
  walk_at "rd"
  refine ⟨_, _, _, _, _, rfl, hp, ba, bb, bg, bh, ?_⟩
  walk_at "rd"
  subst hk
  refine sq_i fun k hk => ?_
  walk_at "rd"
  refine ⟨_, _, _, _, _, rfl, hp, bc, bd, be, bf, ?_⟩
  walk_at "rd"
  subst hk
  walk_at "rd"
  exact hq
abbrev s__law_box_root : Stmt := topS 24
theorem sc__law_box_root : FnScope ["box", "kind", "places", "x", "y", "size", "more", "less", "side"] ["box", "kind", "places"] (defScope s__law_box_root) := ⟨rfl, rfl, rfl, by decide +kernel, rfl, by decide +kernel, by decide +kernel⟩
def f__law_box_root : FD := fun ds q => ∃ (kind : Str) (a b c d p : Int), ds = [bxD a b c d, .str kind, .int p] ∧ a ≤ b ∧ c ≤ d ∧ 0 ≤ p ∧ p ≤ 700 ∧ intBits a ≤ 900 ∧ intBits b ≤ 900 ∧ intBits c ≤ 900 ∧ intBits d ≤ 900 ∧ q (.val (rootBox kind a b c d p.toNat))
theorem ok__law_box_root {f fd} {k : Nat} (F : Fun K "_law_box_root" "_law_box_root" s__law_box_root f fd) (hdg : base.NoDigits) (r__law_interval_root : Ready P w K mg base "_law_interval_root" 2 k f__law_interval_root) (r__law_interval_mul : Ready P w K mg base "_law_interval_mul" 3 k f__law_interval_mul) : FnG P w K mg base (k + 1) f fd ["box", "kind", "places"] (SpD K 3 f__law_box_root) := by
  refine fnD F sc__law_box_root fun cdv A outer s H E gA hr => ?_
  have hu := hr.units
  have nd := sc__law_box_root.nd
  refine ⟨_, (ss_cons (st_if (dt_cmp (o_eq hu) (bv 1) (DE.toB de_str)) (ss_one (st_ret (de_tup (da_cons (r__law_interval_root.toE gA hr (da_cons (de_ix x_ix (bv 0) (DE.toB de_int)) (da_cons (dv 2) da_nil))) (da_cons (de_tup (da_cons de_int (da_cons de_int da_nil))) da_nil))))) ss_nil)
    (ss_cons (st_if (dt_cmp (o_eq hu) (bv 1) (DE.toB de_str)) (ss_one (st_ret (de_tup (da_cons (de_tup (da_cons de_int (da_cons de_int da_nil))) (da_cons (r__law_interval_root.toE gA hr (da_cons (de_tup (da_cons (de_un u_neg (DE.toB (de_ix x_ix (DE.toB (de_ix x_ix (bv 0) (DE.toB de_int))) (DE.toB de_int)))) (da_cons (de_un u_neg (DE.toB (de_ix x_ix (DE.toB (de_ix x_ix (bv 0) (DE.toB de_int))) (DE.toB de_int)))) da_nil))) (da_cons (dv 2) da_nil))) da_nil))))) ss_nil)
    (ss_cons (st_set (i := 3) nd (r__law_interval_mul.toE gA hr (da_cons (de_ix x_ix (bv 0) (DE.toB de_int)) (da_cons (de_ix x_ix (bv 0) (DE.toB de_int)) (da_cons (dv 2) da_nil)))))
    (ss_cons (st_set (i := 4) nd (r__law_interval_mul.toE gA hr (da_cons (de_ix x_ix (bv 0) (DE.toB de_int)) (da_cons (de_ix x_ix (bv 0) (DE.toB de_int)) (da_cons (dv 2) da_nil)))))
    (ss_cons (st_set (i := 5) nd (r__law_interval_root.toE gA hr (da_cons (de_tup (da_cons (de_op o_add (DE.toB (de_ix x_ix (bv 3) (DE.toB de_int))) (DE.toB (de_ix x_ix (bv 4) (DE.toB de_int)))) (da_cons (de_op o_add (DE.toB (de_ix x_ix (bv 3) (DE.toB de_int))) (DE.toB (de_ix x_ix (bv 4) (DE.toB de_int)))) da_nil))) (da_cons (dv 2) da_nil))))
    (ss_cons (st_set (i := 6) nd (de_tup (da_cons (de_op o_shr (DE.toB (de_op o_add (DE.toB (de_ix x_ix (bv 5) (DE.toB de_int))) (DE.toB (de_ix x_ix (DE.toB (de_ix x_ix (bv 0) (DE.toB de_int))) (DE.toB de_int))))) (DE.toB de_int)) (da_cons (de_un u_neg (DE.toB (de_op o_shr (DE.toB (de_un u_neg (DE.toB (de_op o_add (DE.toB (de_ix x_ix (bv 5) (DE.toB de_int))) (DE.toB (de_ix x_ix (DE.toB (de_ix x_ix (bv 0) (DE.toB de_int))) (DE.toB de_int))))))) (DE.toB de_int)))) da_nil))))
    (ss_cons (st_set (i := 7) nd (de_tup (da_cons (de_op o_shr (DE.toB (de_op o_sub (DE.toB (de_ix x_ix (bv 5) (DE.toB de_int))) (DE.toB (de_ix x_ix (DE.toB (de_ix x_ix (bv 0) (DE.toB de_int))) (DE.toB de_int))))) (DE.toB de_int)) (da_cons (de_un u_neg (DE.toB (de_op o_shr (DE.toB (de_un u_neg (DE.toB (de_op o_sub (DE.toB (de_ix x_ix (bv 5) (DE.toB de_int))) (DE.toB (de_ix x_ix (DE.toB (de_ix x_ix (bv 0) (DE.toB de_int))) (DE.toB de_int))))))) (DE.toB de_int)))) da_nil))))
    (ss_cons (st_set (i := 8) nd (r__law_interval_root.toE gA hr (da_cons (dv 7) (da_cons (dv 2) da_nil))))
    (ss_cons (st_if (dt_cmp (o_eq hu) (bv 1) (DE.toB de_str)) (ss_one (st_set (i := 8) nd (de_tup (da_cons (de_un u_neg (DE.toB (de_ix x_ix (bv 8) (DE.toB de_int)))) (da_cons (de_un u_neg (DE.toB (de_ix x_ix (bv 8) (DE.toB de_int)))) da_nil))))) ss_nil)
    (ss_one (st_ret (de_tup (da_cons (r__law_interval_root.toE gA hr (da_cons (dv 6) (da_cons (dv 2) da_nil))) (da_cons (dv 8) da_nil)))))))))))))), ?_⟩
  clear F nd hu hr gA E H s outer A cdv hdg r__law_interval_root r__law_interval_mul
  intro ds q hl hg
  obtain ⟨kind, a, b, c, d, p, rfl, hab, hcd, hp, hp7, ba, bb, bc, bd, hq⟩ := hg
  have up : ∀ {x : Int} {m n : Nat}, intBits x ≤ m → m ≤ n → intBits x ≤ n := fun h h' => Nat.le_trans h h'
  show sSeq _ _ _ [some (.val (bxD a b c d)), some (.val (.str kind)), some (.val (.int p)), none, none, none, none, none, none]
  refine sq_i fun k hk => if_n fun T hT => ?_
  walk_at "rd"
  refine ⟨fun h => ?_, fun h => ?_⟩
  · subst hT
    unfold rootBox at hq
    rw [if_pos h] at hq
    walk_at "rd"
    refine ⟨_, _, _, rfl, hp, hp7, up ba (by decide), up bb (by decide), ?_⟩
    walk_at "rd"
    exact hq
  subst hk
  refine sq_i fun k hk => if_n fun T hT => ?_
  walk_at "rd"
  refine ⟨fun h2 => ?_, fun h2 => ?_⟩
  · subst hT
    unfold rootBox at hq
    rw [if_neg h, if_pos h2] at hq
    walk_at "rd"
    refine ⟨_, _, _, rfl, hp, hp7, up (intBits_neg_le bb) (by decide), up (intBits_neg_le ba) (by decide), ?_⟩
    walk_at "rd"
    exact hq
  obtain ⟨n, rfl⟩ : ∃ n : Nat, p = (n : Int) := ⟨p.toNat, by omega⟩
  rw [Int.toNat_natCast] at hq
  have hn : n ≤ 700 := by omega
  have q1 := mulLo_bits (n := n) ba bb ba bb
  have q2 := mulHi_bits (n := n) ba bb ba bb
  have q3 := mulLo_bits (n := n) bc bd bc bd
  have q4 := mulHi_bits (n := n) bc bd bc bd
  have b1 := intBits_add_le q1 q3
  have b2 := intBits_add_le q2 q4
  have b3 : intBits (sz0 a b c d n) ≤ 2600 := up (rLo_bits (n := n) b1) (by omega)
  have b4 : intBits (sz1 a b c d n) ≤ 2600 := up (rHi_bits (n := n) b2) (by omega)
  have a1 := intBits_add_le b3 ba
  have a2 := intBits_add_le b4 bb
  have a3 := intBits_add_le b3 (intBits_neg_le bb)
  have a4 := intBits_add_le b4 (intBits_neg_le ba)
  have hsz := sz_mono n hab hcd
  unfold rootBox at hq
  rw [if_neg h, if_neg h2] at hq
  subst hk
  refine sq_i fun k hk => ?_
  walk_at "rd"
  refine ⟨_, _, _, _, _, rfl, hp, up ba (by decide), up bb (by decide), up ba (by decide), up bb (by decide), ?_⟩
  walk_at "rd"
  subst hk
  refine sq_i fun k hk => ?_
  walk_at "rd"
  refine ⟨_, _, _, _, _, rfl, hp, up bc (by decide), up bd (by decide), up bc (by decide), up bd (by decide), ?_⟩
  walk_at "rd"
  subst hk
  refine sq_i fun k hk => ?_
  walk_at "rd"
  refine ⟨_, _, _, rfl, hp, hp7, up b1 (by decide), up b2 (by decide), ?_⟩
  rw [Int.toNat_natCast]
  have f0 : rLo (mulLo a b a b n + mulLo c d c d n) n = sz0 a b c d n := rfl
  have f1 : rHi (mulHi a b a b n + mulHi c d c d n) n = sz1 a b c d n := rfl
  rw [f0, f1]
  walk_at "rd"
  generalize hS0 : sz0 a b c d n = S0 at hq b3 a1 a3 hsz ⊢
  generalize hS1 : sz1 a b c d n = S1 at hq b4 a2 a4 hsz ⊢
  have e1 := hLo_bits (up a1 (show _ ≤ 2601 by decide)) (up a2 (show _ ≤ 2601 by decide))
  have e2 := hHi_bits (up a1 (show _ ≤ 2601 by decide)) (up a2 (show _ ≤ 2601 by decide))
  have e3 := hLo_bits (up a3 (show _ ≤ 2601 by decide)) (up a4 (show _ ≤ 2601 by decide))
  have e4 := hHi_bits (up a3 (show _ ≤ 2601 by decide)) (up a4 (show _ ≤ 2601 by decide))
  rw [hLo_eq (by omega)] at hq e1 e3
  rw [hHi_eq (by omega)] at hq e2 e4
  rw [hLo_eq (by omega)] at hq
  rw [hHi_eq (by omega)] at hq
  have p1 : (2 : Int) ^ 1 = 2 := by decide
  subst hk
  refine sq_i fun k hk => ?_
  walk_at "rd"
  rw [p1]
  refine ⟨by decide, by decide, ?_⟩
  subst hk
  refine sq_i fun k hk => ?_
  walk_at "rd"
  rw [p1, Int.sub_eq_add_neg, Int.sub_eq_add_neg]
  refine ⟨by decide, by decide, ?_⟩
  subst hk
  refine sq_i fun k hk => ?_
  walk_at "rd"
  refine ⟨_, _, _, rfl, hp, hp7, up e3 (by decide), up e4 (by decide), ?_⟩
  rw [Int.toNat_natCast]
  walk_at "rd"
  subst hk
  refine sq_i fun k hk => if_n fun T hT => ?_
  walk_at "rd"
  refine ⟨fun h3 => ?_, fun h3 => ?_⟩
  · subst hT
    rw [if_pos h3] at hq
    walk_at "rd"
    subst hk
    walk_at "rd"
    refine ⟨_, _, _, rfl, hp, hp7, up e1 (by decide), up e2 (by decide), ?_⟩
    walk_at "rd"
    exact hq
  · subst hk
    rw [if_neg h3] at hq
    walk_at "rd"
    refine ⟨_, _, _, rfl, hp, hp7, up e1 (by decide), up e2 (by decide), ?_⟩
    walk_at "rd"
    exact hq
end
end K04

namespace K04
open PySem PySem.Spec PyProof.Rows L2 DL Builtin.Int
local macro_rules | `(tactic| walk_at "rd") => `(tactic| simp -failIfUnchanged only [sSet, sSetL, sRet, sRetL, sRetO, sRetN, sNext, sBreak, sCont, sDrop, sApp, sAug, sAsg, sPar, sSetI, sPop, sRev, sFrz, frz1, iSeq, iRevD, iRange1, iRange2, iRangeD, rName, rTup, rCons, rNil,
  dLst, dView, tView, lView, view, look, dVar, bVar, dC, d2, d1, l2, tBool, dNil, dCons, dTup, gI, gSubI, gMulI, gFdiv, gMod, gPow, gShl, gShr, gAnd, gXor, gLt, gLe, gGt, gGe, gAdd, gEq, gNe, isNone, gIs, gIsNot, gNeg, lCat, gLen, gInt, gAbs, gMax2, gMin2, gTuple, lList, gGcd, gIsqrt, dCall, lCall, dIsi, dIsi2,
  tAndD, tOrD, tNotD, tTru, truD, dAndV, dOrV, dNotV, dIf, dBits, oNone, oSome, dSl, lSl, dFn, lFn, valD, tYesD, eqOk_ii, eqOk_bb, eqOk_ss, eqv_int, eqv_str, eqv_bool, noLst, noLstAll, List.map_cons, List.map_nil, Option.map_some, Option.map_none,
  List.getElem?_cons_zero, List.getElem?_cons_succ, List.set_cons_zero, List.set_cons_succ, true_and, and_true, decide_eq_true_eq, decide_eq_false_iff_not, Bool.not_eq_true', Bool.not_eq_false', beq_iff_eq, beq_eq_false_iff_ne, Bool.true_eq_false, Bool.false_eq_true, false_imp_iff, true_imp_iff, forall_const, reduceCtorEq, ne_eq, not_true_eq_false, not_false_eq_true, Bool.not_true, Bool.not_false, Bool.true_and, Bool.and_true, Bool.false_and, Bool.and_false, Int.reduceToNat, Int.cast_ofNat_Int, eq_self, isTy_none_int, isTy_none_bool, isTy_none_str, isTy_none_list, isTy_none_tuple, isTy_bool_int, isTy_bool_bool, isTy_bool_str, isTy_bool_list, isTy_bool_tuple, isTy_int_int, isTy_int_bool, isTy_int_str, isTy_int_list, isTy_int_tuple, isTy_str_int, isTy_str_bool, isTy_str_str, isTy_str_list, isTy_str_tuple, isTy_list_int, isTy_list_bool, isTy_list_str, isTy_list_list, isTy_list_tuple, isTy_tuple_int, isTy_tuple_bool, isTy_tuple_str, isTy_tuple_list, isTy_tuple_tuple, List.length_cons, List.length_nil, Nat.reduceAdd, Nat.zero_add, ix2_0, ix2_1,
  gIx_l0, gIx_t0, gIx_l1, gIx_t1, gIx_l2, gIx_t2, gIx_l3, gIx_t3, gIx_l4, gIx_t4, gIx_l5, gIx_t5, gIx_l6, gIx_t6, gIx_l7, gIx_t7, gIx_l8, gIx_t8, gIx_l9, gIx_t9, gIx_l10, gIx_t10, gIx_l11, gIx_t11, gIx_l12, gIx_t12, gIx_l13, gIx_t13, gIx_l14, gIx_t14, gIx_l15, gIx_t15])
section
variable {P : Program} {w : World} {K : Frag} {mg : Str → Option Value} {base : Heap}
abbrev s__law_floor_at : Stmt := topS 25
theorem sc__law_floor_at : FnScope ["top", "m", "places"] ["top", "m", "places"] (defScope s__law_floor_at) := ⟨rfl, rfl, rfl, by decide +kernel, rfl, by decide +kernel, by decide +kernel⟩
def f__law_floor_at : FD := fun ds q => ∃ (t m p : Int), ds = [.int t, .int m, .int p] ∧ 0 ≤ m ∧ 0 ≤ p ∧ p ≤ 1000 ∧ intBits t ≤ 20000 ∧ q (.val (.int (flo t m.toNat p.toNat)))
theorem ok__law_floor_at {f fd} {k : Nat} (F : Fun K "_law_floor_at" "_law_floor_at" s__law_floor_at f fd) (hdg : base.NoDigits) : FnG P w K mg base (k + 1) f fd ["top", "m", "places"] (SpD K 3 f__law_floor_at) := by
  refine fnD F sc__law_floor_at fun cdv A outer s H E gA hr => ?_
  have hu := hr.units
  have nd := sc__law_floor_at.nd
  refine ⟨_, (ss_cons (st_if (dt_cmp o_ge (bv 2) (bv 1)) (ss_one (st_ret (de_op o_shl (bv 0) (DE.toB (de_op o_sub (bv 2) (bv 1)))))) ss_nil)
    (ss_one (st_ret (de_op o_shr (bv 0) (DE.toB (de_op o_sub (bv 1) (bv 2))))))), ?_⟩
  clear F nd hu hr gA E H s outer A cdv hdg 
  intro ds q hl hg
  obtain ⟨t, m, p, rfl, hm, hp, hp2, bt, hq⟩ := hg
  unfold flo at hq
  show sSeq _ _ _ [some (.val (.int t)), some (.val (.int m)), some (.val (.int p))]
  refine sq_i fun k hk => if_n fun T hT => ?_
  walk_at "rd"
  refine ⟨fun h => ?_, fun h => ?_⟩
  · subst hT
    rw [if_pos (by omega), show p.toNat - m.toNat = (p - m).toNat by omega] at hq
    walk_at "rd"
    exact ⟨⟨⟨by omega, by omega⟩⟩, hq⟩
  · subst hk
    rw [if_neg (by omega), show m.toNat - p.toNat = (m - p).toNat by omega] at hq
    walk_at "rd"
    exact ⟨by omega, hq⟩
abbrev s__law_around : Stmt := topS 26
theorem sc__law_around : FnScope ["top", "m", "places", "slack", "low"] ["top", "m", "places", "slack"] (defScope s__law_around) := ⟨rfl, rfl, rfl, by decide +kernel, rfl, by decide +kernel, by decide +kernel⟩
def f__law_around : FD := fun ds q => ∃ (t m p s s' : Int), ds = [.int t, .int m, .int p, .list [.int s, .int s']] ∧ 0 ≤ m ∧ 0 ≤ p ∧ p ≤ 1000 ∧ intBits t ≤ 20000 ∧ q (.val (.tuple [.int (flo t m.toNat p.toNat - s), .int (flo t m.toNat p.toNat + 1 + s')]))
theorem ok__law_around {f fd} {k : Nat} (F : Fun K "_law_around" "_law_around" s__law_around f fd) (hdg : base.NoDigits) (r__law_floor_at : Ready P w K mg base "_law_floor_at" 3 k f__law_floor_at) : FnG P w K mg base (k + 1) f fd ["top", "m", "places", "slack"] (SpD K 4 f__law_around) := by
  refine fnD F sc__law_around fun cdv A outer s H E gA hr => ?_
  have hu := hr.units
  have nd := sc__law_around.nd
  refine ⟨_, (ss_cons (st_set (i := 4) nd (r__law_floor_at.toE gA hr (da_cons (dv 0) (da_cons (dv 1) (da_cons (dv 2) da_nil)))))
    (ss_one (st_ret (de_tup (da_cons (de_op o_sub (bv 4) (DE.toB (de_ix x_ix (bv 3) (DE.toB de_int)))) (da_cons (de_op o_add (DE.toB (de_op o_add (bv 4) (DE.toB de_int))) (DE.toB (de_ix x_ix (bv 3) (DE.toB de_int)))) da_nil)))))), ?_⟩
  clear F nd hu hr gA E H s outer A cdv hdg r__law_floor_at
  intro ds q hl hg
  obtain ⟨t, m, p, s, s', rfl, hm, hp, hp2, bt, hq⟩ := hg
  show sSeq _ _ _ [some (.val (.int t)), some (.val (.int m)), some (.val (.int p)), some (.val (.list [.int s, .int s'])), none]
  refine sq_i fun k hk => ?_
  walk_at "rd"
  refine ⟨_, _, _, rfl, hm, hp, hp2, bt, ?_⟩
  walk_at "rd"
  subst hk
  walk_at "rd"
  exact hq
abbrev s__law_holds : Stmt := topS 27
theorem sc__law_holds : FnScope ["interval", "top", "m", "places"] ["interval", "top", "m", "places"] (defScope s__law_holds) := ⟨rfl, rfl, rfl, by decide +kernel, rfl, by decide +kernel, by decide +kernel⟩
def f__law_holds : FD := fun ds q => ∃ (lo hi t m p : Int), ds = [.tuple [.int lo, .int hi], .int t, .int m, .int p] ∧ 0 ≤ m ∧ m ≤ 1000 ∧ 0 ≤ p ∧ p ≤ 1000 ∧ intBits t ≤ 20000 ∧ intBits lo ≤ 20000 ∧ intBits hi ≤ 20000 ∧ Hd lo hi t m.toNat p.toNat ∧ q (.val (.bool true))
theorem ok__law_holds {f fd} {k : Nat} (F : Fun K "_law_holds" "_law_holds" s__law_holds f fd) (hdg : base.NoDigits) : FnG P w K mg base (k + 1) f fd ["interval", "top", "m", "places"] (SpD K 4 f__law_holds) := by
  refine fnD F sc__law_holds fun cdv A outer s H E gA hr => ?_
  have hu := hr.units
  have nd := sc__law_holds.nd
  refine ⟨_, (ss_one (st_ret (de_and (de_cmp o_le (DE.toB (de_op o_shl (DE.toB (de_ix x_ix (bv 0) (DE.toB de_int))) (bv 2))) (DE.toB (de_op o_shl (bv 1) (bv 3)))) (de_one (de_cmp o_le (DE.toB (de_op o_shl (bv 1) (bv 3))) (DE.toB (de_op o_shl (DE.toB (de_ix x_ix (bv 0) (DE.toB de_int))) (bv 2)))))))), ?_⟩
  clear F nd hu hr gA E H s outer A cdv hdg 
  intro ds q hl hg
  obtain ⟨lo, hi, t, m, p, rfl, hm, hm2, hp, hp2, bt, bl, bh, ⟨h1, h2⟩, hq⟩ := hg
  show sRet _ _ [some (.val (.tuple [.int lo, .int hi])), some (.val (.int t)), some (.val (.int m)), some (.val (.int p))]
  walk_at "rd"
  refine ⟨⟨⟨hm, by omega⟩⟩, ⟨⟨hp, by omega⟩⟩, fun _ => ⟨⟨⟨hp, by omega⟩⟩, ⟨⟨hm, by omega⟩⟩, ?_⟩, fun h => absurd h1 h⟩
  rw [decide_eq_true h2]
  exact hq
abbrev s__law_kind : Stmt := topS 28
theorem sc__law_kind : FnScope ["u", "v"] ["u", "v"] (defScope s__law_kind) := ⟨rfl, rfl, rfl, by decide +kernel, rfl, by decide +kernel, by decide +kernel⟩
def f__law_kind : FD := fun ds q => ∃ (u v : Int), ds = [.int u, .int v] ∧ intBits u ≤ 20000 ∧ intBits v ≤ 20000 ∧ q (.val (.str (kindR u v)))
theorem ok__law_kind {f fd} {k : Nat} (F : Fun K "_law_kind" "_law_kind" s__law_kind f fd) (hdg : base.NoDigits) : FnG P w K mg base (k + 1) f fd ["u", "v"] (SpD K 2 f__law_kind) := by
  refine fnD F sc__law_kind fun cdv A outer s H E gA hr => ?_
  have hu := hr.units
  have nd := sc__law_kind.nd
  refine ⟨_, (ss_cons (st_if (DW.pt (dw_and (dt_cmp (o_ne hu) (bv 0) (DE.toB de_int)) (dw_and1 (dt_cmp (o_eq hu) (bv 1) (DE.toB de_int))))) (ss_one (st_ret de_str)) ss_nil)
    (ss_cons (st_if (dt_cmp (o_eq hu) (bv 0) (DE.toB de_int)) (ss_one (st_ret de_str)) ss_nil)
    (ss_cons (st_if (dt_cmp o_gt (DE.toB (de_op o_mul (bv 0) (bv 1))) (DE.toB de_int)) (ss_one (st_ret de_str)) ss_nil)
    (ss_one (st_ret de_str))))), ?_⟩
  clear F nd hu hr gA E H s outer A cdv hdg 
  intro ds q hl hg
  obtain ⟨u, v, rfl, bu, bv, hq⟩ := hg
  unfold kindR at hq
  show sSeq _ _ _ [some (.val (.int u)), some (.val (.int v))]
  refine sq_i fun k hk => if_n fun T hT => ?_
  walk_at "rd"
  have go : ¬ (u ≠ 0 ∧ v = 0) → k [some (.val (.int u)), some (.val (.int v))] := by
    intro h
    clear hT T
    rw [if_neg h] at hq
    subst hk
    refine sq_i fun k hk => if_n fun T hT => ?_
    walk_at "rd"
    refine ⟨fun h2 => ?_, fun h2 => ?_⟩
    · subst hT
      rw [if_pos h2] at hq
      walk_at "rd"
      exact hq
    · subst hk
      rw [if_neg h2] at hq
      refine sq_i fun k hk => if_n fun T hT => ?_
      walk_at "rd"
      refine ⟨MulOk.of_le bu bv (by decide), fun h3 => ?_, fun h3 => ?_⟩
      · subst hT
        rw [if_pos (by omega)] at hq
        walk_at "rd"
        exact hq
      · subst hk
        rw [if_neg (by omega)] at hq
        walk_at "rd"
        exact hq
  refine ⟨fun h1 => ⟨fun h2 => ?_, fun h2 => go fun c => h2 c.2⟩, fun h1 => go fun c => c.1 h1⟩
  subst hT
  rw [if_pos ⟨h1, h2⟩] at hq
  walk_at "rd"
  exact hq
abbrev s__law_is_box : Stmt := topS 29
theorem sc__law_is_box : FnScope ["told", "due", "part"] ["told", "due"] (defScope s__law_is_box) := ⟨rfl, rfl, rfl, by decide +kernel, rfl, by decide +kernel, by decide +kernel⟩
def f__law_is_box : FD := fun ds q => ∃ (a b c d : Int), ds = [bxD a b c d, bxD a b c d] ∧ q (.val (.bool true))
theorem ok__law_is_box {f fd} {k : Nat} (F : Fun K "_law_is_box" "_law_is_box" s__law_is_box f fd) (hdg : base.NoDigits) (m_isinstance : mg "isinstance" = none) (m_len : mg "len" = none) (m_tuple : mg "tuple" = none) (r__law_whole : Ready P w K mg base "_law_whole" 1 k f__law_whole) : FnG P w K mg base (k + 1) f fd ["told", "due"] (SpD K 2 f__law_is_box) := by
  refine fnD F sc__law_is_box fun cdv A outer s H E gA hr => ?_
  have hu := hr.units
  have nd := sc__law_is_box.nd
  refine ⟨_, (ss_cons (st_if (DW.pt (dw_or (dt_not (dt_val (de_isi ty_tuple m_isinstance m_tuple (bv 0)))) (dw_or1 (dt_cmp (o_ne hu) (DE.toB (de_B c_len m_len (ab_cons (bv 0) ab_nil))) (DE.toB de_int))))) (ss_one (st_ret de_bl)) ss_nil)
    (ss_cons (st_for (i_seq (dv 0)) (tg_name (i := 2) nd) (ss_one (st_if (DW.pt (dw_or (dt_not (dt_val (de_isi ty_tuple m_isinstance m_tuple (bv 2)))) (dw_or (dt_cmp (o_ne hu) (DE.toB (de_B c_len m_len (ab_cons (bv 2) ab_nil))) (DE.toB de_int)) (dw_or (dt_not (dt_val (r__law_whole.toE gA hr (da_cons (de_ix x_ix (bv 2) (DE.toB de_int)) da_nil)))) (dw_or1 (dt_not (dt_val (r__law_whole.toE gA hr (da_cons (de_ix x_ix (bv 2) (DE.toB de_int)) da_nil))))))))) (ss_one (st_ret de_bl)) ss_nil)))
    (ss_one (st_ret (de_cmp (o_eq hu) (bv 0) (bv 1)))))), ?_⟩
  clear F nd hu hr gA E H s outer A cdv hdg m_isinstance m_len m_tuple r__law_whole
  intro ds q hl hg
  obtain ⟨a, b, c, d, rfl, hq⟩ := hg
  show sSeq _ _ _ [some (.val (bxD a b c d)), some (.val (bxD a b c d)), none]
  refine sq_i fun k hk => if_n fun T hT => ?_
  walk_at "rd"
  clear hT T
  subst hk
  refine sq_i fun k hk => for_in fun W hW => ?_
  walk_at "rd"
  subst hW
  refine for_map (emb := fun x : Int × Int => .tuple [.int x.1, .int x.2]) (fun _ ρ => ∃ y, ρ = [some (.val (bxD a b c d)), some (.val (bxD a b c d)), y]) [(a, b), (c, d)] ⟨none, rfl⟩ ?_ ?_
  · rintro _ ⟨y, rfl⟩
    subst hk
    walk_at "rd"
    simpa [eqOk, PyData.eqv, PyData.eqvAll, SeqAt.shaped, PyData.canLay0, PyData.canLayAll0, PyData.depth, PyData.depthAll] using hq
  · rintro x r _ ⟨y, rfl⟩ k1 hk1
    refine if_n fun T hT => ?_
    walk_at "rd"
    refine ⟨_, rfl, ?_⟩
    simp only [wholeD]
    walk_at "rd"
    refine ⟨_, rfl, ?_⟩
    simp only [wholeD]
    walk_at "rd"
    exact hk1 _ ⟨_, rfl⟩
abbrev s__law_kinds_held : Stmt := topS 30
theorem sc__law_kinds_held : FnScope ["box", "found"] ["box"] (defScope s__law_kinds_held) := ⟨rfl, rfl, rfl, by decide +kernel, rfl, by decide +kernel, by decide +kernel⟩
def f__law_kinds_held : FD := fun ds q => ∃ (a b c d : Int), ds = [bxD a b c d] ∧ ∀ ks : List Str, q (.own (ks.map .str))
theorem ok__law_kinds_held {f fd} {k : Nat} (F : Fun K "_law_kinds_held" "_law_kinds_held" s__law_kinds_held f fd) (hdg : base.NoDigits) : FnG P w K mg base (k + 1) f fd ["box"] (SpD K 1 f__law_kinds_held) := by
  refine fnD F sc__law_kinds_held fun cdv A outer s H E gA hr => ?_
  have hu := hr.units
  have nd := sc__law_kinds_held.nd
  refine ⟨_, (ss_cons (st_setL (i := 1) nd (dl_lst da_nil))
    (ss_cons (st_if (DW.pt (dw_and (dt_cmp o_le (DE.toB (de_ix x_ix (DE.toB (de_ix x_ix (bv 0) (DE.toB de_int))) (DE.toB de_int))) (DE.toB de_int)) (dw_and1 (dt_cmp o_ge (DE.toB (de_ix x_ix (DE.toB (de_ix x_ix (bv 0) (DE.toB de_int))) (DE.toB de_int))) (DE.toB de_int))))) (ss_cons (st_if (dt_cmp o_gt (DE.toB (de_ix x_ix (DE.toB (de_ix x_ix (bv 0) (DE.toB de_int))) (DE.toB de_int))) (DE.toB de_int)) (ss_one (st_app (i := 1) de_str)) ss_nil)
    (ss_one (st_if (dt_cmp o_lt (DE.toB (de_ix x_ix (DE.toB (de_ix x_ix (bv 0) (DE.toB de_int))) (DE.toB de_int))) (DE.toB de_int)) (ss_one (st_app (i := 1) de_str)) ss_nil))) ss_nil)
    (ss_cons (st_if (dt_cmp o_gt (DE.toB (de_ix x_ix (DE.toB (de_ix x_ix (bv 0) (DE.toB de_int))) (DE.toB de_int))) (DE.toB de_int)) (ss_one (st_app (i := 1) de_str)) ss_nil)
    (ss_cons (st_if (dt_cmp o_lt (DE.toB (de_ix x_ix (DE.toB (de_ix x_ix (bv 0) (DE.toB de_int))) (DE.toB de_int))) (DE.toB de_int)) (ss_one (st_app (i := 1) de_str)) ss_nil)
    (ss_one (st_retO 1)))))), ?_⟩
  clear F nd hu hr gA E H s outer A cdv hdg 
  intro ds q hl hg
  obtain ⟨a, b, c, d, rfl, hq⟩ := hg
  show sSeq _ _ _ [some (.val (bxD a b c d)), none]
  refine sq_i fun k hk => ?_
  walk_at "rd"
  subst hk
  refine sj_iO 1 (fun l => ∃ ks : List Str, l = ks.map .str ∧ ks.length ≤ 2) ?_ fun k hk => if_n fun T hT => ?_
  · rintro _ ⟨ks, rfl, hl⟩
    refine sj_iO 1 (fun l => ∃ ks : List Str, l = ks.map .str ∧ ks.length ≤ 3) ?_ fun k hk => if_n fun T hT => ?_
    · rintro _ ⟨ks, rfl, hl⟩
      refine sj_iO 1 (fun l => ∃ ks : List Str, l = ks.map .str ∧ ks.length ≤ 4) ?_ fun k hk => if_n fun T hT => ?_
      · rintro _ ⟨ks, rfl, hl⟩
        walk_at "rd"
        exact hq ks
      · walk_at "rd"
        refine ⟨fun _ => ?_, fun _ => hk _ ⟨ks, rfl, by omega⟩⟩
        subst hT
        walk_at "rd"
        exact ⟨len63 (by simp; omega), hk _ ⟨ks ++ [_], by simp; rfl, by simp; omega⟩⟩
    · walk_at "rd"
      refine ⟨fun _ => ?_, fun _ => hk _ ⟨ks, rfl, by omega⟩⟩
      subst hT
      walk_at "rd"
      exact ⟨len63 (by simp; omega), hk _ ⟨ks ++ [_], by simp; rfl, by simp; omega⟩⟩
  · walk_at "rd"
    have e0 : k [some (.val (bxD a b c d)), some (.own [])] := hk _ ⟨[], rfl, by simp⟩
    refine ⟨fun _ => ⟨fun _ => ?_, fun _ => e0⟩, fun _ => e0⟩
    subst hT
    refine sj_iO 1 (fun l => ∃ ks : List Str, l = ks.map .str ∧ ks.length ≤ 1) ?_ fun k' hk' => if_n fun T hT => ?_
    · rintro _ ⟨ks, rfl, hl⟩
      refine if_n fun T hT => ?_
      walk_at "rd"
      refine ⟨fun _ => ?_, fun _ => hk _ ⟨ks, rfl, by omega⟩⟩
      subst hT
      walk_at "rd"
      exact ⟨len63 (by simp; omega), hk _ ⟨ks ++ [_], by simp; rfl, by simp; omega⟩⟩
    · walk_at "rd"
      refine ⟨fun _ => ?_, fun _ => hk' _ ⟨[], rfl, by simp⟩⟩
      subst hT
      walk_at "rd"
      exact ⟨len63 (by simp), hk' _ ⟨[_], by simp; rfl, by simp⟩⟩
abbrev s__law_lists : Stmt := topS 31
theorem sc__law_lists : FnScope ["box"] ["box"] (defScope s__law_lists) := ⟨rfl, rfl, rfl, by decide +kernel, rfl, by decide +kernel, by decide +kernel⟩
def f__law_lists : FD := fun ds q => ∃ (X : D) (a b c d : Int), ds = [X] ∧ Bx X a b c d ∧ q (.own [.list [.int a, .int b], .list [.int c, .int d]])
theorem ok__law_lists {f fd} {k : Nat} (F : Fun K "_law_lists" "_law_lists" s__law_lists f fd) (hdg : base.NoDigits) (m_list : mg "list" = none) : FnG P w K mg base (k + 1) f fd ["box"] (SpD K 1 f__law_lists) := by
  refine fnD F sc__law_lists fun cdv A outer s H E gA hr => ?_
  have hu := hr.units
  have nd := sc__law_lists.nd
  refine ⟨_, (ss_one (st_retL (dl_lst (da_cons (DLs.toE (dl_T c_list m_list (ab_cons (DE.toB (de_ix x_ix (bv 0) (DE.toB de_int))) ab_nil))) (da_cons (DLs.toE (dl_T c_list m_list (ab_cons (DE.toB (de_ix x_ix (bv 0) (DE.toB de_int))) ab_nil))) da_nil))))), ?_⟩
  clear F nd hu hr gA E H s outer A cdv hdg m_list
  intro ds q hl hg
  obtain ⟨X, a, b, c, d, rfl, ⟨P, Q, hX, hP, hQ⟩, hq⟩ := hg
  show sRetL _ _ [some (.val X)]
  rcases hX with rfl | rfl <;> rcases hP with rfl | rfl <;> rcases hQ with rfl | rfl <;> (walk_at "rd"; exact hq)
theorem sorted2 {ns : List Int} {a b : Int} (hp : ns.Perm [a, b]) (hs : ns.Pairwise (· ≤ ·)) : ns = [min a b, max a b] := by
  have hl := hp.length_eq
  match ns, hl with
  | [w, z], _ =>
    simp only [List.pairwise_cons, List.mem_cons, List.not_mem_nil, or_false, forall_eq_or_imp, forall_eq, List.Pairwise.nil, and_true] at hs
    have h1 : ∀ t, t ∈ [w, z] ↔ t ∈ [a, b] := fun t => hp.mem_iff
    simp only [List.mem_cons, List.not_mem_nil, or_false] at h1
    have ha := (h1 a).mpr (.inl rfl)
    have hb := (h1 b).mpr (.inr rfl)
    have hw := (h1 w).mp (.inl rfl)
    have hz := (h1 z).mp (.inr rfl)
    congr 1
    · omega
    · congr 1
      omega
def scI (t u : Int) (x : Int × Int) : D := .tuple [.int ((min (x.1 * t) (x.2 * t)).fdiv u), .int (-((-(max (x.1 * t) (x.2 * t))).fdiv u))]
abbrev s__law_scaled : Stmt := topS 32
theorem sc__law_scaled : FnScope ["one", "top", "bottom", "ends", "part", "pair"] ["one", "top", "bottom"] (defScope s__law_scaled) := ⟨rfl, rfl, rfl, by decide +kernel, rfl, by decide +kernel, by decide +kernel⟩
def f__law_scaled : FD := fun ds q => ∃ (a b c d t u : Int), ds = [bxD a b c d, .int t, .int u] ∧ 0 < u ∧ u < 2 ^ 30 ∧ (∀ x ∈ [a, b, c, d, t], intBits x ≤ 20000) ∧
  q (.val (bxD ((min (a * t) (b * t)).fdiv u) (-((-(max (a * t) (b * t))).fdiv u)) ((min (c * t) (d * t)).fdiv u) (-((-(max (c * t) (d * t))).fdiv u))))
theorem ok__law_scaled {f fd} {k : Nat} (F : Fun K "_law_scaled" "_law_scaled" s__law_scaled f fd) (hdg : base.NoDigits) (m_sorted : mg "sorted" = none) : FnG P w K mg base (k + 1) f fd ["one", "top", "bottom"] (SpD K 3 f__law_scaled) := by
  refine fnD F sc__law_scaled fun cdv A outer s H E gA hr => ?_
  have hu := hr.units
  have nd := sc__law_scaled.nd
  refine ⟨_, (ss_cons (st_setL (i := 3) nd (dl_lst da_nil))
    (ss_cons (st_for (i_seq (dv 0)) (tg_name (i := 4) nd) (ss_cons (st_set (i := 5) nd (DLs.toE (dl_B c_sorted m_sorted (ab_cons (DE.toB (DLs.toE (dl_lst (da_cons (de_op o_mul (DE.toB (de_ix x_ix (bv 4) (DE.toB de_int))) (bv 1)) (da_cons (de_op o_mul (DE.toB (de_ix x_ix (bv 4) (DE.toB de_int))) (bv 1)) da_nil))))) ab_nil))))
    (ss_one (st_app (i := 3) (de_tup (da_cons (de_op o_fdiv (DE.toB (de_ix x_ix (bv 5) (DE.toB de_int))) (bv 2)) (da_cons (de_un u_neg (DE.toB (de_op o_fdiv (DE.toB (de_un u_neg (DE.toB (de_ix x_ix (bv 5) (DE.toB de_int))))) (bv 2)))) da_nil)))))))
    (ss_one (st_ret (de_tup (da_cons (de_ix x_ix (bv 3) (DE.toB de_int)) (da_cons (de_ix x_ix (bv 3) (DE.toB de_int)) da_nil))))))), ?_⟩
  clear F nd hu hr gA E H s outer A cdv hdg m_sorted
  intro ds q hl hg
  obtain ⟨a, b, c, d, t, u, rfl, hu, hu2, hb, hq⟩ := hg
  simp only [List.mem_cons, List.not_mem_nil, or_false, forall_eq_or_imp, forall_eq] at hb
  obtain ⟨ba, bb, bc, bd, bt⟩ := hb
  show sSeq _ _ _ [some (.val (bxD a b c d)), some (.val (.int t)), some (.val (.int u)), none, none, none]
  refine sq_i fun k hk => ?_
  walk_at "rd"
  subst hk
  refine sq_i fun k hk => for_in fun W hW => ?_
  walk_at "rd"
  subst hW
  refine for_map (emb := fun x : Int × Int => .tuple [.int x.1, .int x.2]) (fun r ρ => (∀ x ∈ r, intBits x.1 ≤ 20000 ∧ intBits x.2 ≤ 20000) ∧ ∃ (l : List (Int × Int)) (y z : _), ρ = [some (.val (bxD a b c d)), some (.val (.int t)), some (.val (.int u)), some (.own (l.map (scI t u))), y, z] ∧ l ++ r = [(a, b), (c, d)]) [(a, b), (c, d)] ⟨by simp only [List.mem_cons, List.not_mem_nil, or_false, forall_eq_or_imp, forall_eq]; exact ⟨⟨ba, bb⟩, ⟨bc, bd⟩⟩, [], none, none, rfl, rfl⟩ ?_ ?_
  · rintro _ ⟨-, l, y, z, rfl, hl⟩
    subst hk
    rw [List.append_nil] at hl
    subst hl
    simp only [List.map_cons, List.map_nil, scI]
    walk_at "rd"
    exact hq
  · rintro x r _ ⟨hx, l, y, z, rfl, hl⟩ k1 hk1
    have hx1 := hx x List.mem_cons_self
    refine sq_i fun k hk => ?_
    walk_at "rd"
    refine ⟨MulOk.of_le hx1.1 bt (by decide), MulOk.of_le hx1.2 bt (by decide), [_, _], rfl, by simp, fun ns' h1 h2 => ?_⟩
    obtain rfl := sorted2 h1 h2
    subst hk
    walk_at "rd"
    have := congrArg List.length hl
    simp at this
    refine ⟨by rw [List.length_map]; exact len63 (by omega), div_small hu hu2, div_small hu hu2, hk1 _ ⟨fun y hy => hx y (List.mem_cons_of_mem _ hy), l ++ [x], _, _, by simp only [List.map_append, List.map_cons, List.map_nil, scI]; rfl, by simp [hl]⟩⟩
theorem abs_fmod {c m : Int} {k : Int} (h : 0 < m) (hk : m ≤ k) : 0 ≤ c.fmod m ∧ c.fmod m < k := by
  have := fmod_pos (a := c) h
  omega
abbrev bxL (a b c d : Int) : D := .list [.list [.int a, .int b], .list [.int c, .int d]]
theorem Bx.t (a b c d : Int) : Bx (bxD a b c d) a b c d := ⟨_, _, .inl rfl, .inl rfl, .inl rfl⟩
theorem Bx.l (a b c d : Int) : Bx (bxL a b c d) a b c d := ⟨_, _, .inr rfl, .inr rfl, .inr rfl⟩
theorem gRepr_box {a b c d : Int} {q : D → Prop} (ha : intBits a ≤ 12000) (hb : intBits b ≤ 12000) (hc : intBits c ≤ 12000) (hd : intBits d ≤ 12000) (hq : q (.str (PyData.shown (bxL a b c d)))) : gRepr [bxL a b c d] q :=
  ⟨⟨rfl, by simp [rpD, rpAll, big_bits ha (by decide), big_bits hb (by decide), big_bits hc (by decide), big_bits hd (by decide)], by simp [cells, cellsAll], by simp [PyData.depth, PyData.depthAll]⟩, hq⟩
theorem gRepr_box2 {a b c d e f g h : Int} {q : D → Prop} (hb : ∀ x ∈ [a, b, c, d, e, f, g, h], intBits x ≤ 12000) (hq : q (.str (PyData.shown (.list [bxL a b c d, bxL e f g h])))) : gRepr [.list [bxL a b c d, bxL e f g h]] q := by
  simp only [List.mem_cons, List.not_mem_nil, or_false, forall_eq_or_imp, forall_eq] at hb
  obtain ⟨ba, bb, bc, bd, be, bf, bg, bh⟩ := hb
  exact ⟨⟨rfl, by simp [rpD, rpAll, big_bits ba (by decide), big_bits bb (by decide), big_bits bc (by decide), big_bits bd (by decide), big_bits be (by decide), big_bits bf (by decide), big_bits bg (by decide), big_bits bh (by decide)], by simp [cells, cellsAll], by simp [PyData.depth, PyData.depthAll]⟩, hq⟩
theorem flo_bits {t : Int} {m p k : Nat} (h : intBits t ≤ k) (hp : p ≤ 600) : intBits (flo t m p) ≤ k + 601 := by
  unfold flo
  split
  · exact Nat.le_trans (bits_shl h) (by omega)
  · rw [← Int.fdiv_eq_ediv_of_nonneg _ (Int.le_of_lt (two_pow_pos' _))]
    exact Nat.le_trans (intBits_fdiv_le h) (by omega)
/-- the ends of a box around t -/
theorem around_facts {t s s' : Int} {m p k : Nat} (ht : intBits t ≤ k) (hk : 90 ≤ k) (hp : p ≤ 600) (h : 0 ≤ s ∧ s ≤ 10 ^ 25) (h' : 0 ≤ s' ∧ s' ≤ 10 ^ 25) :
    ∃ a b, a = flo t m p - s ∧ b = flo t m p + 1 + s' ∧ a ≤ b ∧ intBits a ≤ k + 603 ∧ intBits b ≤ k + 603 ∧ Hd a b t m p := by
  have b0 := flo_bits (m := m) ht hp
  have b1 : intBits s ≤ k + 601 := Nat.le_trans (bits_lt (k := 90) (by omega) (by omega)) (by omega)
  have b2 : intBits s' ≤ k + 601 := Nat.le_trans (bits_lt (k := 90) (by omega) (by omega)) (by omega)
  have b3 : intBits 1 ≤ k + 601 := Nat.le_trans (show intBits 1 ≤ 1 by decide) (by omega)
  refine ⟨_, _, rfl, rfl, by omega, ?_, ?_, hd_around h.1 h'.1⟩
  · rw [Int.sub_eq_add_neg]
    exact Nat.le_trans (intBits_add_le b0 (intBits_neg_le b1)) (by omega)
  · have z := intBits_add_le (intBits_add_le b0 b3) b2
    rw [Nat.max_self] at z
    exact Nat.le_trans z (by omega)
end
end K04

namespace K04
open PySem PySem.Spec PyProof.Rows L2 DL Builtin.Int
local macro_rules | `(tactic| walk_at "rd") => `(tactic| simp -failIfUnchanged only [sSet, sSetL, sRet, sRetL, sRetO, sRetN, sNext, sBreak, sCont, sDrop, sApp, sAug, sAsg, sPar, sSetI, sPop, sRev, sFrz, frz1, iSeq, iRevD, iRange1, iRange2, iRangeD, rName, rTup, rCons, rNil,
  dLst, dView, tView, lView, view, look, dVar, bVar, dC, d2, d1, l2, tBool, dNil, dCons, dTup, gI, gSubI, gMulI, gFdiv, gMod, gPow, gShl, gShr, gAnd, gXor, gLt, gLe, gGt, gGe, gAdd, gEq, gNe, isNone, gIs, gIsNot, gNeg, lCat, gLen, gInt, gAbs, gMax2, gMin2, gTuple, lList, gGcd, gIsqrt, dCall, lCall, dIsi, dIsi2,
  tAndD, tOrD, tNotD, tTru, truD, dAndV, dOrV, dNotV, dIf, dBits, oNone, oSome, dSl, lSl, dFn, lFn, valD, tYesD, eqOk_ii, eqOk_bb, eqOk_ss, eqv_int, eqv_str, eqv_bool, noLst, noLstAll, List.map_cons, List.map_nil, Option.map_some, Option.map_none,
  List.getElem?_cons_zero, List.getElem?_cons_succ, List.set_cons_zero, List.set_cons_succ, true_and, and_true, decide_eq_true_eq, decide_eq_false_iff_not, Bool.not_eq_true', Bool.not_eq_false', beq_iff_eq, beq_eq_false_iff_ne, Bool.true_eq_false, Bool.false_eq_true, false_imp_iff, true_imp_iff, forall_const, reduceCtorEq, ne_eq, not_true_eq_false, not_false_eq_true, Bool.not_true, Bool.not_false, Bool.true_and, Bool.and_true, Bool.false_and, Bool.and_false, Int.reduceToNat, Int.cast_ofNat_Int, eq_self, isTy_none_int, isTy_none_bool, isTy_none_str, isTy_none_list, isTy_none_tuple, isTy_bool_int, isTy_bool_bool, isTy_bool_str, isTy_bool_list, isTy_bool_tuple, isTy_int_int, isTy_int_bool, isTy_int_str, isTy_int_list, isTy_int_tuple, isTy_str_int, isTy_str_bool, isTy_str_str, isTy_str_list, isTy_str_tuple, isTy_list_int, isTy_list_bool, isTy_list_str, isTy_list_list, isTy_list_tuple, isTy_tuple_int, isTy_tuple_bool, isTy_tuple_str, isTy_tuple_list, isTy_tuple_tuple, List.length_cons, List.length_nil, Nat.reduceAdd, Nat.zero_add, ix2_0, ix2_1,
  gIx_l0, gIx_t0, gIx_l1, gIx_t1, gIx_l2, gIx_t2, gIx_l3, gIx_t3, gIx_l4, gIx_t4, gIx_l5, gIx_t5, gIx_l6, gIx_t6, gIx_l7, gIx_t7, gIx_l8, gIx_t8, gIx_l9, gIx_t9, gIx_l10, gIx_t10, gIx_l11, gIx_t11, gIx_l12, gIx_t12, gIx_l13, gIx_t13, gIx_l14, gIx_t14, gIx_l15, gIx_t15])
section
variable {P : Program} {w : World} {K : Frag} {mg : Str → Option Value} {base : Heap}
abbrev s_law : Stmt := topS 33
theorem sc_law : FnScope ["script", "row", "m", "places", "size", "u", "v", "slacks", "slack", "square", "box", "kind", "passed", "told", "held", "a", "b", "other", "one", "product", "top", "bottom"] ["script"] (defScope s_law) := ⟨rfl, rfl, rfl, by decide +kernel, rfl, by decide +kernel, by decide +kernel⟩
def f_law : FD := fun ds q => ∃ ns : List Int, ds = [.list (ns.map .int)] ∧ (∀ i ∈ ns, intBits i ≤ 1048576) ∧ q (.val (.bool true))
theorem ok_law {f fd} {k : Nat} (F : Fun K "law" "law" s_law f fd) (hdg : base.NoDigits) (m_abs : mg "abs" = none) (m_int : mg "int" = none) (m_repr : mg "repr" = none) (r__law_digits : Ready P w K mg base "_law_digits" 2 k f__law_digits) (r__law_cell : Ready P w K mg base "_law_cell" 2 k f__law_cell) (r__law_around : Ready P w K mg base "_law_around" 4 k f__law_around) (r__law_kind : Ready P w K mg base "_law_kind" 2 k f__law_kind) (r__law_lists : Ready P w K mg base "_law_lists" 1 k f__law_lists) (r_root_box : Ready P w K mg base "root_box" 3 k f_root_box) (r__law_is_box : Ready P w K mg base "_law_is_box" 2 k f__law_is_box) (r__law_box_root : Ready P w K mg base "_law_box_root" 3 k f__law_box_root) (r__law_holds : Ready P w K mg base "_law_holds" 4 k f__law_holds) (r__law_kinds_held : Ready P w K mg base "_law_kinds_held" 1 k f__law_kinds_held) (r_multiply_boxes : Ready P w K mg base "multiply_boxes" 3 k f_multiply_boxes) (r__law_box_mul : Ready P w K mg base "_law_box_mul" 3 k f__law_box_mul) (r__law_box_add : Ready P w K mg base "_law_box_add" 2 k f__law_box_add) (r_add_boxes : Ready P w K mg base "add_boxes" 2 k f_add_boxes) (r_negate_box : Ready P w K mg base "negate_box" 1 k f_negate_box) (r__law_scaled : Ready P w K mg base "_law_scaled" 3 k f__law_scaled) (r_scale_box : Ready P w K mg base "scale_box" 3 k f_scale_box) : FnG P w K mg base (k + 1) f fd ["script"] (SpD K 1 f_law) := by
  refine fnD F sc_law fun cdv A outer s H E gA hr => ?_
  have hu := hr.units
  have nd := sc_law.nd
  refine ⟨_, (ss_cons (st_set (i := 1) nd (r__law_digits.toE gA hr (da_cons (r__law_cell.toE gA hr (da_cons (dv 0) (da_cons de_int da_nil))) (da_cons (DLs.toE (dl_lst (da_cons de_int (da_cons de_int (da_cons de_int (da_cons de_int (da_cons de_int (da_cons de_int (da_cons de_int (da_cons de_int (da_cons de_int da_nil))))))))))) da_nil))))
    (ss_cons (st_set (i := 2) nd (de_ix x_ix (bv 1) (DE.toB de_int)))
    (ss_cons (st_set (i := 3) nd (de_ix x_ix (bv 1) (DE.toB de_int)))
    (ss_cons (st_if (dt_cmp o_gt (bv 3) (DE.toB de_int)) (ss_one (st_set (i := 3) nd (de_op o_mul (DE.toB de_int) (DE.toB (de_op o_sub (bv 3) (DE.toB de_int)))))) ss_nil)
    (ss_cons (st_set (i := 4) nd (de_ix x_ix (DE.toB (DLs.toE (dl_lst (da_cons de_int (da_cons de_int (da_cons (de_op o_pow (DE.toB de_int) (DE.toB de_int)) (da_cons (de_op o_pow (DE.toB de_int) (DE.toB de_int)) da_nil))))))) (DE.toB (de_ix x_ix (bv 1) (DE.toB de_int)))))
    (ss_cons (st_set (i := 5) nd (de_op o_add (DE.toB de_int) (DE.toB (de_op o_mod (DE.toB (de_T c_int m_int (ab_cons (DE.toB (r__law_cell.toE gA hr (da_cons (dv 0) (da_cons de_int da_nil)))) ab_nil))) (bv 4)))))
    (ss_cons (st_set (i := 6) nd (de_op o_sub (DE.toB (de_op o_mod (DE.toB (de_T c_int m_int (ab_cons (DE.toB (r__law_cell.toE gA hr (da_cons (dv 0) (da_cons de_int da_nil)))) ab_nil))) (DE.toB (de_op o_mul (DE.toB de_int) (bv 4))))) (bv 4)))
    (ss_cons (st_if (dt_cmp (o_eq hu) (DE.toB (de_ix x_ix (bv 1) (DE.toB de_int))) (DE.toB de_int)) (ss_one (st_set (i := 6) nd de_int)) ss_nil)
    (ss_cons (st_if (dt_cmp (o_eq hu) (DE.toB (de_ix x_ix (bv 1) (DE.toB de_int))) (DE.toB de_int)) (ss_cons (st_set (i := 5) nd de_int)
    (ss_one (st_set (i := 6) nd (de_op o_add (DE.toB de_int) (DE.toB (de_B c_abs m_abs (ab_cons (bv 6) ab_nil))))))) ss_nil)
    (ss_cons (st_set (i := 7) nd (DLs.toE (dl_lst (da_cons de_int (da_cons de_int (da_cons de_int (da_cons (de_op o_pow (DE.toB de_int) (DE.toB de_int)) (da_cons (de_op o_pow (DE.toB de_int) (DE.toB de_int)) da_nil))))))))
    (ss_cons (st_set (i := 8) nd (DLs.toE (dl_lst (da_cons (DLs.toE (dl_lst (da_cons (de_ix x_ix (bv 7) (DE.toB (de_ix x_ix (bv 1) (DE.toB de_int)))) (da_cons (de_ix x_ix (bv 7) (DE.toB (de_ix x_ix (bv 1) (DE.toB de_int)))) da_nil)))) (da_cons (DLs.toE (dl_lst (da_cons (de_ix x_ix (bv 7) (DE.toB (de_ix x_ix (bv 1) (DE.toB de_int)))) (da_cons (de_ix x_ix (bv 7) (DE.toB (de_ix x_ix (bv 1) (DE.toB de_int)))) da_nil)))) da_nil)))))
    (ss_cons (st_set (i := 9) nd (de_tup (da_cons (de_op o_sub (DE.toB (de_op o_mul (bv 5) (bv 5))) (DE.toB (de_op o_mul (bv 6) (bv 6)))) (da_cons (de_op o_mul (DE.toB (de_op o_mul (DE.toB de_int) (bv 5))) (bv 6)) da_nil))))
    (ss_cons (st_set (i := 10) nd (de_tup (da_cons (r__law_around.toE gA hr (da_cons (de_ix x_ix (bv 9) (DE.toB de_int)) (da_cons (de_op o_mul (DE.toB de_int) (bv 2)) (da_cons (dv 3) (da_cons (de_ix x_ix (bv 8) (DE.toB de_int)) da_nil))))) (da_cons (r__law_around.toE gA hr (da_cons (de_ix x_ix (bv 9) (DE.toB de_int)) (da_cons (de_op o_mul (DE.toB de_int) (bv 2)) (da_cons (dv 3) (da_cons (de_ix x_ix (bv 8) (DE.toB de_int)) da_nil))))) da_nil))))
    (ss_cons (st_set (i := 11) nd (r__law_kind.toE gA hr (da_cons (dv 5) (da_cons (dv 6) da_nil))))
    (ss_cons (st_set (i := 12) nd (r__law_lists.toE gA hr (da_cons (dv 10) da_nil)))
    (ss_cons (st_set (i := 13) nd (r_root_box.toE gA hr (da_cons (dv 12) (da_cons (dv 11) (da_cons (dv 3) da_nil)))))
    (ss_cons (st_if (DW.pt (dw_or (dt_not (dt_val (r__law_is_box.toE gA hr (da_cons (dv 13) (da_cons (r__law_box_root.toE gA hr (da_cons (dv 10) (da_cons (dv 11) (da_cons (dv 3) da_nil)))) da_nil))))) (dw_or1 (dt_cmp (o_ne hu) (DE.toB (de_B (c_repr hdg gA hu) m_repr (ab_cons (bv 12) ab_nil))) (DE.toB (de_B (c_repr hdg gA hu) m_repr (ab_cons (DE.toB (r__law_lists.toE gA hr (da_cons (dv 10) da_nil))) ab_nil))))))) (ss_one (st_ret de_bl)) ss_nil)
    (ss_cons (st_if (DW.pt (dw_or (dt_not (dt_val (r__law_holds.toE gA hr (da_cons (de_ix x_ix (bv 13) (DE.toB de_int)) (da_cons (dv 5) (da_cons (dv 2) (da_cons (dv 3) da_nil))))))) (dw_or1 (dt_not (dt_val (r__law_holds.toE gA hr (da_cons (de_ix x_ix (bv 13) (DE.toB de_int)) (da_cons (dv 6) (da_cons (dv 2) (da_cons (dv 3) da_nil)))))))))) (ss_one (st_ret de_bl)) ss_nil)
    (ss_cons (st_for (i_seq (r__law_kinds_held.toE gA hr (da_cons (dv 10) da_nil))) (tg_name (i := 14) nd) (ss_cons (st_if (dt_not (dt_val (r__law_is_box.toE gA hr (da_cons (r_root_box.toE gA hr (da_cons (dv 10) (da_cons (dv 14) (da_cons (dv 3) da_nil)))) (da_cons (r__law_box_root.toE gA hr (da_cons (dv 10) (da_cons (dv 14) (da_cons (dv 3) da_nil)))) da_nil))))) (ss_one (st_ret de_bl)) ss_nil)
    (ss_one (st_if (dt_not (dt_val (r__law_is_box.toE gA hr (da_cons (r_root_box.toE gA hr (da_cons (dv 12) (da_cons (dv 14) (da_cons (de_op o_add (bv 3) (DE.toB de_int)) da_nil)))) (da_cons (r__law_box_root.toE gA hr (da_cons (dv 10) (da_cons (dv 14) (da_cons (de_op o_add (bv 3) (DE.toB de_int)) da_nil)))) da_nil))))) (ss_one (st_ret de_bl)) ss_nil))))
    (ss_cons (st_set (i := 15) nd (de_op o_sub (DE.toB (de_op o_mod (DE.toB (de_T c_int m_int (ab_cons (DE.toB (r__law_cell.toE gA hr (da_cons (dv 0) (da_cons de_int da_nil)))) ab_nil))) (DE.toB (de_op o_mul (DE.toB de_int) (bv 4))))) (bv 4)))
    (ss_cons (st_set (i := 16) nd (de_op o_sub (DE.toB (de_op o_mod (DE.toB (de_T c_int m_int (ab_cons (DE.toB (r__law_cell.toE gA hr (da_cons (dv 0) (da_cons de_int da_nil)))) ab_nil))) (DE.toB (de_op o_mul (DE.toB de_int) (bv 4))))) (bv 4)))
    (ss_cons (st_set (i := 17) nd (de_tup (da_cons (r__law_around.toE gA hr (da_cons (dv 15) (da_cons (dv 2) (da_cons (dv 3) (da_cons (de_ix x_ix (bv 8) (DE.toB de_int)) da_nil))))) (da_cons (r__law_around.toE gA hr (da_cons (dv 16) (da_cons (dv 2) (da_cons (dv 3) (da_cons (de_ix x_ix (bv 8) (DE.toB de_int)) da_nil))))) da_nil))))
    (ss_cons (st_set (i := 18) nd (de_tup (da_cons (r__law_around.toE gA hr (da_cons (dv 5) (da_cons (dv 2) (da_cons (dv 3) (da_cons (de_ix x_ix (bv 8) (DE.toB de_int)) da_nil))))) (da_cons (r__law_around.toE gA hr (da_cons (dv 6) (da_cons (dv 2) (da_cons (dv 3) (da_cons (de_ix x_ix (bv 8) (DE.toB de_int)) da_nil))))) da_nil))))
    (ss_cons (st_set (i := 12) nd (DLs.toE (dl_lst (da_cons (dv 18) (da_cons (dv 17) da_nil)))))
    (ss_cons (st_if (dt_cmp (o_eq hu) (DE.toB (de_ix x_ix (bv 1) (DE.toB de_int))) (DE.toB de_int)) (ss_one (st_set (i := 12) nd (DLs.toE (dl_lst (da_cons (r__law_lists.toE gA hr (da_cons (dv 18) da_nil)) (da_cons (r__law_lists.toE gA hr (da_cons (dv 17) da_nil)) da_nil)))))) ss_nil)
    (ss_cons (st_set (i := 19) nd (r_multiply_boxes.toE gA hr (da_cons (de_ix x_ix (bv 12) (DE.toB de_int)) (da_cons (de_ix x_ix (bv 12) (DE.toB de_int)) (da_cons (dv 3) da_nil)))))
    (ss_cons (st_if (dt_not (dt_val (r__law_is_box.toE gA hr (da_cons (dv 19) (da_cons (r__law_box_mul.toE gA hr (da_cons (dv 18) (da_cons (dv 17) (da_cons (dv 3) da_nil)))) da_nil))))) (ss_one (st_ret de_bl)) ss_nil)
    (ss_cons (st_if (DW.pt (dw_or (dt_not (dt_val (r__law_holds.toE gA hr (da_cons (de_ix x_ix (bv 19) (DE.toB de_int)) (da_cons (de_op o_sub (DE.toB (de_op o_mul (bv 5) (bv 15))) (DE.toB (de_op o_mul (bv 6) (bv 16)))) (da_cons (de_op o_mul (DE.toB de_int) (bv 2)) (da_cons (dv 3) da_nil))))))) (dw_or1 (dt_not (dt_val (r__law_holds.toE gA hr (da_cons (de_ix x_ix (bv 19) (DE.toB de_int)) (da_cons (de_op o_add (DE.toB (de_op o_mul (bv 5) (bv 16))) (DE.toB (de_op o_mul (bv 6) (bv 15)))) (da_cons (de_op o_mul (DE.toB de_int) (bv 2)) (da_cons (dv 3) da_nil)))))))))) (ss_one (st_ret de_bl)) ss_nil)
    (ss_cons (st_if (dt_not (dt_val (r__law_is_box.toE gA hr (da_cons (r_multiply_boxes.toE gA hr (da_cons (de_ix x_ix (bv 12) (DE.toB de_int)) (da_cons (de_ix x_ix (bv 12) (DE.toB de_int)) (da_cons (de_op o_add (bv 3) (DE.toB de_int)) da_nil)))) (da_cons (r__law_box_mul.toE gA hr (da_cons (dv 18) (da_cons (dv 17) (da_cons (de_op o_add (bv 3) (DE.toB de_int)) da_nil)))) da_nil))))) (ss_one (st_ret de_bl)) ss_nil)
    (ss_cons (st_if (dt_not (dt_val (r__law_is_box.toE gA hr (da_cons (r_add_boxes.toE gA hr (da_cons (de_ix x_ix (bv 12) (DE.toB de_int)) (da_cons (de_ix x_ix (bv 12) (DE.toB de_int)) da_nil))) (da_cons (r__law_box_add.toE gA hr (da_cons (dv 18) (da_cons (dv 17) da_nil))) da_nil))))) (ss_one (st_ret de_bl)) ss_nil)
    (ss_cons (st_if (dt_not (dt_val (r__law_is_box.toE gA hr (da_cons (r_negate_box.toE gA hr (da_cons (de_ix x_ix (bv 12) (DE.toB de_int)) da_nil)) (da_cons (de_tup (da_cons (de_tup (da_cons (de_un u_neg (DE.toB (de_ix x_ix (DE.toB (de_ix x_ix (bv 18) (DE.toB de_int))) (DE.toB de_int)))) (da_cons (de_un u_neg (DE.toB (de_ix x_ix (DE.toB (de_ix x_ix (bv 18) (DE.toB de_int))) (DE.toB de_int)))) da_nil))) (da_cons (de_tup (da_cons (de_un u_neg (DE.toB (de_ix x_ix (DE.toB (de_ix x_ix (bv 18) (DE.toB de_int))) (DE.toB de_int)))) (da_cons (de_un u_neg (DE.toB (de_ix x_ix (DE.toB (de_ix x_ix (bv 18) (DE.toB de_int))) (DE.toB de_int)))) da_nil))) da_nil))) da_nil))))) (ss_one (st_ret de_bl)) ss_nil)
    (ss_cons (st_set (i := 20) nd (de_op o_sub (DE.toB (de_op o_mod (DE.toB (de_T c_int m_int (ab_cons (DE.toB (r__law_cell.toE gA hr (da_cons (dv 0) (da_cons de_int da_nil)))) ab_nil))) (DE.toB de_int))) (DE.toB de_int)))
    (ss_cons (st_set (i := 21) nd (de_op o_add (DE.toB de_int) (DE.toB (de_op o_mod (DE.toB (de_T c_int m_int (ab_cons (DE.toB (r__law_cell.toE gA hr (da_cons (dv 0) (da_cons de_int da_nil)))) ab_nil))) (DE.toB de_int)))))
    (ss_cons (st_if (dt_not (dt_val (r__law_is_box.toE gA hr (da_cons (r_scale_box.toE gA hr (da_cons (de_ix x_ix (bv 12) (DE.toB de_int)) (da_cons (dv 20) (da_cons (dv 21) da_nil)))) (da_cons (r__law_scaled.toE gA hr (da_cons (dv 18) (da_cons (dv 20) (da_cons (dv 21) da_nil)))) da_nil))))) (ss_one (st_ret de_bl)) ss_nil)
    (ss_cons (st_if (dt_not (dt_val (r__law_is_box.toE gA hr (da_cons (r_scale_box.toE gA hr (da_cons (de_ix x_ix (bv 12) (DE.toB de_int)) (da_cons (de_op o_sub (DE.toB de_int) (bv 20)) (da_cons (de_op o_add (bv 21) (DE.toB de_int)) da_nil)))) (da_cons (r__law_scaled.toE gA hr (da_cons (dv 18) (da_cons (de_op o_sub (DE.toB de_int) (bv 20)) (da_cons (de_op o_add (bv 21) (DE.toB de_int)) da_nil)))) da_nil))))) (ss_one (st_ret de_bl)) ss_nil)
    (ss_one (st_ret (de_cmp (o_eq hu) (DE.toB (de_B (c_repr hdg gA hu) m_repr (ab_cons (DE.toB (DLs.toE (dl_lst (da_cons (r__law_lists.toE gA hr (da_cons (de_ix x_ix (bv 12) (DE.toB de_int)) da_nil)) (da_cons (r__law_lists.toE gA hr (da_cons (de_ix x_ix (bv 12) (DE.toB de_int)) da_nil)) da_nil))))) ab_nil))) (DE.toB (de_B (c_repr hdg gA hu) m_repr (ab_cons (DE.toB (DLs.toE (dl_lst (da_cons (r__law_lists.toE gA hr (da_cons (dv 18) da_nil)) (da_cons (r__law_lists.toE gA hr (da_cons (dv 17) da_nil)) da_nil))))) ab_nil))))))))))))))))))))))))))))))))))))))))), ?_⟩
  clear F nd hu hr gA E H s outer A cdv hdg m_abs m_int m_repr r__law_digits r__law_cell r__law_around r__law_kind r__law_lists r_root_box r__law_is_box r__law_box_root r__law_holds r__law_kinds_held r_multiply_boxes r__law_box_mul r__law_box_add r_add_boxes r_negate_box r__law_scaled r_scale_box
  intro ds q hl hg
  obtain ⟨ns, rfl, hb, hq⟩ := hg
  have up : ∀ {x : Int} {m n : Nat}, intBits x ≤ m → m ≤ n → intBits x ≤ n := fun h h' => Nat.le_trans h h'
  show sSeq _ _ _ [some (.val (.list (ns.map .int))), none, none, none, none, none, none, none, none, none, none, none, none, none, none, none, none, none, none, none, none, none]
  refine sq_i fun k hk => ?_
  walk_at "rd"
  refine ⟨ns, 0, rfl, by decide, hb, fun c0 _ => ?_⟩
  walk_at "rd"
  refine ⟨c0, [4, 20, 72, 5, 5, 5, 5, 2, 4], rfl, by decide, by decide, fun rs hrs => ?_⟩
  obtain ⟨r0, _, rfl, a0, hrs⟩ := hrs.cons
  obtain ⟨r1, _, rfl, a1, hrs⟩ := hrs.cons
  obtain ⟨r2, _, rfl, a2, hrs⟩ := hrs.cons
  obtain ⟨r3, _, rfl, a3, hrs⟩ := hrs.cons
  obtain ⟨r4, _, rfl, a4, hrs⟩ := hrs.cons
  obtain ⟨r5, _, rfl, a5, hrs⟩ := hrs.cons
  obtain ⟨r6, _, rfl, a6, hrs⟩ := hrs.cons
  obtain ⟨r7, _, rfl, a7, hrs⟩ := hrs.cons
  obtain ⟨r8, _, rfl, a8, hrs⟩ := hrs.cons
  obtain rfl := hrs.nil
  walk_at "rd"
  subst hk
  refine sq_i fun k hk => ?_
  walk_at "rd"
  subst hk
  refine sq_i fun k hk => ?_
  walk_at "rd"
  subst hk
  refine sj_i 3 (fun d => ∃ p : Nat, d = .int p ∧ p ≤ 600) ?_ fun k hk => if_n fun T hT => ?_
  rotate_left
  · walk_at "rd"
    refine ⟨fun h => ?_, fun h => hk (.int r2) ⟨r2.toNat, by congr 1; omega, by omega⟩⟩
    subst hT
    walk_at "rd"
    exact ⟨mul_l (by decide) (by decide), hk _ ⟨(300 * (r2 - 69)).toNat, by congr 1; omega, by omega⟩⟩
  rintro _ ⟨p, rfl, hp⟩
  walk_at "rd"
  obtain ⟨m, rfl⟩ : ∃ m : Nat, r1 = (m : Int) := ⟨r1.toNat, by omega⟩
  have hm : m ≤ 20 := by omega
  refine sq_i fun k hk => ?_
  walk_at "rd"
  refine ⟨by decide, by decide, ?_⟩
  refine gIx_ints (ns := [9, 1000, 10 ^ 8, 10 ^ 15]) (fun n => 0 < n ∧ n ≤ 10 ^ 15) a8.1 a8.2 (fun n e => ?_) fun size hz => ?_
  · have := List.mem_of_getElem? e
    simp only [List.mem_cons, List.not_mem_nil, or_false] at this
    rcases this with rfl | rfl | rfl | rfl <;> decide +kernel
  subst hk
  refine sq_i fun k hk => ?_
  walk_at "rd"
  refine ⟨ns, 1, rfl, by decide, hb, fun c1 _ => ?_⟩
  walk_at "rd"
  refine ⟨by omega, ?_⟩
  have f1 := fmod_pos (a := c1) (b := size) (by omega)
  generalize c1.fmod size = u0 at f1 ⊢
  subst hk
  refine sq_i fun k hk => ?_
  walk_at "rd"
  refine ⟨ns, 2, rfl, by decide, hb, fun c2 _ => ?_⟩
  walk_at "rd"
  refine ⟨mul_l (by decide) (by decide), by omega, ?_⟩
  have f2 := fmod_pos (a := c2) (b := 2 * size) (by omega)
  generalize c2.fmod (2 * size) = v0 at f2 ⊢
  subst hk
  refine sj_i 6 (fun d => ∃ v : Int, d = .int v ∧ -(10 ^ 15) ≤ v ∧ v ≤ 10 ^ 15) ?_ fun k hk => if_n fun T hT => ?_
  rotate_left
  · walk_at "rd"
    refine ⟨fun h => ?_, fun h => hk _ ⟨_, rfl, by omega, by omega⟩⟩
    subst hT
    walk_at "rd"
    exact hk _ ⟨_, rfl, by omega, by omega⟩
  rintro _ ⟨v1, rfl, hv1, hv2⟩
  walk_at "rd"
  refine sj_i2 5 6 (fun d e => ∃ u v : Int, d = .int u ∧ e = .int v ∧ u ≤ 10 ^ 15 ∧ -(10 ^ 15) ≤ v ∧ v ≤ 10 ^ 15 + 1 ∧ (0 < u ∨ u = 0 ∧ 0 < v)) ?_ fun k hk => if_n fun T hT => ?_
  rotate_left
  · walk_at "rd"
    refine ⟨fun h => ?_, fun h => hk _ _ ⟨_, _, rfl, rfl, by omega, by omega, by omega, by omega⟩⟩
    subst hT
    refine sq_i fun k2 hk2 => ?_
    walk_at "rd"
    subst hk2
    walk_at "rd"
    exact hk _ _ ⟨_, _, rfl, rfl, by omega, by omega, by omega, by omega⟩
  rintro _ _ ⟨u, v, rfl, rfl, hu2, hw1, hw2, hu⟩
  walk_at "rd"
  have bu : intBits u ≤ 60 := bits_lt (by omega) (by omega)
  have bv : intBits v ≤ 60 := bits_lt (by omega) (by omega)
  have bsq := fun {x y : Int} (h : intBits x ≤ 60) (h' : intBits y ≤ 60) => intBits_mul_le h h'
  have b2 : intBits (2 * u) ≤ 62 := intBits_mul_le (show intBits 2 ≤ 2 by decide) bu
  have bx : intBits (u * u - v * v) ≤ 125 := by
    rw [Int.sub_eq_add_neg]
    exact up (intBits_add_le (bsq bu bu) (intBits_neg_le (bsq bv bv))) (by decide)
  have by' : intBits (2 * u * v) ≤ 125 := up (intBits_mul_le b2 bv) (by decide)
  refine sq_i fun k hk => ?_
  walk_at "rd"
  refine ⟨by decide, by decide, ?_⟩
  subst hk
  have smenu : ∀ i : Int, 0 ≤ i → i < 5 → ∀ q : D → Prop, (∀ s : Int, (0 ≤ s ∧ s ≤ 10 ^ 25) → q (.int s)) → gIx (.list [.int 0, .int 1, .int 2, .int (10 ^ 7), .int (10 ^ 25)]) (.int i) q := by
    intro i h0 h1 q hq
    refine gIx_ints (ns := [0, 1, 2, 10 ^ 7, 10 ^ 25]) (fun s => 0 ≤ s ∧ s ≤ 10 ^ 25) h0 h1 (fun n e => ?_) hq
    have := List.mem_of_getElem? e
    simp only [List.mem_cons, List.not_mem_nil, or_false] at this
    rcases this with rfl | rfl | rfl | rfl | rfl <;> decide +kernel
  refine sq_i fun k hk => ?_
  walk_at "rd"
  refine smenu _ a3.1 a3.2 _ fun s0 hs0 => ?_
  walk_at "rd"
  refine smenu _ a4.1 a4.2 _ fun s1 hs1 => ?_
  walk_at "rd"
  refine smenu _ a5.1 a5.2 _ fun s2 hs2 => ?_
  walk_at "rd"
  refine smenu _ a6.1 a6.2 _ fun s3 hs3 => ?_
  walk_at "rd"
  subst hk
  refine sq_i fun k hk => ?_
  walk_at "rd"
  have mk : ∀ {x y : Int}, intBits x ≤ 200 → intBits y ≤ 200 → MulOk x y := fun h h' => MulOk.of_le h h' (by decide)
  refine ⟨mk (up bu (by decide)) (up bu (by decide)), mk (up bv (by decide)) (up bv (by decide)), mk (by decide) (up bu (by decide)), mk (up b2 (by decide)) (up bv (by decide)), ?_⟩
  subst hk
  have m2 : (2 * (m : Int)).toNat = 2 * m := by omega
  obtain ⟨A, B, hA, hB, hAB, bA, bB, hx⟩ := around_facts (m := 2 * m) (p := p) bx (by decide) hp hs0 hs1
  obtain ⟨C, D', hC, hD, hCD, bC, bD, hy⟩ := around_facts (m := 2 * m) (p := p) by' (by decide) hp hs2 hs3
  refine sq_i fun k hk => ?_
  walk_at "rd"
  refine ⟨mul_l (by decide) (by decide), _, _, _, s0, s1, rfl, by omega, by omega, by omega, up bx (by decide), ?_⟩
  walk_at "rd"
  refine ⟨mul_l (by decide) (by decide), _, _, _, s2, s3, rfl, by omega, by omega, by omega, up by' (by decide), ?_⟩
  walk_at "rd"
  rw [m2, Int.toNat_natCast, ← hA, ← hB, ← hC, ← hD]
  clear hA hB hC hD
  subst hk
  refine sq_i fun k hk => ?_
  walk_at "rd"
  refine ⟨_, _, rfl, up bu (by decide), up bv (by decide), ?_⟩
  walk_at "rd"
  subst hk
  obtain ⟨e, f, g, h, hR, he, hg'⟩ := root_holds hx hy hAB hCD hu
  obtain ⟨e', f', g', h', hR', bR⟩ := rootBox_bits (kind := kindR u v) (n := p) (up bA (by decide)) (up bB (by decide)) (up bC (by decide)) (up bD (by decide)) (by omega)
  have hR2 := hR.symm.trans hR'
  simp only [bxD, PyData.tuple.injEq, List.cons.injEq, PyData.int.injEq, and_true] at hR2
  obtain ⟨⟨rfl, rfl⟩, ⟨rfl, rfl⟩⟩ := hR2
  clear hR'
  simp only [List.mem_cons, List.not_mem_nil, or_false, forall_eq_or_imp, forall_eq] at bR
  obtain ⟨be, bf, bg, bh⟩ := bR
  generalize kindR u v = kd at hR ⊢
  refine sq_i fun k hk => ?_
  walk_at "rd"
  refine ⟨_, _, _, _, _, rfl, Bx.t _ _ _ _, ?_⟩
  walk_at "rd"
  subst hk
  refine sq_i fun k hk => ?_
  walk_at "rd"
  refine ⟨_, _, A, B, C, D', _, rfl, Bx.l _ _ _ _, by omega, by omega, up bA (by decide), up bB (by decide), up bC (by decide), up bD (by decide), ?_⟩
  rw [Int.toNat_natCast, hR]
  walk_at "rd"
  subst hk
  refine sq_i fun k hk => if_n fun T hT => ?_
  walk_at "rd"
  refine ⟨kd, A, B, C, D', _, rfl, hAB, hCD, by omega, by omega, up bA (by decide), up bB (by decide), up bC (by decide), up bD (by decide), ?_⟩
  rw [Int.toNat_natCast, hR]
  walk_at "rd"
  refine ⟨_, _, _, _, rfl, ?_⟩
  walk_at "rd"
  refine gRepr_box (up bA (by decide)) (up bB (by decide)) (up bC (by decide)) (up bD (by decide)) ?_
  refine ⟨_, _, _, _, _, rfl, Bx.t _ _ _ _, ?_⟩
  walk_at "rd"
  refine gRepr_box (up bA (by decide)) (up bB (by decide)) (up bC (by decide)) (up bD (by decide)) ?_
  walk_at "rd"
  clear hT T
  subst hk
  refine sq_i fun k hk => if_n fun T hT => ?_
  walk_at "rd"
  refine ⟨e, f, u, _, _, rfl, by omega, by omega, by omega, by omega, up bu (by decide), up be (by decide), up bf (by decide), by rw [Int.toNat_natCast, Int.toNat_natCast]; exact he, ?_⟩
  walk_at "rd"
  refine ⟨g, h, v, _, _, rfl, by omega, by omega, by omega, by omega, up bv (by decide), up bg (by decide), up bh (by decide), by rw [Int.toNat_natCast, Int.toNat_natCast]; exact hg', ?_⟩
  walk_at "rd"
  clear hT T
  subst hk
  refine sj_r (fun ρ' => ∃ y, ρ' = [some (.val (.list (ns.map .int))), some (.val (.list [.int r0, .int m, .int r2, .int r3, .int r4, .int r5, .int r6, .int r7, .int r8])), some (.val (.int m)), some (.val (.int p)), some (.val (.int size)), some (.val (.int u)), some (.val (.int v)), some (.val (.list [.int 0, .int 1, .int 2, .int (10 ^ 7), .int (10 ^ 25)])), some (.val (.list [.list [.int s0, .int s1], .list [.int s2, .int s3]])), some (.val (.tuple [.int (u * u - v * v), .int (2 * u * v)])), some (.val (bxD A B C D')), some (.val (.str kd)), some (.val (bxL A B C D')), some (.val (bxD e f g h)), y, none, none, none, none, none, none, none]) ?_ ?_
  rotate_left
  · intro k hk
    refine for_in fun W hW => ?_
    walk_at "rd"
    refine ⟨A, B, C, D', rfl, fun ks => ?_⟩
    walk_at "rd"
    subst hW
    refine for_map (fun _ ρ' => ∃ y, ρ' = [some (.val (.list (ns.map .int))), some (.val (.list [.int r0, .int m, .int r2, .int r3, .int r4, .int r5, .int r6, .int r7, .int r8])), some (.val (.int m)), some (.val (.int p)), some (.val (.int size)), some (.val (.int u)), some (.val (.int v)), some (.val (.list [.int 0, .int 1, .int 2, .int (10 ^ 7), .int (10 ^ 25)])), some (.val (.list [.list [.int s0, .int s1], .list [.int s2, .int s3]])), some (.val (.tuple [.int (u * u - v * v), .int (2 * u * v)])), some (.val (bxD A B C D')), some (.val (.str kd)), some (.val (bxL A B C D')), some (.val (bxD e f g h)), y, none, none, none, none, none, none, none]) ks ⟨_, rfl⟩ (fun ρ h => hk ρ h) ?_
    rintro kd2 _ _ ⟨y, rfl⟩ k1 hk1
    obtain ⟨e1, f1, g1, h1, q1, -⟩ := rootBox_bits (kind := kd2) (n := p) (up bA (by decide)) (up bB (by decide)) (up bC (by decide)) (up bD (by decide)) (by omega)
    obtain ⟨e2, f2, g2, h2, q2, -⟩ := rootBox_bits (kind := kd2) (n := p + 1) (up bA (by decide)) (up bB (by decide)) (up bC (by decide)) (up bD (by decide)) (by omega)
    have p1 : ((p : Int) + 1).toNat = p + 1 := by omega
    refine sq_i fun k hk => if_n fun T hT => ?_
    walk_at "rd"
    refine ⟨_, kd2, A, B, C, D', _, rfl, Bx.t _ _ _ _, by omega, by omega, up bA (by decide), up bB (by decide), up bC (by decide), up bD (by decide), ?_⟩
    walk_at "rd"
    refine ⟨kd2, A, B, C, D', _, rfl, hAB, hCD, by omega, by omega, up bA (by decide), up bB (by decide), up bC (by decide), up bD (by decide), ?_⟩
    rw [Int.toNat_natCast, q1]
    walk_at "rd"
    refine ⟨_, _, _, _, rfl, ?_⟩
    walk_at "rd"
    subst hk
    refine if_n fun T hT => ?_
    walk_at "rd"
    refine ⟨_, kd2, A, B, C, D', _, rfl, Bx.l _ _ _ _, by omega, by omega, up bA (by decide), up bB (by decide), up bC (by decide), up bD (by decide), ?_⟩
    walk_at "rd"
    refine ⟨kd2, A, B, C, D', _, rfl, hAB, hCD, by omega, by omega, up bA (by decide), up bB (by decide), up bC (by decide), up bD (by decide), ?_⟩
    rw [p1, q2]
    walk_at "rd"
    refine ⟨_, _, _, _, rfl, ?_⟩
    walk_at "rd"
    exact hk1 _ ⟨_, rfl⟩
  rintro _ ⟨y, rfl⟩
  clear hx hy he hg' hR bA bB bC bD hAB hCD be bf bg bh bx by'
  refine sq_i fun k hk => ?_
  walk_at "rd"
  refine ⟨ns, 3, rfl, by decide, hb, fun c3 _ => ?_⟩
  walk_at "rd"
  refine ⟨mul_l (by decide) (by decide), by omega, ?_⟩
  have f3 := fmod_pos (a := c3) (b := 2 * size) (by omega)
  obtain ⟨a, ha⟩ : ∃ a, a = c3.fmod (2 * size) - size := ⟨_, rfl⟩
  rw [← ha]
  subst hk
  refine sq_i fun k hk => ?_
  walk_at "rd"
  refine ⟨ns, 4, rfl, by decide, hb, fun c4 _ => ?_⟩
  walk_at "rd"
  refine ⟨mul_l (by decide) (by decide), by omega, ?_⟩
  have f4 := fmod_pos (a := c4) (b := 2 * size) (by omega)
  obtain ⟨b, hb'⟩ : ∃ b, b = c4.fmod (2 * size) - size := ⟨_, rfl⟩
  rw [← hb']
  subst hk
  have ba : intBits a ≤ 60 := bits_lt (by omega) (by omega)
  have bb : intBits b ≤ 60 := bits_lt (by omega) (by omega)
  clear f1 f2 f3 f4 ha hb'
  obtain ⟨A1, B1, hA, hB, -, bA1, bB1, h1⟩ := around_facts (m := m) (p := p) (up ba (show 60 ≤ 90 by decide)) (by decide) hp hs2 hs3
  obtain ⟨C1, D1, hC, hD, -, bC1, bD1, h2⟩ := around_facts (m := m) (p := p) (up bb (show 60 ≤ 90 by decide)) (by decide) hp hs0 hs1
  refine sq_i fun k hk => ?_
  walk_at "rd"
  refine ⟨_, _, _, _, _, rfl, by omega, by omega, by omega, up ba (by decide), ?_⟩
  walk_at "rd"
  refine ⟨_, _, _, _, _, rfl, by omega, by omega, by omega, up bb (by decide), ?_⟩
  walk_at "rd"
  rw [Int.toNat_natCast, Int.toNat_natCast, ← hA, ← hB, ← hC, ← hD]
  clear hA hB hC hD
  subst hk
  obtain ⟨A2, B2, hA, hB, -, bA2, bB2, h3⟩ := around_facts (m := m) (p := p) (up bu (show 60 ≤ 90 by decide)) (by decide) hp hs0 hs1
  obtain ⟨C2, D2, hC, hD, -, bC2, bD2, h4⟩ := around_facts (m := m) (p := p) (up bv (show 60 ≤ 90 by decide)) (by decide) hp hs2 hs3
  refine sq_i fun k hk => ?_
  walk_at "rd"
  refine ⟨_, _, _, _, _, rfl, by omega, by omega, by omega, up bu (by decide), ?_⟩
  walk_at "rd"
  refine ⟨_, _, _, _, _, rfl, by omega, by omega, by omega, up bv (by decide), ?_⟩
  walk_at "rd"
  rw [Int.toNat_natCast, Int.toNat_natCast, ← hA, ← hB, ← hC, ← hD]
  clear hA hB hC hD
  subst hk
  have all8 : ∀ x ∈ [A2, B2, C2, D2, A1, B1, C1, D1], intBits x ≤ 700 := by
    simp only [List.mem_cons, List.not_mem_nil, or_false, forall_eq_or_imp, forall_eq]
    exact ⟨up bA2 (by decide), up bB2 (by decide), up bC2 (by decide), up bD2 (by decide), up bA1 (by decide), up bB1 (by decide), up bC1 (by decide), up bD1 (by decide)⟩
  have all8' : ∀ x ∈ [A2, B2, C2, D2, A1, B1, C1, D1], intBits x ≤ 20000 := fun x h => up (all8 x h) (by decide)
  have all8r : ∀ x ∈ [A2, B2, C2, D2, A1, B1, C1, D1], intBits x ≤ 12000 := fun x h => up (all8 x h) (by decide)
  refine sq_i fun k hk => ?_
  walk_at "rd"
  subst hk
  refine sj_i 12 (fun d => ∃ X Y, d = .list [X, Y] ∧ Bx X A2 B2 C2 D2 ∧ Bx Y A1 B1 C1 D1) ?_ fun k hk => if_n fun T hT => ?_
  rotate_left
  · walk_at "rd"
    refine ⟨fun h => ?_, fun h => hk _ ⟨_, _, rfl, Bx.t _ _ _ _, Bx.t _ _ _ _⟩⟩
    subst hT
    walk_at "rd"
    refine ⟨_, _, _, _, _, rfl, Bx.t _ _ _ _, ?_⟩
    walk_at "rd"
    refine ⟨_, _, _, _, _, rfl, Bx.t _ _ _ _, ?_⟩
    walk_at "rd"
    exact hk _ ⟨_, _, rfl, Bx.l _ _ _ _, Bx.l _ _ _ _⟩
  rintro _ ⟨X, Y, rfl, hX, hY⟩
  walk_at "rd"
  refine sq_i fun k hk => ?_
  walk_at "rd"
  refine ⟨_, _, _, _, _, _, _, _, _, _, _, rfl, hX, hY, by omega, all8', ?_⟩
  rw [Int.toNat_natCast]
  walk_at "rd"
  subst hk
  refine sq_i fun k hk => if_n fun T hT => ?_
  walk_at "rd"
  refine ⟨_, _, _, _, _, _, _, _, _, rfl, by omega, all8', ?_⟩
  rw [Int.toNat_natCast]
  walk_at "rd"
  refine ⟨_, _, _, _, rfl, ?_⟩
  walk_at "rd"
  clear hT T
  subst hk
  have q1 := hd_add (hd_mul h3 h1) (hd_neg (hd_mul h4 h2))
  have q2 := hd_add (hd_mul h3 h2) (hd_mul h4 h1)
  rw [← Int.sub_eq_add_neg, show m + m = 2 * m by omega] at q1
  rw [show m + m = 2 * m by omega] at q2
  have w : ∀ {x : Int}, intBits x ≤ 693 → intBits x ≤ 693 := fun h => h
  have w1 := mulLo_bits (n := p) bA2 bB2 bA1 bB1
  have w2 := mulHi_bits (n := p) bA2 bB2 bA1 bB1
  have w3 := mulLo_bits (n := p) bC2 bD2 bC1 bD1
  have w4 := mulHi_bits (n := p) bC2 bD2 bC1 bD1
  have w5 := mulLo_bits (n := p) bA2 bB2 bC1 bD1
  have w6 := mulHi_bits (n := p) bA2 bB2 bC1 bD1
  have w7 := mulLo_bits (n := p) bC2 bD2 bA1 bB1
  have w8 := mulHi_bits (n := p) bC2 bD2 bA1 bB1
  have mm : ∀ {x y : Int}, intBits x ≤ 60 → intBits y ≤ 60 → intBits (x * y) ≤ 120 := fun h h' => intBits_mul_le h h'
  refine sq_i fun k hk => if_n fun T hT => ?_
  walk_at "rd"
  refine ⟨mk (up bu (by decide)) (up ba (by decide)), mk (up bv (by decide)) (up bb (by decide)), mul_l (by decide) (by decide), _, _, _, _, _, rfl, by omega, by omega, by omega, by omega, ?_, ?_, ?_, ?_, ?_⟩
  · rw [Int.sub_eq_add_neg]
    exact up (intBits_add_le (mm bu ba) (intBits_neg_le (mm bv bb))) (by decide)
  · exact up (intBits_add_le w1 (intBits_neg_le w4)) (by decide)
  · exact up (intBits_add_le w2 (intBits_neg_le w3)) (by decide)
  · rw [m2, Int.toNat_natCast]
    exact q1
  walk_at "rd"
  refine ⟨mk (up bu (by decide)) (up bb (by decide)), mk (up bv (by decide)) (up ba (by decide)), mul_l (by decide) (by decide), _, _, _, _, _, rfl, by omega, by omega, by omega, by omega, ?_, ?_, ?_, ?_, ?_⟩
  · exact up (intBits_add_le (mm bu bb) (mm bv ba)) (by decide)
  · exact up (intBits_add_le w5 w7) (by decide)
  · exact up (intBits_add_le w6 w8) (by decide)
  · rw [m2, Int.toNat_natCast]
    exact q2
  walk_at "rd"
  clear hT T q1 q2 w1 w2 w3 w4 w5 w6 w7 w8
  subst hk
  refine sq_i fun k hk => if_n fun T hT => ?_
  walk_at "rd"
  refine ⟨_, _, _, _, _, _, _, _, _, _, _, rfl, hX, hY, by omega, all8', ?_⟩
  walk_at "rd"
  refine ⟨_, _, _, _, _, _, _, _, _, rfl, by omega, all8', ?_⟩
  walk_at "rd"
  refine ⟨_, _, _, _, rfl, ?_⟩
  walk_at "rd"
  clear hT T
  subst hk
  refine sq_i fun k hk => if_n fun T hT => ?_
  walk_at "rd"
  refine ⟨_, _, _, _, _, _, _, _, _, _, rfl, hX, hY, ?_⟩
  walk_at "rd"
  refine ⟨_, _, _, _, _, _, _, _, rfl, ?_⟩
  walk_at "rd"
  refine ⟨_, _, _, _, rfl, ?_⟩
  walk_at "rd"
  clear hT T
  subst hk
  refine sq_i fun k hk => if_n fun T hT => ?_
  walk_at "rd"
  refine ⟨_, _, _, _, _, rfl, hX, ?_⟩
  walk_at "rd"
  refine ⟨_, _, _, _, rfl, ?_⟩
  walk_at "rd"
  clear hT T
  subst hk
  refine sq_i fun k hk => ?_
  walk_at "rd"
  refine ⟨ns, 5, rfl, by decide, hb, fun c5 _ => ?_⟩
  walk_at "rd"
  refine ⟨by decide, ?_⟩
  have f5 := fmod_pos (a := c5) (b := 41) (by decide)
  obtain ⟨tp, htp⟩ : ∃ a, a = c5.fmod 41 - 20 := ⟨_, rfl⟩
  rw [← htp]
  subst hk
  refine sq_i fun k hk => ?_
  walk_at "rd"
  refine ⟨ns, 6, rfl, by decide, hb, fun c6 _ => ?_⟩
  walk_at "rd"
  refine ⟨by decide, ?_⟩
  have f6 := fmod_pos (a := c6) (b := 30) (by decide)
  obtain ⟨bt, hbt⟩ : ∃ a, a = 1 + c6.fmod 30 := ⟨_, rfl⟩
  rw [← hbt]
  subst hk
  have all5 : ∀ t : Int, -100 < t → t < 100 → ∀ x ∈ [A2, B2, C2, D2, t], intBits x ≤ 20000 := by
    intro t h h'
    simp only [List.mem_cons, List.not_mem_nil, or_false, forall_eq_or_imp, forall_eq]
    exact ⟨up bA2 (by decide), up bB2 (by decide), up bC2 (by decide), up bD2 (by decide), up (bits_lt (k := 64) (by omega) (by omega)) (by decide)⟩
  refine sq_i fun k hk => if_n fun T hT => ?_
  walk_at "rd"
  refine ⟨_, _, _, _, _, _, _, rfl, hX, by omega, by omega, all5 _ (by omega) (by omega), ?_⟩
  walk_at "rd"
  refine ⟨_, _, _, _, _, _, rfl, by omega, by omega, all5 _ (by omega) (by omega), ?_⟩
  walk_at "rd"
  refine ⟨_, _, _, _, rfl, ?_⟩
  walk_at "rd"
  clear hT T
  subst hk
  refine sq_i fun k hk => if_n fun T hT => ?_
  walk_at "rd"
  refine ⟨_, _, _, _, _, _, _, rfl, hX, by omega, by omega, all5 _ (by omega) (by omega), ?_⟩
  walk_at "rd"
  refine ⟨_, _, _, _, _, _, rfl, by omega, by omega, all5 _ (by omega) (by omega), ?_⟩
  walk_at "rd"
  refine ⟨_, _, _, _, rfl, ?_⟩
  walk_at "rd"
  clear hT T
  subst hk
  walk_at "rd"
  refine ⟨_, _, _, _, _, rfl, hX, ?_⟩
  walk_at "rd"
  refine ⟨_, _, _, _, _, rfl, hY, ?_⟩
  walk_at "rd"
  refine gRepr_box2 all8r ?_
  refine ⟨_, _, _, _, _, rfl, Bx.t _ _ _ _, ?_⟩
  walk_at "rd"
  refine ⟨_, _, _, _, _, rfl, Bx.t _ _ _ _, ?_⟩
  walk_at "rd"
  refine gRepr_box2 all8r ?_
  walk_at "rd"
  simpa using hq
theorem law_call (ns : List Int) (_ : ns.length ≤ 63) (hb : ∀ i ∈ ns, intBits i ≤ 1048576) : f_law [.list (ns.map .int)] fun r => r = .val (.bool true) := ⟨ns, rfl, hb, rfl⟩

end
end K04

namespace K04
open PySem PySem.Spec PyProof.Rows L2 DL Builtin.Int
theorem all_mk {l : PySem.W.OpenLaw} {w : World} {K : Frag} {h : Heap} {mg : Str → Option Value} {fa : Addr} (X : K.In h) (G : h.Ns mainGlobals mg) (hfa : mg "law" = some (.ref fa))
    {f0 : Addr} {od0 an0 : Option Addr} {sl0 : Array (Option Value)} {oc0 kV0 dc0 pm0 cd0 ct0 : Value} {f1 : Addr} {od1 an1 : Option Addr} {sl1 : Array (Option Value)} {oc1 kV1 dc1 pm1 cd1 ct1 : Value} {f2 : Addr} {od2 an2 : Option Addr} {sl2 : Array (Option Value)} {oc2 kV2 dc2 pm2 cd2 ct2 : Value} {f3 : Addr} {od3 an3 : Option Addr} {sl3 : Array (Option Value)} {oc3 kV3 dc3 pm3 cd3 ct3 : Value} {f4 : Addr} {od4 an4 : Option Addr} {sl4 : Array (Option Value)} {oc4 kV4 dc4 pm4 cd4 ct4 : Value} {f5 : Addr} {od5 an5 : Option Addr} {sl5 : Array (Option Value)} {oc5 kV5 dc5 pm5 cd5 ct5 : Value} {f6 : Addr} {od6 an6 : Option Addr} {sl6 : Array (Option Value)} {oc6 kV6 dc6 pm6 cd6 ct6 : Value} {f7 : Addr} {od7 an7 : Option Addr} {sl7 : Array (Option Value)} {oc7 kV7 dc7 pm7 cd7 ct7 : Value} {f8 : Addr} {od8 an8 : Option Addr} {sl8 : Array (Option Value)} {oc8 kV8 dc8 pm8 cd8 ct8 : Value} {f9 : Addr} {od9 an9 : Option Addr} {sl9 : Array (Option Value)} {oc9 kV9 dc9 pm9 cd9 ct9 : Value} {f10 : Addr} {od10 an10 : Option Addr} {sl10 : Array (Option Value)} {oc10 kV10 dc10 pm10 cd10 ct10 : Value} {f11 : Addr} {od11 an11 : Option Addr} {sl11 : Array (Option Value)} {oc11 kV11 dc11 pm11 cd11 ct11 : Value} {f12 : Addr} {od12 an12 : Option Addr} {sl12 : Array (Option Value)} {oc12 kV12 dc12 pm12 cd12 ct12 : Value} {f13 : Addr} {od13 an13 : Option Addr} {sl13 : Array (Option Value)} {oc13 kV13 dc13 pm13 cd13 ct13 : Value} {f14 : Addr} {od14 an14 : Option Addr} {sl14 : Array (Option Value)} {oc14 kV14 dc14 pm14 cd14 ct14 : Value} {f15 : Addr} {od15 an15 : Option Addr} {sl15 : Array (Option Value)} {oc15 kV15 dc15 pm15 cd15 ct15 : Value} {f16 : Addr} {od16 an16 : Option Addr} {sl16 : Array (Option Value)} {oc16 kV16 dc16 pm16 cd16 ct16 : Value} {f17 : Addr} {od17 an17 : Option Addr} {sl17 : Array (Option Value)} {oc17 kV17 dc17 pm17 cd17 ct17 : Value} {f18 : Addr} {od18 an18 : Option Addr} {sl18 : Array (Option Value)} {oc18 kV18 dc18 pm18 cd18 ct18 : Value} {f19 : Addr} {od19 an19 : Option Addr} {sl19 : Array (Option Value)} {oc19 kV19 dc19 pm19 cd19 ct19 : Value} {f20 : Addr} {od20 an20 : Option Addr} {sl20 : Array (Option Value)} {oc20 kV20 dc20 pm20 cd20 ct20 : Value} {f21 : Addr} {od21 an21 : Option Addr} {sl21 : Array (Option Value)} {oc21 kV21 dc21 pm21 cd21 ct21 : Value} {f22 : Addr} {od22 an22 : Option Addr} {sl22 : Array (Option Value)} {oc22 kV22 dc22 pm22 cd22 ct22 : Value} {f23 : Addr} {od23 an23 : Option Addr} {sl23 : Array (Option Value)} {oc23 kV23 dc23 pm23 cd23 ct23 : Value} {f24 : Addr} {od24 an24 : Option Addr} {sl24 : Array (Option Value)} {oc24 kV24 dc24 pm24 cd24 ct24 : Value} {f25 : Addr} {od25 an25 : Option Addr} {sl25 : Array (Option Value)} {oc25 kV25 dc25 pm25 cd25 ct25 : Value} {f26 : Addr} {od26 an26 : Option Addr} {sl26 : Array (Option Value)} {oc26 kV26 dc26 pm26 cd26 ct26 : Value} {f27 : Addr} {od27 an27 : Option Addr} {sl27 : Array (Option Value)} {oc27 kV27 dc27 pm27 cd27 ct27 : Value} {f28 : Addr} {od28 an28 : Option Addr} {sl28 : Array (Option Value)} {oc28 kV28 dc28 pm28 cd28 ct28 : Value} {f29 : Addr} {od29 an29 : Option Addr} {sl29 : Array (Option Value)} {oc29 kV29 dc29 pm29 cd29 ct29 : Value}
    (a0 : PySem.W.nsIn K mainGlobals "_law_whole" = some (some (.ref f0))) (l0 : K.lookup f0 = some ⟨oc0, od0, .func (PySem.W.fnOf "_law_whole" "_law_whole" (defArgs s__law_whole) (defBody s__law_whole) (defScope s__law_whole) .none kV0 dc0 pm0 an0 cd0 ct0), sl0⟩) (c0 : PySem.W.codeIn K cd0 "_law_whole" = true) (k0 : PySem.W.keepIn K (.ref f0) = true)
    (a1 : PySem.W.nsIn K mainGlobals "_law_cell" = some (some (.ref f1))) (l1 : K.lookup f1 = some ⟨oc1, od1, .func (PySem.W.fnOf "_law_cell" "_law_cell" (defArgs s__law_cell) (defBody s__law_cell) (defScope s__law_cell) .none kV1 dc1 pm1 an1 cd1 ct1), sl1⟩) (c1 : PySem.W.codeIn K cd1 "_law_cell" = true) (k1 : PySem.W.keepIn K (.ref f1) = true)
    (a2 : PySem.W.nsIn K mainGlobals "_law_digits" = some (some (.ref f2))) (l2 : K.lookup f2 = some ⟨oc2, od2, .func (PySem.W.fnOf "_law_digits" "_law_digits" (defArgs s__law_digits) (defBody s__law_digits) (defScope s__law_digits) .none kV2 dc2 pm2 an2 cd2 ct2), sl2⟩) (c2 : PySem.W.codeIn K cd2 "_law_digits" = true) (k2 : PySem.W.keepIn K (.ref f2) = true)
    (a3 : PySem.W.nsIn K mainGlobals "_law_isqrt" = some (some (.ref f3))) (l3 : K.lookup f3 = some ⟨oc3, od3, .func (PySem.W.fnOf "_law_isqrt" "_law_isqrt" (defArgs s__law_isqrt) (defBody s__law_isqrt) (defScope s__law_isqrt) .none kV3 dc3 pm3 an3 cd3 ct3), sl3⟩) (c3 : PySem.W.codeIn K cd3 "_law_isqrt" = true) (k3 : PySem.W.keepIn K (.ref f3) = true)
    (a4 : PySem.W.nsIn K mainGlobals "floor_root" = some (some (.ref f4))) (l4 : K.lookup f4 = some ⟨oc4, od4, .func (PySem.W.fnOf "floor_root" "floor_root" (defArgs s_floor_root) (defBody s_floor_root) (defScope s_floor_root) .none kV4 dc4 pm4 an4 cd4 ct4), sl4⟩) (c4 : PySem.W.codeIn K cd4 "floor_root" = true) (k4 : PySem.W.keepIn K (.ref f4) = true)
    (a5 : PySem.W.nsIn K mainGlobals "ceil_root" = some (some (.ref f5))) (l5 : K.lookup f5 = some ⟨oc5, od5, .func (PySem.W.fnOf "ceil_root" "ceil_root" (defArgs s_ceil_root) (defBody s_ceil_root) (defScope s_ceil_root) .none kV5 dc5 pm5 an5 cd5 ct5), sl5⟩) (c5 : PySem.W.codeIn K cd5 "ceil_root" = true) (k5 : PySem.W.keepIn K (.ref f5) = true)
    (a6 : PySem.W.nsIn K mainGlobals "add_intervals" = some (some (.ref f6))) (l6 : K.lookup f6 = some ⟨oc6, od6, .func (PySem.W.fnOf "add_intervals" "add_intervals" (defArgs s_add_intervals) (defBody s_add_intervals) (defScope s_add_intervals) .none kV6 dc6 pm6 an6 cd6 ct6), sl6⟩) (c6 : PySem.W.codeIn K cd6 "add_intervals" = true) (k6 : PySem.W.keepIn K (.ref f6) = true)
    (a7 : PySem.W.nsIn K mainGlobals "negate_interval" = some (some (.ref f7))) (l7 : K.lookup f7 = some ⟨oc7, od7, .func (PySem.W.fnOf "negate_interval" "negate_interval" (defArgs s_negate_interval) (defBody s_negate_interval) (defScope s_negate_interval) .none kV7 dc7 pm7 an7 cd7 ct7), sl7⟩) (c7 : PySem.W.codeIn K cd7 "negate_interval" = true) (k7 : PySem.W.keepIn K (.ref f7) = true)
    (a8 : PySem.W.nsIn K mainGlobals "multiply_intervals" = some (some (.ref f8))) (l8 : K.lookup f8 = some ⟨oc8, od8, .func (PySem.W.fnOf "multiply_intervals" "multiply_intervals" (defArgs s_multiply_intervals) (defBody s_multiply_intervals) (defScope s_multiply_intervals) .none kV8 dc8 pm8 an8 cd8 ct8), sl8⟩) (c8 : PySem.W.codeIn K cd8 "multiply_intervals" = true) (k8 : PySem.W.keepIn K (.ref f8) = true)
    (a9 : PySem.W.nsIn K mainGlobals "scale_interval" = some (some (.ref f9))) (l9 : K.lookup f9 = some ⟨oc9, od9, .func (PySem.W.fnOf "scale_interval" "scale_interval" (defArgs s_scale_interval) (defBody s_scale_interval) (defScope s_scale_interval) .none kV9 dc9 pm9 an9 cd9 ct9), sl9⟩) (c9 : PySem.W.codeIn K cd9 "scale_interval" = true) (k9 : PySem.W.keepIn K (.ref f9) = true)
    (a10 : PySem.W.nsIn K mainGlobals "root_interval" = some (some (.ref f10))) (l10 : K.lookup f10 = some ⟨oc10, od10, .func (PySem.W.fnOf "root_interval" "root_interval" (defArgs s_root_interval) (defBody s_root_interval) (defScope s_root_interval) .none kV10 dc10 pm10 an10 cd10 ct10), sl10⟩) (c10 : PySem.W.codeIn K cd10 "root_interval" = true) (k10 : PySem.W.keepIn K (.ref f10) = true)
    (a11 : PySem.W.nsIn K mainGlobals "add_boxes" = some (some (.ref f11))) (l11 : K.lookup f11 = some ⟨oc11, od11, .func (PySem.W.fnOf "add_boxes" "add_boxes" (defArgs s_add_boxes) (defBody s_add_boxes) (defScope s_add_boxes) .none kV11 dc11 pm11 an11 cd11 ct11), sl11⟩) (c11 : PySem.W.codeIn K cd11 "add_boxes" = true) (k11 : PySem.W.keepIn K (.ref f11) = true)
    (a12 : PySem.W.nsIn K mainGlobals "negate_box" = some (some (.ref f12))) (l12 : K.lookup f12 = some ⟨oc12, od12, .func (PySem.W.fnOf "negate_box" "negate_box" (defArgs s_negate_box) (defBody s_negate_box) (defScope s_negate_box) .none kV12 dc12 pm12 an12 cd12 ct12), sl12⟩) (c12 : PySem.W.codeIn K cd12 "negate_box" = true) (k12 : PySem.W.keepIn K (.ref f12) = true)
    (a13 : PySem.W.nsIn K mainGlobals "multiply_boxes" = some (some (.ref f13))) (l13 : K.lookup f13 = some ⟨oc13, od13, .func (PySem.W.fnOf "multiply_boxes" "multiply_boxes" (defArgs s_multiply_boxes) (defBody s_multiply_boxes) (defScope s_multiply_boxes) .none kV13 dc13 pm13 an13 cd13 ct13), sl13⟩) (c13 : PySem.W.codeIn K cd13 "multiply_boxes" = true) (k13 : PySem.W.keepIn K (.ref f13) = true)
    (a14 : PySem.W.nsIn K mainGlobals "scale_box" = some (some (.ref f14))) (l14 : K.lookup f14 = some ⟨oc14, od14, .func (PySem.W.fnOf "scale_box" "scale_box" (defArgs s_scale_box) (defBody s_scale_box) (defScope s_scale_box) .none kV14 dc14 pm14 an14 cd14 ct14), sl14⟩) (c14 : PySem.W.codeIn K cd14 "scale_box" = true) (k14 : PySem.W.keepIn K (.ref f14) = true)
    (a15 : PySem.W.nsIn K mainGlobals "root_box" = some (some (.ref f15))) (l15 : K.lookup f15 = some ⟨oc15, od15, .func (PySem.W.fnOf "root_box" "root_box" (defArgs s_root_box) (defBody s_root_box) (defScope s_root_box) .none kV15 dc15 pm15 an15 cd15 ct15), sl15⟩) (c15 : PySem.W.codeIn K cd15 "root_box" = true) (k15 : PySem.W.keepIn K (.ref f15) = true)
    (a16 : PySem.W.nsIn K mainGlobals "_law_interval_mul" = some (some (.ref f16))) (l16 : K.lookup f16 = some ⟨oc16, od16, .func (PySem.W.fnOf "_law_interval_mul" "_law_interval_mul" (defArgs s__law_interval_mul) (defBody s__law_interval_mul) (defScope s__law_interval_mul) .none kV16 dc16 pm16 an16 cd16 ct16), sl16⟩) (c16 : PySem.W.codeIn K cd16 "_law_interval_mul" = true) (k16 : PySem.W.keepIn K (.ref f16) = true)
    (a17 : PySem.W.nsIn K mainGlobals "_law_interval_root" = some (some (.ref f17))) (l17 : K.lookup f17 = some ⟨oc17, od17, .func (PySem.W.fnOf "_law_interval_root" "_law_interval_root" (defArgs s__law_interval_root) (defBody s__law_interval_root) (defScope s__law_interval_root) .none kV17 dc17 pm17 an17 cd17 ct17), sl17⟩) (c17 : PySem.W.codeIn K cd17 "_law_interval_root" = true) (k17 : PySem.W.keepIn K (.ref f17) = true)
    (a18 : PySem.W.nsIn K mainGlobals "_law_box_add" = some (some (.ref f18))) (l18 : K.lookup f18 = some ⟨oc18, od18, .func (PySem.W.fnOf "_law_box_add" "_law_box_add" (defArgs s__law_box_add) (defBody s__law_box_add) (defScope s__law_box_add) .none kV18 dc18 pm18 an18 cd18 ct18), sl18⟩) (c18 : PySem.W.codeIn K cd18 "_law_box_add" = true) (k18 : PySem.W.keepIn K (.ref f18) = true)
    (a19 : PySem.W.nsIn K mainGlobals "_law_box_mul" = some (some (.ref f19))) (l19 : K.lookup f19 = some ⟨oc19, od19, .func (PySem.W.fnOf "_law_box_mul" "_law_box_mul" (defArgs s__law_box_mul) (defBody s__law_box_mul) (defScope s__law_box_mul) .none kV19 dc19 pm19 an19 cd19 ct19), sl19⟩) (c19 : PySem.W.codeIn K cd19 "_law_box_mul" = true) (k19 : PySem.W.keepIn K (.ref f19) = true)
    (a20 : PySem.W.nsIn K mainGlobals "_law_box_root" = some (some (.ref f20))) (l20 : K.lookup f20 = some ⟨oc20, od20, .func (PySem.W.fnOf "_law_box_root" "_law_box_root" (defArgs s__law_box_root) (defBody s__law_box_root) (defScope s__law_box_root) .none kV20 dc20 pm20 an20 cd20 ct20), sl20⟩) (c20 : PySem.W.codeIn K cd20 "_law_box_root" = true) (k20 : PySem.W.keepIn K (.ref f20) = true)
    (a21 : PySem.W.nsIn K mainGlobals "_law_floor_at" = some (some (.ref f21))) (l21 : K.lookup f21 = some ⟨oc21, od21, .func (PySem.W.fnOf "_law_floor_at" "_law_floor_at" (defArgs s__law_floor_at) (defBody s__law_floor_at) (defScope s__law_floor_at) .none kV21 dc21 pm21 an21 cd21 ct21), sl21⟩) (c21 : PySem.W.codeIn K cd21 "_law_floor_at" = true) (k21 : PySem.W.keepIn K (.ref f21) = true)
    (a22 : PySem.W.nsIn K mainGlobals "_law_around" = some (some (.ref f22))) (l22 : K.lookup f22 = some ⟨oc22, od22, .func (PySem.W.fnOf "_law_around" "_law_around" (defArgs s__law_around) (defBody s__law_around) (defScope s__law_around) .none kV22 dc22 pm22 an22 cd22 ct22), sl22⟩) (c22 : PySem.W.codeIn K cd22 "_law_around" = true) (k22 : PySem.W.keepIn K (.ref f22) = true)
    (a23 : PySem.W.nsIn K mainGlobals "_law_holds" = some (some (.ref f23))) (l23 : K.lookup f23 = some ⟨oc23, od23, .func (PySem.W.fnOf "_law_holds" "_law_holds" (defArgs s__law_holds) (defBody s__law_holds) (defScope s__law_holds) .none kV23 dc23 pm23 an23 cd23 ct23), sl23⟩) (c23 : PySem.W.codeIn K cd23 "_law_holds" = true) (k23 : PySem.W.keepIn K (.ref f23) = true)
    (a24 : PySem.W.nsIn K mainGlobals "_law_kind" = some (some (.ref f24))) (l24 : K.lookup f24 = some ⟨oc24, od24, .func (PySem.W.fnOf "_law_kind" "_law_kind" (defArgs s__law_kind) (defBody s__law_kind) (defScope s__law_kind) .none kV24 dc24 pm24 an24 cd24 ct24), sl24⟩) (c24 : PySem.W.codeIn K cd24 "_law_kind" = true) (k24 : PySem.W.keepIn K (.ref f24) = true)
    (a25 : PySem.W.nsIn K mainGlobals "_law_is_box" = some (some (.ref f25))) (l25 : K.lookup f25 = some ⟨oc25, od25, .func (PySem.W.fnOf "_law_is_box" "_law_is_box" (defArgs s__law_is_box) (defBody s__law_is_box) (defScope s__law_is_box) .none kV25 dc25 pm25 an25 cd25 ct25), sl25⟩) (c25 : PySem.W.codeIn K cd25 "_law_is_box" = true) (k25 : PySem.W.keepIn K (.ref f25) = true)
    (a26 : PySem.W.nsIn K mainGlobals "_law_kinds_held" = some (some (.ref f26))) (l26 : K.lookup f26 = some ⟨oc26, od26, .func (PySem.W.fnOf "_law_kinds_held" "_law_kinds_held" (defArgs s__law_kinds_held) (defBody s__law_kinds_held) (defScope s__law_kinds_held) .none kV26 dc26 pm26 an26 cd26 ct26), sl26⟩) (c26 : PySem.W.codeIn K cd26 "_law_kinds_held" = true) (k26 : PySem.W.keepIn K (.ref f26) = true)
    (a27 : PySem.W.nsIn K mainGlobals "_law_lists" = some (some (.ref f27))) (l27 : K.lookup f27 = some ⟨oc27, od27, .func (PySem.W.fnOf "_law_lists" "_law_lists" (defArgs s__law_lists) (defBody s__law_lists) (defScope s__law_lists) .none kV27 dc27 pm27 an27 cd27 ct27), sl27⟩) (c27 : PySem.W.codeIn K cd27 "_law_lists" = true) (k27 : PySem.W.keepIn K (.ref f27) = true)
    (a28 : PySem.W.nsIn K mainGlobals "_law_scaled" = some (some (.ref f28))) (l28 : K.lookup f28 = some ⟨oc28, od28, .func (PySem.W.fnOf "_law_scaled" "_law_scaled" (defArgs s__law_scaled) (defBody s__law_scaled) (defScope s__law_scaled) .none kV28 dc28 pm28 an28 cd28 ct28), sl28⟩) (c28 : PySem.W.codeIn K cd28 "_law_scaled" = true) (k28 : PySem.W.keepIn K (.ref f28) = true)
    (a29 : PySem.W.nsIn K mainGlobals "law" = some (some (.ref f29))) (l29 : K.lookup f29 = some ⟨oc29, od29, .func (PySem.W.fnOf "law" "law" (defArgs s_law) (defBody s_law) (defScope s_law) .none kV29 dc29 pm29 an29 cd29 ct29), sl29⟩) (c29 : PySem.W.codeIn K cd29 "law" = true) (k29 : PySem.W.keepIn K (.ref f29) = true)
    (z0 : PySem.W.nsIn K mainGlobals "abs" = some none)
    (z1 : PySem.W.nsIn K mainGlobals "bool" = some none)
    (z2 : PySem.W.nsIn K mainGlobals "int" = some none)
    (z3 : PySem.W.nsIn K mainGlobals "isinstance" = some none)
    (z4 : PySem.W.nsIn K mainGlobals "isqrt" = some (some (.builtin "math.isqrt")))
    (z5 : PySem.W.nsIn K mainGlobals "len" = some none)
    (z6 : PySem.W.nsIn K mainGlobals "list" = some none)
    (z7 : PySem.W.nsIn K mainGlobals "max" = some none)
    (z8 : PySem.W.nsIn K mainGlobals "min" = some none)
    (z9 : PySem.W.nsIn K mainGlobals "range" = some none)
    (z10 : PySem.W.nsIn K mainGlobals "repr" = some none)
    (z11 : PySem.W.nsIn K mainGlobals "sorted" = some none)
    (z12 : PySem.W.nsIn K mainGlobals "tuple" = some none)
    : ∃ fd : FuncData, (∀ (s : Shared) (v : Value), BindsTo s fd ⟨[v], []⟩ [("script", v)]) ∧ ∀ base : Heap, K.In base → base.Ns mainGlobals mg → base.NoDigits → FnG l.prog w K mg base 4 fa fd ["script"] (SpD K 1 f_law) := by
  have e := hfa.symm.trans (PySem.W.mg_of X G a29)
  cases e
  have F0 := fun_mk (st := s__law_whole) l0 c0 k0
  have F1 := fun_mk (st := s__law_cell) l1 c1 k1
  have F2 := fun_mk (st := s__law_digits) l2 c2 k2
  have F3 := fun_mk (st := s__law_isqrt) l3 c3 k3
  have F4 := fun_mk (st := s_floor_root) l4 c4 k4
  have F5 := fun_mk (st := s_ceil_root) l5 c5 k5
  have F6 := fun_mk (st := s_add_intervals) l6 c6 k6
  have F7 := fun_mk (st := s_negate_interval) l7 c7 k7
  have F8 := fun_mk (st := s_multiply_intervals) l8 c8 k8
  have F9 := fun_mk (st := s_scale_interval) l9 c9 k9
  have F10 := fun_mk (st := s_root_interval) l10 c10 k10
  have F11 := fun_mk (st := s_add_boxes) l11 c11 k11
  have F12 := fun_mk (st := s_negate_box) l12 c12 k12
  have F13 := fun_mk (st := s_multiply_boxes) l13 c13 k13
  have F14 := fun_mk (st := s_scale_box) l14 c14 k14
  have F15 := fun_mk (st := s_root_box) l15 c15 k15
  have F16 := fun_mk (st := s__law_interval_mul) l16 c16 k16
  have F17 := fun_mk (st := s__law_interval_root) l17 c17 k17
  have F18 := fun_mk (st := s__law_box_add) l18 c18 k18
  have F19 := fun_mk (st := s__law_box_mul) l19 c19 k19
  have F20 := fun_mk (st := s__law_box_root) l20 c20 k20
  have F21 := fun_mk (st := s__law_floor_at) l21 c21 k21
  have F22 := fun_mk (st := s__law_around) l22 c22 k22
  have F23 := fun_mk (st := s__law_holds) l23 c23 k23
  have F24 := fun_mk (st := s__law_kind) l24 c24 k24
  have F25 := fun_mk (st := s__law_is_box) l25 c25 k25
  have F26 := fun_mk (st := s__law_kinds_held) l26 c26 k26
  have F27 := fun_mk (st := s__law_lists) l27 c27 k27
  have F28 := fun_mk (st := s__law_scaled) l28 c28 k28
  have F29 := fun_mk (st := s_law) l29 c29 k29
  have m_abs := PySem.W.mg_none_of X G z0
  have m_bool := PySem.W.mg_none_of X G z1
  have m_int := PySem.W.mg_none_of X G z2
  have m_isinstance := PySem.W.mg_none_of X G z3
  have m_isqrt := PySem.W.mg_of X G z4
  have m_len := PySem.W.mg_none_of X G z5
  have m_list := PySem.W.mg_none_of X G z6
  have m_max := PySem.W.mg_none_of X G z7
  have m_min := PySem.W.mg_none_of X G z8
  have m_range := PySem.W.mg_none_of X G z9
  have m_repr := PySem.W.mg_none_of X G z10
  have m_sorted := PySem.W.mg_none_of X G z11
  have m_tuple := PySem.W.mg_none_of X G z12
  have b0 := F0.binds (ps := ["value"]) fun _ _ _ _ _ _ us hl => match us, hl with | [_], _ => rfl
  have b1 := F1.binds (ps := ["script", "k"]) fun _ _ _ _ _ _ us hl => match us, hl with | [_, _], _ => rfl
  have b2 := F2.binds (ps := ["cell", "sizes"]) fun _ _ _ _ _ _ us hl => match us, hl with | [_, _], _ => rfl
  have b3 := F3.binds (ps := ["number"]) fun _ _ _ _ _ _ us hl => match us, hl with | [_], _ => rfl
  have b4 := F4.binds (ps := ["number"]) fun _ _ _ _ _ _ us hl => match us, hl with | [_], _ => rfl
  have b5 := F5.binds (ps := ["number"]) fun _ _ _ _ _ _ us hl => match us, hl with | [_], _ => rfl
  have b6 := F6.binds (ps := ["one", "two"]) fun _ _ _ _ _ _ us hl => match us, hl with | [_, _], _ => rfl
  have b7 := F7.binds (ps := ["one"]) fun _ _ _ _ _ _ us hl => match us, hl with | [_], _ => rfl
  have b8 := F8.binds (ps := ["one", "two", "places"]) fun _ _ _ _ _ _ us hl => match us, hl with | [_, _, _], _ => rfl
  have b9 := F9.binds (ps := ["one", "top", "bottom"]) fun _ _ _ _ _ _ us hl => match us, hl with | [_, _, _], _ => rfl
  have b10 := F10.binds (ps := ["one", "places"]) fun _ _ _ _ _ _ us hl => match us, hl with | [_, _], _ => rfl
  have b11 := F11.binds (ps := ["one", "two"]) fun _ _ _ _ _ _ us hl => match us, hl with | [_, _], _ => rfl
  have b12 := F12.binds (ps := ["one"]) fun _ _ _ _ _ _ us hl => match us, hl with | [_], _ => rfl
  have b13 := F13.binds (ps := ["one", "two", "places"]) fun _ _ _ _ _ _ us hl => match us, hl with | [_, _, _], _ => rfl
  have b14 := F14.binds (ps := ["one", "top", "bottom"]) fun _ _ _ _ _ _ us hl => match us, hl with | [_, _, _], _ => rfl
  have b15 := F15.binds (ps := ["box", "kind", "places"]) fun _ _ _ _ _ _ us hl => match us, hl with | [_, _, _], _ => rfl
  have b16 := F16.binds (ps := ["one", "two", "places"]) fun _ _ _ _ _ _ us hl => match us, hl with | [_, _, _], _ => rfl
  have b17 := F17.binds (ps := ["one", "places"]) fun _ _ _ _ _ _ us hl => match us, hl with | [_, _], _ => rfl
  have b18 := F18.binds (ps := ["one", "two"]) fun _ _ _ _ _ _ us hl => match us, hl with | [_, _], _ => rfl
  have b19 := F19.binds (ps := ["one", "two", "places"]) fun _ _ _ _ _ _ us hl => match us, hl with | [_, _, _], _ => rfl
  have b20 := F20.binds (ps := ["box", "kind", "places"]) fun _ _ _ _ _ _ us hl => match us, hl with | [_, _, _], _ => rfl
  have b21 := F21.binds (ps := ["top", "m", "places"]) fun _ _ _ _ _ _ us hl => match us, hl with | [_, _, _], _ => rfl
  have b22 := F22.binds (ps := ["top", "m", "places", "slack"]) fun _ _ _ _ _ _ us hl => match us, hl with | [_, _, _, _], _ => rfl
  have b23 := F23.binds (ps := ["interval", "top", "m", "places"]) fun _ _ _ _ _ _ us hl => match us, hl with | [_, _, _, _], _ => rfl
  have b24 := F24.binds (ps := ["u", "v"]) fun _ _ _ _ _ _ us hl => match us, hl with | [_, _], _ => rfl
  have b25 := F25.binds (ps := ["told", "due"]) fun _ _ _ _ _ _ us hl => match us, hl with | [_, _], _ => rfl
  have b26 := F26.binds (ps := ["box"]) fun _ _ _ _ _ _ us hl => match us, hl with | [_], _ => rfl
  have b27 := F27.binds (ps := ["box"]) fun _ _ _ _ _ _ us hl => match us, hl with | [_], _ => rfl
  have b28 := F28.binds (ps := ["one", "top", "bottom"]) fun _ _ _ _ _ _ us hl => match us, hl with | [_, _, _], _ => rfl
  refine ⟨PySem.W.fnOf "law" "law" (defArgs s_law) (defBody s_law) (defScope s_law) .none kV29 dc29 pm29 an29 cd29 ct29, fun s v => .of_eq rfl, fun base _ _ hdg => ?_⟩
  have R__law_whole : Ready l.prog w K mg base "_law_whole" 1 1 f__law_whole := ⟨_, _, _, ok__law_whole (k := 0) F0 hdg m_bool m_int m_isinstance, PySem.W.mg_of X G a0, k0, b0⟩
  have R__law_cell : Ready l.prog w K mg base "_law_cell" 2 1 f__law_cell := ⟨_, _, _, ok__law_cell (k := 0) F1 hdg m_int m_len, PySem.W.mg_of X G a1, k1, b1⟩
  have R__law_digits : Ready l.prog w K mg base "_law_digits" 2 1 f__law_digits := ⟨_, _, _, ok__law_digits (k := 0) F2 hdg m_int m_len m_range, PySem.W.mg_of X G a2, k2, b2⟩
  have R__law_isqrt : Ready l.prog w K mg base "_law_isqrt" 1 1 f__law_isqrt := ⟨_, _, _, ok__law_isqrt (k := 0) F3 hdg , PySem.W.mg_of X G a3, k3, b3⟩
  have R_floor_root : Ready l.prog w K mg base "floor_root" 1 1 f_floor_root := ⟨_, _, _, ok_floor_root (k := 0) F4 hdg m_isqrt, PySem.W.mg_of X G a4, k4, b4⟩
  have R_ceil_root : Ready l.prog w K mg base "ceil_root" 1 1 f_ceil_root := ⟨_, _, _, ok_ceil_root (k := 0) F5 hdg m_isqrt, PySem.W.mg_of X G a5, k5, b5⟩
  have R_add_intervals : Ready l.prog w K mg base "add_intervals" 2 1 f_add_intervals := ⟨_, _, _, ok_add_intervals (k := 0) F6 hdg , PySem.W.mg_of X G a6, k6, b6⟩
  have R_negate_interval : Ready l.prog w K mg base "negate_interval" 1 1 f_negate_interval := ⟨_, _, _, ok_negate_interval (k := 0) F7 hdg , PySem.W.mg_of X G a7, k7, b7⟩
  have R_multiply_intervals : Ready l.prog w K mg base "multiply_intervals" 3 1 f_multiply_intervals := ⟨_, _, _, ok_multiply_intervals (k := 0) F8 hdg m_max m_min, PySem.W.mg_of X G a8, k8, b8⟩
  have R_scale_interval : Ready l.prog w K mg base "scale_interval" 3 1 f_scale_interval := ⟨_, _, _, ok_scale_interval (k := 0) F9 hdg m_max m_min, PySem.W.mg_of X G a9, k9, b9⟩
  have R_root_interval : Ready l.prog w K mg base "root_interval" 2 2 f_root_interval := ⟨_, _, _, ok_root_interval (k := 1) F10 hdg m_max (R_ceil_root.mono (by decide)) (R_floor_root.mono (by decide)), PySem.W.mg_of X G a10, k10, b10⟩
  have R_add_boxes : Ready l.prog w K mg base "add_boxes" 2 2 f_add_boxes := ⟨_, _, _, ok_add_boxes (k := 1) F11 hdg (R_add_intervals.mono (by decide)), PySem.W.mg_of X G a11, k11, b11⟩
  have R_negate_box : Ready l.prog w K mg base "negate_box" 1 2 f_negate_box := ⟨_, _, _, ok_negate_box (k := 1) F12 hdg (R_negate_interval.mono (by decide)), PySem.W.mg_of X G a12, k12, b12⟩
  have R_multiply_boxes : Ready l.prog w K mg base "multiply_boxes" 3 2 f_multiply_boxes := ⟨_, _, _, ok_multiply_boxes (k := 1) F13 hdg (R_multiply_intervals.mono (by decide)) (R_add_intervals.mono (by decide)) (R_negate_interval.mono (by decide)), PySem.W.mg_of X G a13, k13, b13⟩
  have R_scale_box : Ready l.prog w K mg base "scale_box" 3 2 f_scale_box := ⟨_, _, _, ok_scale_box (k := 1) F14 hdg (R_scale_interval.mono (by decide)), PySem.W.mg_of X G a14, k14, b14⟩
  have R_root_box : Ready l.prog w K mg base "root_box" 3 3 f_root_box := ⟨_, _, _, ok_root_box (k := 2) F15 hdg (R_root_interval.mono (by decide)) (R_negate_interval.mono (by decide)) (R_add_intervals.mono (by decide)) (R_multiply_intervals.mono (by decide)) (R_scale_interval.mono (by decide)), PySem.W.mg_of X G a15, k15, b15⟩
  have R__law_interval_mul : Ready l.prog w K mg base "_law_interval_mul" 3 1 f__law_interval_mul := ⟨_, _, _, ok__law_interval_mul (k := 0) F16 hdg m_sorted, PySem.W.mg_of X G a16, k16, b16⟩
  have R__law_interval_root : Ready l.prog w K mg base "_law_interval_root" 2 2 f__law_interval_root := ⟨_, _, _, ok__law_interval_root (k := 1) F17 hdg m_max (R__law_isqrt.mono (by decide)), PySem.W.mg_of X G a17, k17, b17⟩
  have R__law_box_add : Ready l.prog w K mg base "_law_box_add" 2 1 f__law_box_add := ⟨_, _, _, ok__law_box_add (k := 0) F18 hdg , PySem.W.mg_of X G a18, k18, b18⟩
  have R__law_box_mul : Ready l.prog w K mg base "_law_box_mul" 3 2 f__law_box_mul := ⟨_, _, _, ok__law_box_mul (k := 1) F19 hdg (R__law_interval_mul.mono (by decide)), PySem.W.mg_of X G a19, k19, b19⟩
  have R__law_box_root : Ready l.prog w K mg base "_law_box_root" 3 3 f__law_box_root := ⟨_, _, _, ok__law_box_root (k := 2) F20 hdg (R__law_interval_root.mono (by decide)) (R__law_interval_mul.mono (by decide)), PySem.W.mg_of X G a20, k20, b20⟩
  have R__law_floor_at : Ready l.prog w K mg base "_law_floor_at" 3 1 f__law_floor_at := ⟨_, _, _, ok__law_floor_at (k := 0) F21 hdg , PySem.W.mg_of X G a21, k21, b21⟩
  have R__law_around : Ready l.prog w K mg base "_law_around" 4 2 f__law_around := ⟨_, _, _, ok__law_around (k := 1) F22 hdg (R__law_floor_at.mono (by decide)), PySem.W.mg_of X G a22, k22, b22⟩
  have R__law_holds : Ready l.prog w K mg base "_law_holds" 4 1 f__law_holds := ⟨_, _, _, ok__law_holds (k := 0) F23 hdg , PySem.W.mg_of X G a23, k23, b23⟩
  have R__law_kind : Ready l.prog w K mg base "_law_kind" 2 1 f__law_kind := ⟨_, _, _, ok__law_kind (k := 0) F24 hdg , PySem.W.mg_of X G a24, k24, b24⟩
  have R__law_is_box : Ready l.prog w K mg base "_law_is_box" 2 2 f__law_is_box := ⟨_, _, _, ok__law_is_box (k := 1) F25 hdg m_isinstance m_len m_tuple (R__law_whole.mono (by decide)), PySem.W.mg_of X G a25, k25, b25⟩
  have R__law_kinds_held : Ready l.prog w K mg base "_law_kinds_held" 1 1 f__law_kinds_held := ⟨_, _, _, ok__law_kinds_held (k := 0) F26 hdg , PySem.W.mg_of X G a26, k26, b26⟩
  have R__law_lists : Ready l.prog w K mg base "_law_lists" 1 1 f__law_lists := ⟨_, _, _, ok__law_lists (k := 0) F27 hdg m_list, PySem.W.mg_of X G a27, k27, b27⟩
  have R__law_scaled : Ready l.prog w K mg base "_law_scaled" 3 1 f__law_scaled := ⟨_, _, _, ok__law_scaled (k := 0) F28 hdg m_sorted, PySem.W.mg_of X G a28, k28, b28⟩
  exact ok_law (k := 3) F29 hdg m_abs m_int m_repr (R__law_digits.mono (by decide)) (R__law_cell.mono (by decide)) (R__law_around.mono (by decide)) (R__law_kind.mono (by decide)) (R__law_lists.mono (by decide)) (R_root_box.mono (by decide)) (R__law_is_box.mono (by decide)) (R__law_box_root.mono (by decide)) (R__law_holds.mono (by decide)) (R__law_kinds_held.mono (by decide)) (R_multiply_boxes.mono (by decide)) (R__law_box_mul.mono (by decide)) (R__law_box_add.mono (by decide)) (R_add_boxes.mono (by decide)) (R_negate_box.mono (by decide)) (R__law_scaled.mono (by decide)) (R_scale_box.mono (by decide))
end K04
open PySem PySem.W PyProof.Rows
set_option maxHeartbeats 0 in
theorem PySem.Challenge.cw_leastnest_k04_boxes_hold_holds : PySem.Challenge.rw_leastnest_k04_boxes_hold.Holds := by
  w_on; o_law; k_head; (case hw => w_witness2)
  k_fill
  refine DL.walk_G (l := PySem.Challenge.rw_leastnest_k04_boxes_hold) (n := 63) (k := 4) (x := "script") (g := K04.f_law) rfl (by decide) rfl ⟨rfl, by decide, by decide⟩ (fun w h Y => PySem.W.kIn_of Y) ?F K04.law_call
  case F =>
    intro w mg fa h KX G hmg
    refine' K04.all_mk KX G hmg ?a0 ?l0 ?c0 ?k0 ?a1 ?l1 ?c1 ?k1 ?a2 ?l2 ?c2 ?k2 ?a3 ?l3 ?c3 ?k3 ?a4 ?l4 ?c4 ?k4 ?a5 ?l5 ?c5 ?k5 ?a6 ?l6 ?c6 ?k6 ?a7 ?l7 ?c7 ?k7 ?a8 ?l8 ?c8 ?k8 ?a9 ?l9 ?c9 ?k9 ?a10 ?l10 ?c10 ?k10 ?a11 ?l11 ?c11 ?k11 ?a12 ?l12 ?c12 ?k12 ?a13 ?l13 ?c13 ?k13 ?a14 ?l14 ?c14 ?k14 ?a15 ?l15 ?c15 ?k15 ?a16 ?l16 ?c16 ?k16 ?a17 ?l17 ?c17 ?k17 ?a18 ?l18 ?c18 ?k18 ?a19 ?l19 ?c19 ?k19 ?a20 ?l20 ?c20 ?k20 ?a21 ?l21 ?c21 ?k21 ?a22 ?l22 ?c22 ?k22 ?a23 ?l23 ?c23 ?k23 ?a24 ?l24 ?c24 ?k24 ?a25 ?l25 ?c25 ?k25 ?a26 ?l26 ?c26 ?k26 ?a27 ?l27 ?c27 ?k27 ?a28 ?l28 ?c28 ?k28 ?a29 ?l29 ?c29 ?k29 ?z0 ?z1 ?z2 ?z3 ?z4 ?z5 ?z6 ?z7 ?z8 ?z9 ?z10 ?z11 ?z12
    (case a0 => k_is)
    (case l0 => k_is)
    (case c0 => k_is)
    (case k0 => k_is)
    (case a1 => k_is)
    (case l1 => k_is)
    (case c1 => k_is)
    (case k1 => k_is)
    (case a2 => k_is)
    (case l2 => k_is)
    (case c2 => k_is)
    (case k2 => k_is)
    (case a3 => k_is)
    (case l3 => k_is)
    (case c3 => k_is)
    (case k3 => k_is)
    (case a4 => k_is)
    (case l4 => k_is)
    (case c4 => k_is)
    (case k4 => k_is)
    (case a5 => k_is)
    (case l5 => k_is)
    (case c5 => k_is)
    (case k5 => k_is)
    (case a6 => k_is)
    (case l6 => k_is)
    (case c6 => k_is)
    (case k6 => k_is)
    (case a7 => k_is)
    (case l7 => k_is)
    (case c7 => k_is)
    (case k7 => k_is)
    (case a8 => k_is)
    (case l8 => k_is)
    (case c8 => k_is)
    (case k8 => k_is)
    (case a9 => k_is)
    (case l9 => k_is)
    (case c9 => k_is)
    (case k9 => k_is)
    (case a10 => k_is)
    (case l10 => k_is)
    (case c10 => k_is)
    (case k10 => k_is)
    (case a11 => k_is)
    (case l11 => k_is)
    (case c11 => k_is)
    (case k11 => k_is)
    (case a12 => k_is)
    (case l12 => k_is)
    (case c12 => k_is)
    (case k12 => k_is)
    (case a13 => k_is)
    (case l13 => k_is)
    (case c13 => k_is)
    (case k13 => k_is)
    (case a14 => k_is)
    (case l14 => k_is)
    (case c14 => k_is)
    (case k14 => k_is)
    (case a15 => k_is)
    (case l15 => k_is)
    (case c15 => k_is)
    (case k15 => k_is)
    (case a16 => k_is)
    (case l16 => k_is)
    (case c16 => k_is)
    (case k16 => k_is)
    (case a17 => k_is)
    (case l17 => k_is)
    (case c17 => k_is)
    (case k17 => k_is)
    (case a18 => k_is)
    (case l18 => k_is)
    (case c18 => k_is)
    (case k18 => k_is)
    (case a19 => k_is)
    (case l19 => k_is)
    (case c19 => k_is)
    (case k19 => k_is)
    (case a20 => k_is)
    (case l20 => k_is)
    (case c20 => k_is)
    (case k20 => k_is)
    (case a21 => k_is)
    (case l21 => k_is)
    (case c21 => k_is)
    (case k21 => k_is)
    (case a22 => k_is)
    (case l22 => k_is)
    (case c22 => k_is)
    (case k22 => k_is)
    (case a23 => k_is)
    (case l23 => k_is)
    (case c23 => k_is)
    (case k23 => k_is)
    (case a24 => k_is)
    (case l24 => k_is)
    (case c24 => k_is)
    (case k24 => k_is)
    (case a25 => k_is)
    (case l25 => k_is)
    (case c25 => k_is)
    (case k25 => k_is)
    (case a26 => k_is)
    (case l26 => k_is)
    (case c26 => k_is)
    (case k26 => k_is)
    (case a27 => k_is)
    (case l27 => k_is)
    (case c27 => k_is)
    (case k27 => k_is)
    (case a28 => k_is)
    (case l28 => k_is)
    (case c28 => k_is)
    (case k28 => k_is)
    (case a29 => k_is)
    (case l29 => k_is)
    (case c29 => k_is)
    (case k29 => k_is)
    (case z0 => k_is)
    (case z1 => k_is)
    (case z2 => k_is)
    (case z3 => k_is)
    (case z4 => k_is)
    (case z5 => k_is)
    (case z6 => k_is)
    (case z7 => k_is)
    (case z8 => k_is)
    (case z9 => k_is)
    (case z10 => k_is)
    (case z11 => k_is)
    (case z12 => k_is)

