import PyProof.Rows.All
import HandS.ForMost
import HandS.Gcd
import HandS.IsInst
import HandS.Conv
import HandS.Wide
import HandS.Walk
import HandS.Rev
import HandS.RevRange
import HandS.Flow
import HandS.Zip
import HandS.RaiseMore
import HandS.TupAny
import HandS.TupMul
import HandS.TupLe
import HandS.WideBits
import HandS.EndBits
import KE.IntBitsLaws
import PySem.Challenge.RW_leastnest_k02_simplest_between_whole
set_option Elab.async false
set_option linter.all false
set_option maxRecDepth 100000
set_option maxHeartbeats 4000000
set_option exponentiation.threshold 2000000
namespace DL
open PySem PySem.Spec PyProof.Rows L2
/-! what is asked of sizes, shut off from unfolding -/
structure Fit (n : Nat) : Prop where
  le : n ≤ sizeLine
theorem Fit.of {n : Nat} (h : n ≤ 16777216) : Fit n := ⟨by rw [sizeLine_eq]; exact h⟩
structure MulOk (i j : Int) : Prop where
  ok : IntMulOk i j
theorem MulOk.of_le {a b : Int} {m n : Nat} (ha : Builtin.Int.intBits a ≤ m) (hb : Builtin.Int.intBits b ≤ n) (h : m + n ≤ 134217728) : MulOk a b := ⟨IntMulOk.of_le ha hb h⟩
structure CDivZ (i j : Int) : Prop where
  nz : j ≠ 0
  np : Builtin.divisionGoesByPylong i j = false
structure PowOk (i j : Int) : Prop where
  ok : CPow i j
structure ShlOk (i j : Int) : Prop where
  ok : CShl i j
structure Rng (j : Int) : Prop where
  lo : -(2 ^ 62) ≤ j
  hi : j < 2 ^ 62
theorem Rng.of {j : Int} (h : -1000000000000 ≤ j) (h' : j ≤ 1000000000000) : Rng j := ⟨by omega, by omega⟩
abbrev D := PyData
abbrev Frag := PySem.W.Frag

/-! ### heaps: F what stays, H what is there -/
theorem Mut.some_of {o : Option HO} (m : Mut o) : ∃ u, o = some u := by
  cases o with
  | none => exact m.elim
  | some u => exact ⟨u, rfl⟩
theorem mut_same {H H' : Hp} {p : Addr} (e : Same H H') (m : Mut (H p)) : H' p = H p := by
  obtain ⟨u, hu⟩ := Mut.some_of m
  rw [hu]
  exact e p u hu
structure Gr (F H F' H' : Hp) : Prop where
  ff : Same F F'
  hh : Same H H'
  fh : Same F' H'
  own : ∀ p, F p = none → Mut (H p) → F' p = none
theorem Gr.refl {F H : Hp} (e : Same F H) : Gr F H F H := ⟨Same.refl F, Same.refl H, e, fun _ h _ => h⟩
theorem Gr.trans {F H F1 H1 F2 H2 : Hp} (a : Gr F H F1 H1) (b : Gr F1 H1 F2 H2) : Gr F H F2 H2 :=
  ⟨a.ff.trans b.ff, a.hh.trans b.hh, b.fh, fun p h m => b.own p (a.own p h m) (by rw [mut_same a.hh m]; exact m)⟩
theorem same_new {H : Hp} {p : Addr} {o : HO} (h : H p = none) : Same H (upd H p o) := fun b u e => by
  rw [upd_ne (ne_of_none e h)]
  exact e
theorem same_upd2 {F H : Hp} {p : Addr} {o : HO} (e : Same F H) : Same (upd F p o) (upd H p o) := fun b u q => by
  by_cases hb : b = p
  · subst hb
    rw [upd_same] at q ⊢
    exact q
  · rw [upd_ne hb] at q ⊢
    exact e b u q
/-- a new object that stays -/
theorem Gr.new {F H : Hp} {p : Addr} {o : HO} (e : Same F H) (h : H p = none) : Gr F H (upd F p o) (upd H p o) :=
  ⟨same_new (e.free h), same_new h, same_upd2 e, fun q hq m => by
    have : q ≠ p := fun z => by
      rw [z, h] at m
      exact m
    rw [upd_ne this]
    exact hq⟩
/-- a new object that may change -/
theorem Gr.newO {F H : Hp} {p : Addr} {o : HO} (e : Same F H) (h : H p = none) : Gr F H F (upd H p o) :=
  ⟨Same.refl F, same_new h, e.trans (same_new h), fun _ hq _ => hq⟩
end DL
namespace L2
open PySem PySem.Spec PyProof.Rows
theorem Same.seqT {K : PySem.W.Frag} {H H' : Hp} {a : Addr} {xs : List V} (e : Same H H') (h : SqT K H a xs) : SqT K H' a xs := by
  rcases h with (h | ⟨o, h⟩) | h
  · exact .inl (.inl (e _ _ h))
  · exact .inl (.inr ⟨o, e _ _ h⟩)
  · exact .inr h

end L2
namespace DL
open PySem PySem.Spec PyProof.Rows L2
/-! ### data over a heap -/
mutual
theorem dp_mono {K : Frag} {H H' : Hp} (e : Same H H') : ∀ (d : D) {v : V}, Dp K H v d → Dp K H' v d
  | .none, _, h => by cases h; exact .non
  | .bool b, _, h => by cases h; exact .bl _
  | .int i, _, h => by cases h; exact .int _
  | .str x, _, h => by cases h; exact .str _
  | .list ds, _, h => by
    cases h with
    | lst hs ha => exact .lst (e.seq hs) (dpAll_mono e ds ha)
  | .tuple ds, _, h => by
    cases h with
    | tup hs ha => exact .tup (Same.seqT e hs) (dpAll_mono e ds ha)
  | .dict _, _, h => by cases h
theorem dpAll_mono {K : Frag} {H H' : Hp} (e : Same H H') : ∀ (ds : List D) {vs : List V}, DpAll K H vs ds → DpAll K H' vs ds
  | [], _, h => by cases h; exact .nil
  | d :: ds, _, h => by
    cases h with
    | cons h1 h2 => exact .cons (dp_mono e d h1) (dpAll_mono e ds h2)
end
end DL
namespace L2
open PySem PySem.Spec PyProof.Rows DL
theorem Dp.mono {K : Frag} {H H' : Hp} {v : V} {d : D} (h : Dp K H v d) (e : Same H H') : Dp K H' v d := dp_mono e d h
theorem DpAll.mono {K : Frag} {H H' : Hp} {vs : List V} {ds : List D} (h : DpAll K H vs ds) (e : Same H H') : DpAll K H' vs ds := dpAll_mono e ds h
theorem DpAll.length {K : Frag} {H : Hp} : ∀ {vs : List V} {ds : List D}, DpAll K H vs ds → vs.length = ds.length
  | [], ds, h => by cases h; rfl
  | v :: vs, ds, h => by
    cases h with
    | cons _ h2 => rw [List.length_cons, List.length_cons, DpAll.length h2]
theorem DpAll.get {K : Frag} {H : Hp} : ∀ {vs : List V} {ds : List D} {i : Nat} {d : D}, DpAll K H vs ds → ds[i]? = some d → ∃ v, vs[i]? = some v ∧ Dp K H v d
  | [], ds, i, d, h, e => by cases h; simp at e
  | v :: vs, ds, i, d, h, e => by
    cases h with
    | cons h1 h2 =>
      cases i with
      | zero =>
        simp at e
        subst e
        exact ⟨v, rfl, h1⟩
      | succ i =>
        obtain ⟨u, hu, r⟩ := DpAll.get h2 (show _ = some d by simpa using e)
        exact ⟨u, by simpa using hu, r⟩
theorem DpAll.append {K : Frag} {H : Hp} : ∀ {vs us : List V} {ds es : List D}, DpAll K H vs ds → DpAll K H us es → DpAll K H (vs ++ us) (ds ++ es)
  | [], us, ds, es, h, g => by cases h; exact g
  | v :: vs, us, ds, es, h, g => by
    cases h with
    | cons h1 h2 => exact .cons h1 (DpAll.append h2 g)
theorem DpAll.set {K : Frag} {H : Hp} {u : V} {e : D} (r : Dp K H u e) : ∀ {vs : List V} {ds : List D} (i : Nat), DpAll K H vs ds → DpAll K H (vs.set i u) (ds.set i e)
  | [], ds, i, h => by cases h; exact .nil
  | v :: vs, ds, i, h => by
    cases h with
    | cons h1 h2 =>
      cases i with
      | zero => exact .cons r h2
      | succ i => exact .cons h1 (DpAll.set r i h2)
theorem DpAll.take {K : Frag} {H : Hp} : ∀ {vs : List V} {ds : List D} (n : Nat), DpAll K H vs ds → DpAll K H (vs.take n) (ds.take n)
  | [], ds, n, h => by cases h; simp; exact .nil
  | v :: vs, ds, n, h => by
    cases h with
    | cons h1 h2 =>
      cases n with
      | zero => exact .nil
      | succ n => exact .cons h1 (DpAll.take n h2)
theorem DpAll.drop {K : Frag} {H : Hp} : ∀ {vs : List V} {ds : List D} (n : Nat), DpAll K H vs ds → DpAll K H (vs.drop n) (ds.drop n)
  | [], ds, n, h => by cases h; simp; exact .nil
  | v :: vs, ds, n, h => by
    cases n with
    | zero => exact h
    | succ n =>
      cases h with
      | cons h1 h2 => exact DpAll.drop n h2
theorem DpAll.reverse {K : Frag} {H : Hp} : ∀ {vs : List V} {ds : List D}, DpAll K H vs ds → DpAll K H vs.reverse ds.reverse
  | [], ds, h => by cases h; exact .nil
  | v :: vs, ds, h => by
    cases h with
    | cons h1 h2 =>
      rw [List.reverse_cons, List.reverse_cons]
      exact DpAll.append (DpAll.reverse h2) (.cons h1 .nil)
theorem DpAll.dropLast {K : Frag} {H : Hp} {vs : List V} {ds : List D} (h : DpAll K H vs ds) : DpAll K H vs.dropLast ds.dropLast := by
  rw [List.dropLast_eq_take, List.dropLast_eq_take, h.length]
  exact h.take _
theorem DpAll.eraseIdx {K : Frag} {H : Hp} : ∀ {vs : List V} {ds : List D} (i : Nat), DpAll K H vs ds → DpAll K H (vs.eraseIdx i) (ds.eraseIdx i)
  | [], ds, i, h => by cases h; exact .nil
  | v :: vs, ds, i, h => by
    cases h with
    | cons h1 h2 =>
      cases i with
      | zero => exact h2
      | succ i => exact .cons h1 (DpAll.eraseIdx i h2)
theorem DpAll.replicate {K : Frag} {H : Hp} {v : V} {d : D} (r : Dp K H v d) : ∀ n : Nat, DpAll K H (List.replicate n v) (List.replicate n d)
  | 0 => .nil
  | n + 1 => .cons r (DpAll.replicate r n)
theorem DpAll.flatRep {K : Frag} {H : Hp} {vs : List V} {ds : List D} (r : DpAll K H vs ds) : ∀ n : Nat, DpAll K H (List.replicate n vs).flatten (List.replicate n ds).flatten
  | 0 => .nil
  | n + 1 => by
    rw [List.replicate_succ, List.replicate_succ, List.flatten_cons, List.flatten_cons]
    exact DpAll.append r (DpAll.flatRep r n)
theorem DpAll.ints {K : Frag} {H : Hp} : ∀ (ns : List Int), DpAll K H (ns.map V.int) (ns.map PyData.int)
  | [] => .nil
  | n :: r => .cons (.int n) (DpAll.ints r)
theorem DpAll.ints_of {K : Frag} {H : Hp} : ∀ {vs : List V} (ns : List Int), DpAll K H vs (ns.map PyData.int) → vs = ns.map V.int
  | [], ns, h => by
    cases ns with
    | nil => rfl
    | cons n r => cases h
  | v :: vs, ns, h => by
    cases ns with
    | nil => cases h
    | cons n r =>
      cases h with
      | cons h1 h2 =>
        cases h1
        rw [List.map_cons, ← DpAll.ints_of r h2]
theorem DpAll.bools_of {K : Frag} {H : Hp} : ∀ {vs : List V} (ns : List Bool), DpAll K H vs (ns.map PyData.bool) → vs = ns.map V.bl
  | [], ns, h => by
    cases ns with
    | nil => rfl
    | cons n r => cases h
  | v :: vs, ns, h => by
    cases ns with
    | nil => cases h
    | cons n r =>
      cases h with
      | cons h1 h2 =>
        cases h1
        rw [List.map_cons, ← DpAll.bools_of r h2]
theorem DpAll.strs_of {K : Frag} {H : Hp} : ∀ {vs : List V} (ns : List Str), DpAll K H vs (ns.map PyData.str) → vs = ns.map V.str
  | [], ns, h => by
    cases ns with
    | nil => rfl
    | cons n r => cases h
  | v :: vs, ns, h => by
    cases ns with
    | nil => cases h
    | cons n r =>
      cases h with
      | cons h1 h2 =>
        cases h1
        rw [List.map_cons, ← DpAll.strs_of r h2]

end L2
namespace DL
open PySem PySem.Spec PyProof.Rows L2
/-! no list within: it leans on tuples alone -/
mutual
def noLst : D → Bool
  | .list _ => false
  | .dict _ => false
  | .tuple ds => noLstAll ds
  | _ => true
def noLstAll : List D → Bool
  | [] => true
  | d :: ds => noLst d && noLstAll ds
end
mutual
theorem dp_cut {K : Frag} {H H' : Hp} (e : ∀ b u, H b = some u → ¬ Mut (some u) → H' b = some u) : ∀ (d : D) {v : V}, noLst d = true → Dp K H v d → Dp K H' v d
  | .none, _, _, h => by cases h; exact .non
  | .bool b, _, _, h => by cases h; exact .bl _
  | .int i, _, _, h => by cases h; exact .int _
  | .str x, _, _, h => by cases h; exact .str _
  | .list ds, _, n, h => by simp [noLst] at n
  | .tuple ds, _, n, h => by
    cases h with
    | tup hs ha =>
      refine .tup ?_ (dpAll_cut e ds (by simpa [noLst] using n) ha)
      rcases hs with (h | ⟨o, h⟩) | h
      · exact .inl (.inl (e _ _ h fun z => z))
      · exact .inl (.inr ⟨o, e _ _ h fun z => z⟩)
      · exact .inr h
  | .dict _, _, _, h => by cases h
theorem dpAll_cut {K : Frag} {H H' : Hp} (e : ∀ b u, H b = some u → ¬ Mut (some u) → H' b = some u) : ∀ (ds : List D) {vs : List V}, noLstAll ds = true → DpAll K H vs ds → DpAll K H' vs ds
  | [], _, _, h => by cases h; exact .nil
  | d :: ds, _, n, h => by
    cases h with
    | cons h1 h2 =>
      simp only [noLstAll, Bool.and_eq_true] at n
      exact .cons (dp_cut e d n.1 h1) (dpAll_cut e ds n.2 h2)
end

/-! ### slots -/
/-- a slot: data that stays, or a list of one's own -/
inductive DV where
  | val (d : D)
  | own (ds : List D)
abbrev Rho := List (Option DV)
def SlotOk (K : Frag) (B F H : Hp) : DV → V → Prop
  | .val d, v => Dp K F v d
  | .own ds, v => ∃ p vs, v = .ref p ∧ B p = none ∧ F p = none ∧ H p = some (.lst vs) ∧ DpAll K F vs ds
structure EnvOk (K : Frag) (B F H : Hp) (ρ : Rho) (σ : L2.St) : Prop where
  fh : Same F H
  bh : Same B H
  len : ρ.length = σ.length
  at' : ∀ (i : Nat) dv, ρ[i]? = some (some dv) → ∃ v, σ[i]? = some (some v) ∧ SlotOk K B F H dv v
  sep : ∀ (i j : Nat) (p : Addr) (a b : List D), i ≠ j → ρ[i]? = some (some (.own a)) → ρ[j]? = some (some (.own b)) → σ[i]? = some (some (.ref p)) → σ[j]? ≠ some (some (.ref p))
theorem SlotOk.grow {K : Frag} {B F H F' H' : Hp} {dv : DV} {v : V} (h : SlotOk K B F H dv v) (g : Gr F H F' H') : SlotOk K B F' H' dv v := by
  cases dv with
  | val d => exact Dp.mono h g.ff
  | own ds =>
    obtain ⟨p, vs, e, hb, hf, hh, ha⟩ := h
    exact ⟨p, vs, e, hb, g.own p hf (by rw [hh]; trivial), g.hh p _ hh, ha.mono g.ff⟩
theorem EnvOk.grow {K : Frag} {B F H F' H' : Hp} {ρ : Rho} {σ : L2.St} (E : EnvOk K B F H ρ σ) (g : Gr F H F' H') : EnvOk K B F' H' ρ σ :=
  ⟨g.fh, E.bh.trans g.hh, E.len, fun i dv e => let ⟨v, h1, h2⟩ := E.at' i dv e; ⟨v, h1, h2.grow g⟩, E.sep⟩
theorem EnvOk.set {K : Frag} {B F H : Hp} {ρ : Rho} {σ : L2.St} (E : EnvOk K B F H ρ σ) (i : Nat) {d : D} {v : V} (r : Dp K F v d) : EnvOk K B F H (ρ.set i (some (.val d))) (σ.set i (some v)) := by
  refine ⟨E.fh, E.bh, by rw [List.length_set, List.length_set]; exact E.len, fun j dv e => ?_, fun j k p a b hjk e1 e2 e3 => ?_⟩
  · by_cases hij : i = j
    · subst hij
      have hi : i < ρ.length := by
        have h := (List.getElem?_eq_some_iff.mp e).1
        rw [List.length_set] at h
        exact h
      rw [List.getElem?_set_self hi] at e
      cases e
      exact ⟨v, by rw [List.getElem?_set_self (by rw [← E.len]; exact hi)], r⟩
    · rw [List.getElem?_set_ne hij] at e ⊢
      exact E.at' j dv e
  · have n1 : i ≠ j := fun z => by
      subst z
      have hi : i < ρ.length := by
        have h := (List.getElem?_eq_some_iff.mp e1).1
        rw [List.length_set] at h
        exact h
      rw [List.getElem?_set_self hi] at e1
      cases e1
    have n2 : i ≠ k := fun z => by
      subst z
      have hi : i < ρ.length := by
        have h := (List.getElem?_eq_some_iff.mp e2).1
        rw [List.length_set] at h
        exact h
      rw [List.getElem?_set_self hi] at e2
      cases e2
    rw [List.getElem?_set_ne n1] at e1 e3
    rw [List.getElem?_set_ne n2] at e2 ⊢
    exact E.sep j k p a b hjk e1 e2 e3
/-- a slot that holds an own list, the list new or changed -/
theorem EnvOk.setOwn {K : Frag} {B F H H' : Hp} {ρ : Rho} {σ : L2.St} (E : EnvOk K B F H ρ σ) (i : Nat) {ds : List D} {vs : List V} {p : Addr} (hb : B p = none) (hf : F p = none) (hp : H' p = some (.lst vs)) (ha : DpAll K F vs ds)
    (hs : ∀ (j : Nat) (a : List D), j ≠ i → ρ[j]? = some (some (.own a)) → σ[j]? ≠ some (some (.ref p))) (hk : ∀ b, b ≠ p → H' b = H b) : EnvOk K B F H' (ρ.set i (some (.own ds))) (σ.set i (some (.ref p))) := by
  have fh' : Same F H' := fun b u e => by
    have : b ≠ p := fun z => by
      rw [z, hf] at e
      cases e
    rw [hk b this]
    exact E.fh b u e
  have bh' : Same B H' := fun b u e => by
    have : b ≠ p := fun z => by
      rw [z, hb] at e
      cases e
    rw [hk b this]
    exact E.bh b u e
  have sl : ∀ (j : Nat) dv, i ≠ j → ρ[j]? = some (some dv) → ∃ v, σ[j]? = some (some v) ∧ SlotOk K B F H' dv v := fun j dv hij e => by
    obtain ⟨v, h1, h2⟩ := E.at' j dv e
    refine ⟨v, h1, ?_⟩
    cases dv with
    | val d => exact h2
    | own a =>
      obtain ⟨q, us, rfl, q0, q1, q2, q3⟩ := h2
      have : q ≠ p := fun z => by
        subst z
        exact hs j a (Ne.symm hij) e h1
      exact ⟨q, us, rfl, q0, q1, by rw [hk q this]; exact q2, q3⟩
  refine ⟨fh', bh', by rw [List.length_set, List.length_set]; exact E.len, fun j dv e => ?_, fun j k q a b hjk e1 e2 e3 => ?_⟩
  · by_cases hij : i = j
    · subst hij
      have hi : i < ρ.length := by
        have h := (List.getElem?_eq_some_iff.mp e).1
        rw [List.length_set] at h
        exact h
      rw [List.getElem?_set_self hi] at e
      cases e
      exact ⟨.ref p, by rw [List.getElem?_set_self (by rw [← E.len]; exact hi)], p, vs, rfl, hb, hf, hp, ha⟩
    · rw [List.getElem?_set_ne hij] at e ⊢
      exact sl j dv hij e
  · by_cases hij : i = j
    · subst hij
      have n2 : i ≠ k := hjk
      have hi : i < ρ.length := by
        have h := (List.getElem?_eq_some_iff.mp e1).1
        rw [List.length_set] at h
        exact h
      rw [List.getElem?_set_self (by rw [← E.len]; exact hi)] at e3
      cases e3
      rw [List.getElem?_set_ne n2] at e2 ⊢
      exact hs k b (Ne.symm n2) e2
    · rw [List.getElem?_set_ne hij] at e1 e3
      by_cases hik : i = k
      · subst hik
        have hi : i < ρ.length := by
          have h := (List.getElem?_eq_some_iff.mp e2).1
          rw [List.length_set] at h
          exact h
        rw [List.getElem?_set_self (by rw [← E.len]; exact hi)]
        intro z
        cases z
        exact hs j a (Ne.symm hij) e1 e3
      · rw [List.getElem?_set_ne hik] at e2 ⊢
        exact E.sep j k q a b hjk e1 e2 e3
/-- everything stays (while nothing of one's own is changed) -/
def look : Option DV → Option DV
  | some (.own ds) => some (.val (.list ds))
  | o => o
def view (ρ : Rho) : Rho := ρ.map look
theorem EnvOk.view {K : Frag} {B F H : Hp} {ρ : Rho} {σ : L2.St} (E : EnvOk K B F H ρ σ) : EnvOk K B H H (view ρ) σ := by
  have noown : ∀ (i : Nat) a, (DL.view ρ)[i]? ≠ some (some (.own a)) := fun i a e => by
    unfold DL.view at e
    rw [List.getElem?_map] at e
    cases q : ρ[i]? with
    | none => rw [q] at e; cases e
    | some o =>
      rw [q] at e
      cases o with
      | none => cases e
      | some dv => cases dv <;> cases e
  refine ⟨Same.refl H, E.bh, by unfold DL.view; rw [List.length_map]; exact E.len, fun i dv e => ?_, fun i j p a b _ e _ _ => absurd e (noown i a)⟩
  unfold DL.view at e
  rw [List.getElem?_map] at e
  cases q : ρ[i]? with
  | none => rw [q] at e; cases e
  | some o =>
    rw [q] at e
    cases o with
    | none => cases e
    | some dv0 =>
      obtain ⟨v, h1, h2⟩ := E.at' i dv0 q
      refine ⟨v, h1, ?_⟩
      cases dv0 with
      | val d =>
        cases e
        exact Dp.mono h2 E.fh
      | own ds =>
        cases e
        obtain ⟨p, vs, rfl, _, _, h3, h4⟩ := h2
        exact Dp.lst (.inl (.inl h3)) (h4.mono E.fh)
/-- one own list is kept for good -/
theorem EnvOk.frz {K : Frag} {B F H : Hp} {ρ : Rho} {σ : L2.St} (E : EnvOk K B F H ρ σ) {i : Nat} {ds : List D} (e : ρ[i]? = some (some (.own ds))) :
    ∃ F', Same F F' ∧ (∀ p, F p = none → Mut (B p) → F' p = none) ∧ EnvOk K B F' H (ρ.set i (some (.val (.list ds)))) σ := by
  obtain ⟨v, h1, p, vs, rfl, hb, hf, hh, ha⟩ := E.at' i _ e
  have sF : Same F (upd F p (.lst vs)) := same_new hf
  have fh : Same (upd F p (.lst vs)) H := fun b u q => by
    by_cases hb : b = p
    · subst hb
      rw [upd_same] at q
      cases q
      exact hh
    · rw [upd_ne hb] at q
      exact E.fh b u q
  have hi : i < ρ.length := (List.getElem?_eq_some_iff.mp e).1
  have E' : EnvOk K B (upd F p (.lst vs)) H (ρ.set i (some (.val (.list ds)))) σ := by
    refine ⟨fh, E.bh, by rw [List.length_set]; exact E.len, fun j dv q => ?_, fun j k q a b hjk e1 e2 e3 => ?_⟩
    · by_cases hij : i = j
      · subst hij
        rw [List.getElem?_set_self hi] at q
        cases q
        exact ⟨.ref p, h1, Dp.lst (.inl (.inl upd_same)) (ha.mono sF)⟩
      · rw [List.getElem?_set_ne hij] at q
        obtain ⟨v, h2, h3⟩ := E.at' j dv q
        refine ⟨v, h2, ?_⟩
        cases dv with
        | val d => exact Dp.mono h3 sF
        | own a =>
          obtain ⟨p', us, rfl, g0, g1, g2, g3⟩ := h3
          have : p' ≠ p := fun z => by
            subst z
            exact E.sep j i p' a ds (Ne.symm hij) q e h2 h1
          exact ⟨p', us, rfl, g0, by rw [upd_ne this]; exact g1, g2, g3.mono sF⟩
    · have nn : ∀ (j : Nat) a, (ρ.set i (some (.val (.list ds))))[j]? = some (some (.own a)) → i ≠ j := fun j a z w => by
        subst w
        rw [List.getElem?_set_self hi] at z
        cases z
      rw [List.getElem?_set_ne (nn j a e1)] at e1
      rw [List.getElem?_set_ne (nn k b e2)] at e2
      exact E.sep j k q a b hjk e1 e2 e3
  refine ⟨_, sF, fun q hq m => ?_, E'⟩
  have : q ≠ p := fun z => by
    rw [z, hb] at m
    exact m
  rw [upd_ne this]
  exact hq
end DL

namespace DL
open PySem PySem.Spec PyProof.Rows L2

/-! ### readings over data -/
abbrev RE := Rho → (D → Prop) → Prop
abbrev RL := Rho → (List D → Prop) → Prop
abbrev RT := Rho → (Bool → Prop) → Prop
/-- a value that is read now: data that stays, or a list of one's own -/
def Bor (K : Frag) (F H : Hp) (v : V) (d : D) : Prop := Dp K F v d ∨ ∃ p vs xs, d = .list xs ∧ v = .ref p ∧ SqL K H p vs ∧ DpAll K F vs xs
theorem Bor.grow {K : Frag} {F H F' H' : Hp} {v : V} {d : D} (h : Bor K F H v d) (g : Gr F H F' H') : Bor K F' H' v d := by
  rcases h with h | ⟨p, vs, xs, e1, e2, h1, h2⟩
  · exact .inl (h.mono g.ff)
  · exact .inr ⟨p, vs, xs, e1, e2, g.hh.seq h1, h2.mono g.ff⟩
theorem Bor.lst {K : Frag} {F H : Hp} {v : V} {xs : List D} (fh : Same F H) (h : Bor K F H v (.list xs)) : ∃ p vs, v = .ref p ∧ SqL K H p vs ∧ DpAll K F vs xs := by
  rcases h with h | ⟨p, vs, xs', e1, e2, h1, h2⟩
  · cases h with
    | lst hs ha => exact ⟨_, _, rfl, fh.seq hs, ha⟩
  · cases e1
    exact ⟨p, vs, e2, h1, h2⟩
theorem Bor.tup {K : Frag} {F H : Hp} {v : V} {xs : List D} (fh : Same F H) (h : Bor K F H v (.tuple xs)) : ∃ p vs, v = .ref p ∧ SqT K F p vs ∧ SqT K H p vs ∧ DpAll K F vs xs := by
  rcases h with h | ⟨p, vs, xs', e1, e2, h1, h2⟩
  · cases h with
    | tup hs ha => exact ⟨_, _, rfl, hs, fh.seqT hs, ha⟩
  · cases e1
theorem Bor.int {K : Frag} {F H : Hp} {v : V} {i : Int} (h : Bor K F H v (.int i)) : v = .int i := by
  rcases h with h | ⟨p, vs, xs', e1, e2, h1, h2⟩
  · cases h; rfl
  · cases e1
theorem Bor.bl {K : Frag} {F H : Hp} {v : V} {i : Bool} (h : Bor K F H v (.bool i)) : v = .bl i := by
  rcases h with h | ⟨p, vs, xs', e1, e2, h1, h2⟩
  · cases h; rfl
  · cases e1
theorem Bor.str {K : Frag} {F H : Hp} {v : V} {i : Str} (h : Bor K F H v (.str i)) : v = .str i := by
  rcases h with h | ⟨p, vs, xs', e1, e2, h1, h2⟩
  · cases h; rfl
  · cases e1
theorem Bor.non {K : Frag} {F H : Hp} {v : V} (h : Bor K F H v .none) : v = .non := by
  rcases h with h | ⟨p, vs, xs', e1, e2, h1, h2⟩
  · cases h; rfl
  · cases e1
theorem Bor.dp {K : Frag} {F H : Hp} {v : V} {d : D} (fh : Same F H) (h : Bor K F H v d) : Dp K H v d := by
  rcases h with h | ⟨p, vs, xs', e1, e2, h1, h2⟩
  · exact h.mono fh
  · subst e1 e2
    exact .lst h1 (h2.mono fh)
theorem Bor.nd {K : Frag} {F H : Hp} {v : V} {xs} (h : Bor K F H v (.dict xs)) : False := by
  rcases h with h | ⟨p, vs, xs', e1, e2, h1, h2⟩
  · cases h
  · cases e1
def BorAll (K : Frag) (F H : Hp) : List V → List D → Prop := Paired (Bor K F H)
theorem BorAll.grow {K : Frag} {F H F' H' : Hp} {vs : List V} {ds : List D} (h : BorAll K F H vs ds) (g : Gr F H F' H') : BorAll K F' H' vs ds := L2.Paired.mapP h fun _ _ z => z.grow g
theorem BorAll.one {K : Frag} {F H : Hp} {vs : List V} {d : D} (h : BorAll K F H vs [d]) : ∃ v, vs = [v] ∧ Bor K F H v d := by
  cases h with
  | cons r t =>
    cases t
    exact ⟨_, rfl, r⟩
theorem BorAll.two {K : Frag} {F H : Hp} {vs : List V} {d e : D} (h : BorAll K F H vs [d, e]) : ∃ v u, vs = [v, u] ∧ Bor K F H v d ∧ Bor K F H u e := by
  cases h with
  | cons r t =>
    obtain ⟨u, rfl, b⟩ := BorAll.one t
    exact ⟨_, _, rfl, r, b⟩

section
variable (K : Frag)
def SimE (te : TE) (de : RE) : Prop := ∀ (B F H : Hp) (ρ : Rho) (σ : L2.St), EnvOk K B F H ρ σ → ∀ q : D → Prop, de ρ q → ∀ Q : VK, (∀ v d F' H', Gr F H F' H' → Dp K F' v d → q d → Q v H') → te σ H Q
def SimB (te : TE) (de : RE) : Prop := ∀ (B F H : Hp) (ρ : Rho) (σ : L2.St), EnvOk K B F H ρ σ → ∀ q : D → Prop, de ρ q → ∀ Q : VK, (∀ v d F' H', Gr F H F' H' → Bor K F' H' v d → q d → Q v H') → te σ H Q
/-- a new list, of one's own -/
def SimL (te : TE) (dl : RL) : Prop := ∀ (B F H : Hp) (ρ : Rho) (σ : L2.St), EnvOk K B F H ρ σ → ∀ q : List D → Prop, dl ρ q → ∀ Q : VK,
  (∀ p vs ds F' H', Gr F H F' H' → H p = none → F' p = none → H' p = some (.lst vs) → DpAll K F' vs ds → q ds → Q (.ref p) H') → te σ H Q
def SimT (tt : TT) (dt : RT) : Prop := ∀ (B F H : Hp) (ρ : Rho) (σ : L2.St), EnvOk K B F H ρ σ → ∀ q : Bool → Prop, dt ρ q → ∀ Q : Bool → Hp → Prop, (∀ b F' H', Gr F H F' H' → q b → Q b H') → tt σ H Q
def SimA (n : Nat) (ta : TA) (da : RL) : Prop := ∀ (B F H : Hp) (ρ : Rho) (σ : L2.St), EnvOk K B F H ρ σ → ∀ q : List D → Prop, da ρ q → ∀ Q : List V → Hp → Prop, (∀ vs ds F' H', Gr F H F' H' → DpAll K F' vs ds → ds.length = n → q ds → Q vs H') → ta σ H Q
def SimAB (ta : TA) (da : RL) : Prop := ∀ (B F H : Hp) (ρ : Rho) (σ : L2.St), EnvOk K B F H ρ σ → ∀ q : List D → Prop, da ρ q → ∀ Q : List V → Hp → Prop, (∀ vs ds F' H', Gr F H F' H' → BorAll K F' H' vs ds → q ds → Q vs H') → ta σ H Q
def SimO (to : TO) (do' : Rho → (Option Int → Prop) → Prop) : Prop := ∀ (B F H : Hp) (ρ : Rho) (σ : L2.St), EnvOk K B F H ρ σ → ∀ q : Option Int → Prop, do' ρ q → ∀ Q : Option Int → Hp → Prop, (∀ o F' H', Gr F H F' H' → q o → Q o H') → to σ H Q
end
def DE (X : Cx) (e : Expr) (de : RE) : Prop := ∃ te, PE X e te ∧ SimE X.K te de
def DB (X : Cx) (e : Expr) (de : RE) : Prop := ∃ te, PE X e te ∧ SimB X.K te de
def DLs (X : Cx) (e : Expr) (dl : RL) : Prop := ∃ te, PE X e te ∧ SimL X.K te dl
def DT (X : Cx) (e : Expr) (dt : RT) : Prop := ∃ tt, PT X e tt ∧ SimT X.K tt dt
def DW (X : Cx) (e : Expr) (dt : RT) : Prop := ∃ tt, PW X e tt ∧ SimT X.K tt dt
def DA (X : Cx) (es : List Expr) (da : RL) : Prop := ∃ ta, PA X es ta ∧ SimA X.K es.length ta da
def DAB (X : Cx) (es : List Expr) (da : RL) : Prop := ∃ ta, PA X es ta ∧ SimAB X.K ta da
def DO (X : Cx) (e : Option Expr) (do' : Rho → (Option Int → Prop) → Prop) : Prop := ∃ to, PO X e to ∧ SimO X.K to do'

section
variable {X : Cx} {e a b c : Expr} {es : List Expr} {de da db dc : RE} {dl : RL} {dt du : RT} {pos : Pos}
/-- data that stays may be read -/
theorem DE.toB (h : DE X e de) : DB X e de := by
  obtain ⟨te, h1, h2⟩ := h
  exact ⟨te, h1, fun B F H ρ σ E q hq Q k => h2 B F H ρ σ E q hq Q fun v d F' H' g r z => k v d F' H' g (.inl r) z⟩
/-- a new list is data, if one wants -/
def dLst (dl : RL) : RE := fun ρ q => dl ρ fun ds => q (.list ds)
theorem DLs.toE (h : DLs X e dl) : DE X e (dLst dl) := by
  obtain ⟨te, h1, h2⟩ := h
  refine ⟨te, h1, fun B F H ρ σ E q hq Q k => h2 B F H ρ σ E _ hq Q fun p vs ds F' H' g hp hf hh ha z => ?_⟩
  have fh : Same (upd F' p (.lst vs)) H' := fun b u w => by
    by_cases hb : b = p
    · subst hb
      rw [upd_same] at w
      cases w
      exact hh
    · rw [upd_ne hb] at w
      exact g.fh b u w
  refine k (.ref p) (.list ds) (upd F' p (.lst vs)) H' ⟨g.ff.trans (same_new hf), g.hh, fh, fun q hq m => ?_⟩ (.lst (.inl (.inl upd_same)) (ha.mono (same_new hf))) z
  have : q ≠ p := fun w => by
    rw [w, hp] at m
    exact m
  rw [upd_ne this]
  exact g.own q hq m
/- the heap without what is of one's own -/
open Classical in
noncomputable def keepOff (F H H' : Hp) : Hp := fun p => if F p = none ∧ Mut (H p) then none else H' p
theorem keepOff_gr {F H H' : Hp} (fh : Same F H) (g : Same H H') : Gr F H (keepOff F H H') H' := by
  refine ⟨fun p o e => ?_, g, fun p o e => ?_, fun p hf m => ?_⟩
  · unfold keepOff
    rw [if_neg (by rw [e]; rintro ⟨z, _⟩; cases z)]
    exact g p o (fh p o e)
  · unfold keepOff at e
    split at e
    · cases e
    · exact e
  · unfold keepOff
    rw [if_pos ⟨hf, m⟩]
theorem keepOff_keep {F H H' : Hp} (g : Same H H') : ∀ b u, H' b = some u → ¬ Mut (some u) → keepOff F H H' b = some u := fun b u e nm => by
  unfold keepOff
  rw [if_neg]
  · exact e
  · rintro ⟨_, m⟩
    have z := mut_same g m
    rw [e] at z
    rw [← z] at m
    exact nm m
/-- read with own lists as data; what comes has no list -/
def dView (de : RE) : RE := fun ρ q => de (view ρ) fun d => noLst d = true ∧ q d
theorem DE.vw (h : DE X e de) : DE X e (dView de) := by
  obtain ⟨te, h1, h2⟩ := h
  refine ⟨te, h1, fun B F H ρ σ E q hq Q k => h2 B H H (view ρ) σ E.view _ hq Q fun v d F' H' g r z => ?_⟩
  have r2 : Dp X.K H' v d := r.mono g.fh
  exact k v d (keepOff F H H') H' (keepOff_gr E.fh g.hh) (dp_cut (keepOff_keep g.hh) d z.1 r2) z.2
/-- the test of it (no value comes) -/
def tView (dt : RT) : RT := fun ρ q => dt (view ρ) q
theorem DT.vw (h : DT X e dt) : DT X e (tView dt) := by
  obtain ⟨te, h1, h2⟩ := h
  exact ⟨te, h1, fun B F H ρ σ E q hq Q k => h2 B H H (view ρ) σ E.view _ hq Q fun b F' H' g z => k b (keepOff F H H') H' (keepOff_gr E.fh g.hh) z⟩
/-- a new list, read with own lists as data; its items have no list -/
def lView (dl : RL) : RL := fun ρ q => dl (view ρ) fun ds => noLstAll ds = true ∧ q ds
theorem DLs.vw (h : DLs X e dl) : DLs X e (lView dl) := by
  obtain ⟨te, h1, h2⟩ := h
  refine ⟨te, h1, fun B F H ρ σ E q hq Q k => h2 B H H (view ρ) σ E.view _ hq Q fun p vs ds F' H' g hp hf hh ha z => ?_⟩
  have g2 := keepOff_gr (H' := H') E.fh g.hh
  have fp : F p = none := E.fh.free hp
  -- the new list itself stays off
  have F2 : ∃ F2 : Hp, Gr F H F2 H' ∧ F2 p = none ∧ DpAll X.K F2 vs ds := by
    classical
    refine ⟨fun q => if q = p then none else keepOff F H H' q, ⟨fun b u w => ?_, g.hh, fun b u w => ?_, fun b w m => ?_⟩, by simp, ?_⟩
    · have : b ≠ p := ne_of_none w fp
      show (if b = p then none else _) = _
      rw [if_neg this]
      exact g2.ff b u w
    · have w : (if b = p then none else keepOff F H H' b) = some u := w
      split at w
      · cases w
      · exact g2.fh b u w
    · show (if b = p then none else _) = _
      split
      · rfl
      · exact g2.own b w m
    · refine dpAll_cut (H := H') (fun b u w nm => ?_) ds z.1 (ha.mono g.fh)
      have : b ≠ p := fun y => by
        subst y
        rw [hh] at w
        cases w
        exact nm trivial
      show (if b = p then none else _) = _
      rw [if_neg this]
      exact keepOff_keep g.hh b u w nm
  obtain ⟨F2, g3, f3, a3⟩ := F2
  exact k p vs ds F2 H' g3 hp f3 hh a3 z.2

/-! ### names, constants -/
def dVar (i : Nat) : RE := fun ρ q => match ρ[i]? with | some (some (.val d)) => q d | _ => False
def bVar (i : Nat) : RE := fun ρ q => match ρ[i]? with | some (some (.val d)) => q d | some (some (.own ds)) => q (.list ds) | _ => False
theorem dv (i : Nat) {x : Str} (hN : X.N[i]? = some x := by rfl) (hv : Vis X.env.scope x := by first | exact Or.inl rfl | exact Or.inr (Or.inl rfl) | exact Or.inr (Or.inr rfl)) (hd : (x == ("__debug__" : Str)) = false := by decide)
    (hcd : (x == ("__classdict__" : Str)) = false := by decide) : DE X (.Name x pos) (dVar i) := by
  refine ⟨_, pe_var hN hv hd hcd, fun B F H ρ σ E q hq Q k => ?_⟩
  unfold dVar at hq
  split at hq
  · rename_i d e
    obtain ⟨v, h1, h2⟩ := E.at' i _ e
    exact ⟨v, h1, k v d F H (Gr.refl E.fh) h2 hq⟩
  · exact hq.elim
theorem bv (i : Nat) {x : Str} (hN : X.N[i]? = some x := by rfl) (hv : Vis X.env.scope x := by first | exact Or.inl rfl | exact Or.inr (Or.inl rfl) | exact Or.inr (Or.inr rfl)) (hd : (x == ("__debug__" : Str)) = false := by decide)
    (hcd : (x == ("__classdict__" : Str)) = false := by decide) : DB X (.Name x pos) (bVar i) := by
  refine ⟨_, pe_var hN hv hd hcd, fun B F H ρ σ E q hq Q k => ?_⟩
  unfold bVar at hq
  split at hq
  · rename_i d e
    obtain ⟨v, h1, h2⟩ := E.at' i _ e
    exact ⟨v, h1, k v d F H (Gr.refl E.fh) (.inl h2) hq⟩
  · rename_i ds e
    obtain ⟨v, h1, p, vs, rfl, f0, f1, f2, f3⟩ := E.at' i _ e
    exact ⟨.ref p, h1, k (.ref p) (.list ds) F H (Gr.refl E.fh) (.inr ⟨p, vs, ds, rfl, rfl, .inl (.inl f2), f3⟩) hq⟩
  · exact hq.elim
def dC (d : D) : RE := fun _ q => q d
theorem de_int {i j} : DE X (.Constant (.int i) j pos) (dC (.int i)) := ⟨_, pe_int, fun B F H ρ σ E q hq Q k => k _ _ F H (Gr.refl E.fh) (.int _) hq⟩
theorem de_bl {i j} : DE X (.Constant (.bool i) j pos) (dC (.bool i)) := ⟨_, pe_bl, fun B F H ρ σ E q hq Q k => k _ _ F H (Gr.refl E.fh) (.bl _) hq⟩
theorem de_non {j} : DE X (.Constant .none j pos) (dC .none) := ⟨_, pe_non, fun B F H ρ σ E q hq Q k => k _ _ F H (Gr.refl E.fh) .non hq⟩
theorem de_str {i j} : DE X (.Constant (.str i) j pos) (dC (.str i)) := ⟨_, pe_str, fun B F H ρ σ E q hq Q k => k _ _ F H (Gr.refl E.fh) (.str _) hq⟩

/-! ### operators -/
abbrev G2 := D → D → (D → Prop) → Prop
abbrev G1 := D → (D → Prop) → Prop
abbrev GA := List D → (D → Prop) → Prop
/-- what an operator's reading gives over data -/
def Sim2 (K : Frag) (r : R2) (g : G2) : Prop := ∀ (F H : Hp) (v u : V) (x y : D), Same F H → Bor K F H v x → Bor K F H u y → ∀ q : D → Prop, g x y q → ∀ Q : VK, (∀ w d F' H', Gr F H F' H' → Dp K F' w d → q d → Q w H') → r v u H Q
def Sim1 (K : Frag) (r : V → Hp → VK → Prop) (g : G1) : Prop := ∀ (F H : Hp) (v : V) (x : D), Same F H → Bor K F H v x → ∀ q : D → Prop, g x q → ∀ Q : VK, (∀ w d F' H', Gr F H F' H' → Dp K F' w d → q d → Q w H') → r v H Q
def SimC (K : Frag) (r : List V → Hp → VK → Prop) (g : GA) : Prop := ∀ (F H : Hp) (vs : List V) (xs : List D), Same F H → BorAll K F H vs xs → ∀ q : D → Prop, g xs q → ∀ Q : VK, (∀ w d F' H', Gr F H F' H' → Dp K F' w d → q d → Q w H') → r vs H Q
/-- .. a new list -/
def SimCL (K : Frag) (r : List V → Hp → VK → Prop) (g : List D → (List D → Prop) → Prop) : Prop := ∀ (F H : Hp) (vs : List V) (xs : List D), Same F H → BorAll K F H vs xs → ∀ q : List D → Prop, g xs q → ∀ Q : VK,
  (∀ p us ds F' H', Gr F H F' H' → H p = none → F' p = none → H' p = some (.lst us) → DpAll K F' us ds → q ds → Q (.ref p) H') → r vs H Q
def Sim2L (K : Frag) (r : R2) (g : D → D → (List D → Prop) → Prop) : Prop := ∀ (F H : Hp) (v u : V) (x y : D), Same F H → Bor K F H v x → Bor K F H u y → ∀ q : List D → Prop, g x y q → ∀ Q : VK,
  (∀ p us ds F' H', Gr F H F' H' → H p = none → F' p = none → H' p = some (.lst us) → DpAll K F' us ds → q ds → Q (.ref p) H') → r v u H Q
def OpD (X : Cx) (f : Value → Value → Sem Value) (g : G2) : Prop := ∃ r, OpR X f r ∧ Sim2 X.K r g
def OpL (X : Cx) (f : Value → Value → Sem Value) (g : D → D → (List D → Prop) → Prop) : Prop := ∃ r, OpR X f r ∧ Sim2L X.K r g
def IxD (X : Cx) (g : G2) : Prop := ∃ r, IxR X r ∧ Sim2 X.K r g
def UnD (X : Cx) (f : Value → Sem Value) (g : G1) : Prop := ∃ r, UnR X f r ∧ Sim1 X.K r g
def CallD (X : Cx) (f : Value) (g : GA) : Prop := ∃ r, CallR X f r ∧ SimC X.K r g
def CallL (X : Cx) (f : Value) (g : List D → (List D → Prop) → Prop) : Prop := ∃ r, CallR X f r ∧ SimCL X.K r g
def d2 (g : G2) (da db : RE) : RE := fun ρ q => da ρ fun x => db ρ fun y => g x y q
def d1 (g : G1) (da : RE) : RE := fun ρ q => da ρ fun x => g x q
def l2 (g : D → D → (List D → Prop) → Prop) (da db : RE) : RL := fun ρ q => da ρ fun x => db ρ fun y => g x y q
theorem sim_two {K : Frag} {ta tb : TE} {r : R2} {g : G2} (ha : SimB K ta da) (hb : SimB K tb db) (hr : Sim2 K r g) : SimE K (tOp r ta tb) (d2 g da db) := fun B F H ρ σ E q hq Q k =>
  ha B F H ρ σ E _ hq _ fun v x F1 H1 g1 r1 z1 => hb B F1 H1 ρ σ (E.grow g1) _ z1 _ fun u y F2 H2 g2 r2 z2 =>
    hr F2 H2 v u x y g2.fh (r1.grow g2) r2 q z2 Q fun w d F3 H3 g3 r3 z3 => k w d F3 H3 ((g1.trans g2).trans g3) r3 z3
theorem de_op {op : Operator} {g : G2} (ho : OpD X (binaryOp op) g) (ha : DB X a da) (hb : DB X b db) : DE X (.BinOp a op b pos) (d2 g da db) := by
  obtain ⟨r, o1, o2⟩ := ho
  obtain ⟨ta, a1, a2⟩ := ha
  obtain ⟨tb, b1, b2⟩ := hb
  exact ⟨_, pe_op o1 a1 b1, sim_two a2 b2 o2⟩
theorem dl_op {op : Operator} {g : D → D → (List D → Prop) → Prop} (ho : OpL X (binaryOp op) g) (ha : DB X a da) (hb : DB X b db) : DLs X (.BinOp a op b pos) (l2 g da db) := by
  obtain ⟨r, o1, o2⟩ := ho
  obtain ⟨ta, a1, a2⟩ := ha
  obtain ⟨tb, b1, b2⟩ := hb
  refine ⟨_, pe_op o1 a1 b1, fun B F H ρ σ E q hq Q k =>
    a2 B F H ρ σ E _ hq _ fun v x F1 H1 g1 r1 z1 => b2 B F1 H1 ρ σ (E.grow g1) _ z1 _ fun u y F2 H2 g2 r2 z2 =>
      o2 F2 H2 v u x y g2.fh (r1.grow g2) r2 q z2 Q fun p us ds F3 H3 g3 hp hf hh r3 z3 => k p us ds F3 H3 ((g1.trans g2).trans g3) ((g1.trans g2).hh.free hp) hf hh r3 z3⟩
theorem de_ix {g : G2} (ho : IxD X g) (ha : DB X a da) (hb : DB X b db) (hs : PlainIx b := by exact fun _ _ => rfl) : DE X (.Subscript a b pos) (d2 g da db) := by
  obtain ⟨r, o1, o2⟩ := ho
  obtain ⟨ta, a1, a2⟩ := ha
  obtain ⟨tb, b1, b2⟩ := hb
  exact ⟨_, pe_ix o1 a1 b1 hs, sim_two a2 b2 o2⟩
theorem de_cmp {op : CmpOp} {g : G2} (ho : OpD X (compareOp op) g) (ha : DB X a da) (hb : DB X b db) (hm : behindInMarks op b = false := by first | exact nomark _ | rfl) : DE X (.Compare a [op] [b] pos) (d2 g da db) := by
  obtain ⟨r, o1, o2⟩ := ho
  obtain ⟨ta, a1, a2⟩ := ha
  obtain ⟨tb, b1, b2⟩ := hb
  exact ⟨_, pe_cmpR o1 a1 b1 hm, sim_two a2 b2 o2⟩
/-- a value that is True or False -/
def tBool (de : RE) : RT := fun ρ q => de ρ fun d => match d with | .bool k => q k | _ => False
theorem sim_bool {K : Frag} {te : TE} (h : SimE K te de) : SimT K (tTest te) (tBool de) := fun B F H ρ σ E q hq Q k =>
  h B F H ρ σ E _ hq _ fun v d F' H' g r z => by
    cases d with
    | bool b =>
      cases r
      exact ⟨b, rfl, k b F' H' g z⟩
    | none => exact z.elim
    | int _ => exact z.elim
    | str _ => exact z.elim
    | list _ => exact z.elim
    | tuple _ => exact z.elim
    | dict _ => exact z.elim
theorem dt_cmp {op : CmpOp} {g : G2} (ho : OpD X (compareOp op) g) (ha : DB X a da) (hb : DB X b db) (hm : behindInMarks op b = false := by first | exact nomark _ | rfl) : DT X (.Compare a [op] [b] pos) (tBool (d2 g da db)) := by
  obtain ⟨r, o1, o2⟩ := ho
  obtain ⟨ta, a1, a2⟩ := ha
  obtain ⟨tb, b1, b2⟩ := hb
  exact ⟨_, pt_cmpR o1 a1 b1 hm, sim_bool (sim_two a2 b2 o2)⟩
theorem de_un {op : UnaryOp} {g : G1} (ho : UnD X (unaryOp op) g) (ha : DB X a da) : DE X (.UnaryOp op a pos) (d1 g da) := by
  obtain ⟨r, o1, o2⟩ := ho
  obtain ⟨ta, a1, a2⟩ := ha
  exact ⟨_, pe_un o1 a1, fun B F H ρ σ E q hq Q k => a2 B F H ρ σ E _ hq _ fun v x F1 H1 g1 r1 z1 => o2 F1 H1 v x g1.fh r1 q z1 Q fun w d F3 H3 g3 r3 z3 => k w d F3 H3 (g1.trans g3) r3 z3⟩

/-! ### argument lists, displays -/
def dNil : RL := fun _ q => q []
def dCons (da : RE) (dr : RL) : RL := fun ρ q => da ρ fun x => dr ρ fun xs => q (x :: xs)
theorem da_nil : DA X [] dNil := ⟨_, pa_nil, fun B F H ρ σ E q hq Q k => k [] [] F H (Gr.refl E.fh) .nil rfl hq⟩
theorem da_cons {dr : RL} (ha : DE X a da) (hr : DA X es dr) (hs : starEach (a :: es) X.env = (false, eval a X.env) :: starEach es X.env := by rfl) : DA X (a :: es) (dCons da dr) := by
  obtain ⟨ta, a1, a2⟩ := ha
  obtain ⟨tr, r1, r2⟩ := hr
  exact ⟨_, pa_cons a1 r1 hs, fun B F H ρ σ E q hq Q k => a2 B F H ρ σ E _ hq _ fun v x F1 H1 g1 d1 z1 => r2 B F1 H1 ρ σ (E.grow g1) _ z1 _ fun vs xs F2 H2 g2 d2 ln z2 =>
    k (v :: vs) (x :: xs) F2 H2 (g1.trans g2) (.cons (d1.mono g2.ff) d2) (by rw [List.length_cons, List.length_cons, ln]) z2⟩
theorem ab_nil : DAB X [] dNil := ⟨_, pa_nil, fun B F H ρ σ E q hq Q k => k [] [] F H (Gr.refl E.fh) .nil hq⟩
theorem ab_cons {dr : RL} (ha : DB X a da) (hr : DAB X es dr) (hs : starEach (a :: es) X.env = (false, eval a X.env) :: starEach es X.env := by rfl) : DAB X (a :: es) (dCons da dr) := by
  obtain ⟨ta, a1, a2⟩ := ha
  obtain ⟨tr, r1, r2⟩ := hr
  exact ⟨_, pa_cons a1 r1 hs, fun B F H ρ σ E q hq Q k => a2 B F H ρ σ E _ hq _ fun v x F1 H1 g1 d1 z1 => r2 B F1 H1 ρ σ (E.grow g1) _ z1 _ fun vs xs F2 H2 g2 d2 z2 =>
    k (v :: vs) (x :: xs) F2 H2 (g1.trans g2) (.cons (d1.grow g2) d2) z2⟩
/-- (a, b, ..) -/
def dTup (da : RL) : RE := fun ρ q => da ρ fun xs => q (.tuple xs)
theorem de_tup {x1 : _} {da' : RL} (h : DA X es da') (hl : es.length ≤ sizeLine := by (show _ ≤ sizeLine; rw [sizeLine_eq]; decide)) : DE X (.Tuple es x1 pos) (dTup da') := by
  obtain ⟨ta, a1, a2⟩ := h
  refine ⟨_, pe_tup a1, fun B F H ρ σ E q hq Q k => a2 B F H ρ σ E _ hq _ fun vs xs F1 H1 g1 d1 ln z1 => ⟨by rw [d1.length, ln]; exact hl, fun p hp => ?_⟩⟩
  have g2 := Gr.new (o := .tup vs) g1.fh hp
  exact k (.ref p) (.tuple xs) _ _ (g1.trans g2) (.tup (.inl (.inl upd_same)) (d1.mono g2.ff)) z1
theorem dl_lst {da' : RL} (h : DA X es da') (hl : es.length ≤ sizeLine := by (show _ ≤ sizeLine; rw [sizeLine_eq]; decide)) : DLs X (.List es pos) da' := by
  obtain ⟨ta, a1, a2⟩ := h
  refine ⟨_, pe_lst a1, fun B F H ρ σ E q hq Q k => a2 B F H ρ σ E _ hq _ fun vs xs F1 H1 g1 d1 ln z1 => ⟨by rw [d1.length, ln]; exact hl, fun p hp => ?_⟩⟩
  have g2 := Gr.newO (o := .lst vs) g1.fh hp
  exact k p vs xs _ _ (g1.trans g2) (g1.hh.free hp) (g1.fh.free hp) upd_same d1 z1
end
end DL

namespace DL
open PySem PySem.Spec PyProof.Rows L2
section
variable {X : Cx}
theorem OpD.or {f : Value → Value → Sem Value} {g g' h : G2} (a : OpD X f g) (b : OpD X f g') (e : ∀ x y q, h x y q → g x y q ∨ g' x y q) : OpD X f h := by
  obtain ⟨r, h1, h2⟩ := a
  obtain ⟨r', h1', h2'⟩ := b
  refine ⟨_, h1.or h1', fun F H v u x y fh bx bY q hq Q k => ?_⟩
  rcases e x y q hq with z | z
  · exact .inl (h2 F H v u x y fh bx bY q z Q k)
  · exact .inr (h2' F H v u x y fh bx bY q z Q k)
theorem OpD.imp {f : Value → Value → Sem Value} {g h : G2} (a : OpD X f g) (e : ∀ x y q, h x y q → g x y q) : OpD X f h := by
  obtain ⟨r, h1, h2⟩ := a
  exact ⟨r, h1, fun F H v u x y fh bx bY q hq Q k => h2 F H v u x y fh bx bY q (e x y q hq) Q k⟩

/-! ### whole numbers -/
def gI (C : Int → Int → Prop) (g : Int → Int → D) : G2 := fun x y q => match x, y with | .int i, .int j => C i j ∧ q (g i j) | _, _ => False
theorem gI_ok {C : Int → Int → Prop} {g : Int → Int → D} {x y : D} {q : D → Prop} (h : gI C g x y q) : ∃ i j, x = .int i ∧ y = .int j ∧ C i j ∧ q (g i j) := by
  unfold gI at h
  split at h
  · exact ⟨_, _, rfl, rfl, h⟩
  · exact h.elim
/-- a result without objects -/
def Flat : V → D → Prop
  | .non, .none => True | .bl b, .bool c => b = c | .int i, .int j => i = j | .str x, .str y => x = y
  | _, _ => False
theorem Flat.dp {K : Frag} {H : Hp} {v : V} {d : D} (h : Flat v d) : Dp K H v d := by
  cases v <;> cases d <;> first | exact h.elim | (cases h; constructor)
theorem opd_I {f : Value → Value → Sem Value} {C : Int → Int → Prop} {g : Int → Int → V} {gd : Int → Int → D} (h : OpR X f (rI C g)) (e : ∀ i j, Flat (g i j) (gd i j)) : OpD X f (gI C gd) := by
  refine ⟨_, h, fun F H v u x y fh bx bY q hq Q k => ?_⟩
  obtain ⟨i, j, rfl, rfl, c, z⟩ := gI_ok hq
  exact ⟨i, j, bx.int, bY.int, c, k _ _ F H (Gr.refl fh) (e i j).dp z⟩
theorem opd_I0 {f : Value → Value → Sem Value} {g : Int → Int → V} {gd : Int → Int → D} (h : OpR X f (rI0 g)) (e : ∀ i j, Flat (g i j) (gd i j)) : OpD X f (gI (fun _ _ => True) gd) := by
  refine ⟨_, h, fun F H v u x y fh bx bY q hq Q k => ?_⟩
  obtain ⟨i, j, rfl, rfl, c, z⟩ := gI_ok hq
  exact ⟨i, j, bx.int, bY.int, k _ _ F H (Gr.refl fh) (e i j).dp z⟩
theorem op_mulZ : OpR X (binaryOp .Mult) (rI MulOk fun i j => .int (i * j)) := opI fun _ _ _ _ _ _ _ hc q => mul_int q hc.ok
theorem op_fdivZ : OpR X (binaryOp .FloorDiv) (rI CDivZ fun i j => .int (i.fdiv j)) := opI fun i j _ _ _ _ _ hc q => floordiv_int hc.nz q (.inl hc.np)
def gSubI : G2 := gI (fun _ _ => True) fun i j => .int (i - j)
def gMulI : G2 := gI MulOk fun i j => .int (i * j)
def gFdiv : G2 := gI CDivZ fun i j => .int (i.fdiv j)
def gMod : G2 := gI (fun _ j => j ≠ 0) fun i j => .int (i.fmod j)
def gPow : G2 := gI PowOk fun i j => .int (i ^ j.toNat)
def gShl : G2 := gI ShlOk fun i j => .int (i * 2 ^ j.toNat)
def gShr : G2 := gI (fun _ j => 0 ≤ j) fun i j => .int (i / 2 ^ j.toNat)
theorem o_sub : OpD X (binaryOp .Sub) gSubI := opd_I0 op_sub fun _ _ => rfl
theorem o_mulI : OpD X (binaryOp .Mult) gMulI := opd_I op_mulZ fun _ _ => rfl
theorem o_mul : OpD X (binaryOp .Mult) gMulI := o_mulI
theorem o_fdiv : OpD X (binaryOp .FloorDiv) gFdiv := opd_I op_fdivZ fun _ _ => rfl
theorem o_mod : OpD X (binaryOp .Mod) gMod := opd_I op_modN fun _ _ => rfl
theorem rI_imp {f : Value → Value → Sem Value} {C C' : Int → Int → Prop} {g : Int → Int → V} (h : OpR X f (rI C g)) (e : ∀ i j, C' i j → C i j) : OpR X f (rI C' g) := fun pins s σ H x y v u Q I rx ry ⟨i, j, e1, e2, c, q⟩ => h pins s σ H x y v u Q I rx ry ⟨i, j, e1, e2, e i j c, q⟩
theorem o_pow : OpD X (binaryOp .Pow) gPow := opd_I (rI_imp op_pow fun _ _ (c : PowOk _ _) => c.ok) fun _ _ => rfl
theorem o_shl : OpD X (binaryOp .LShift) gShl := opd_I (rI_imp op_shlW fun _ _ (c : ShlOk _ _) => c.ok) fun _ _ => rfl
theorem o_shr : OpD X (binaryOp .RShift) gShr := opd_I op_shr fun _ _ => rfl
def gAnd : G2 := gI (fun _ _ => True) fun i j => .int (Builtin.bitAnd i j)
theorem o_and : OpD X (binaryOp .BitAnd) gAnd := opd_I0 op_and fun _ _ => rfl
def gXor : G2 := gI (fun _ _ => True) fun i j => .int (Builtin.bitXor i j)
theorem o_xor : OpD X (binaryOp .BitXor) gXor := opd_I0 op_xor fun _ _ => rfl
def gLt : G2 := gI (fun _ _ => True) fun i j => .bool (decide (i < j))
def gLe : G2 := gI (fun _ _ => True) fun i j => .bool (decide (i ≤ j))
def gGt : G2 := gI (fun _ _ => True) fun i j => .bool (decide (j < i))
def gGe : G2 := gI (fun _ _ => True) fun i j => .bool (decide (j ≤ i))
theorem o_lt : OpD X (compareOp .Lt) gLt := opd_I0 op_lt fun _ _ => rfl
theorem o_le : OpD X (compareOp .LtE) gLe := opd_I0 op_le fun _ _ => rfl
theorem o_gt : OpD X (compareOp .Gt) gGt := opd_I0 op_gt fun _ _ => rfl
theorem o_ge : OpD X (compareOp .GtE) gGe := opd_I0 op_ge fun _ _ => rfl

/-! ### + of texts, tuples, lists -/
def gCatS : G2 := fun x y q => match x, y with | .str i, .str j => Fit (i.length + j.length) ∧ q (.str (i ++ j)) | _, _ => False
theorem o_catS : OpD X (binaryOp .Add) gCatS := by
  refine ⟨_, op_add_str, fun F H v u x y fh bx bY q hq Q k => ?_⟩
  unfold gCatS at hq
  split at hq
  · exact ⟨_, _, bx.str, bY.str, hq.1.le, k _ _ F H (Gr.refl fh) (.str _) hq.2⟩
  · exact hq.elim
def gCatT : G2 := fun x y q => match x, y with | .tuple xs, .tuple ys => Fit (xs.length + ys.length) ∧ q (.tuple (xs ++ ys)) | _, _ => False
theorem o_catT : OpD X (binaryOp .Add) gCatT := by
  refine ⟨_, op_catA, fun F H v u x y fh bx bY q hq Q k => ?_⟩
  unfold gCatT at hq
  split at hq
  · rename_i xs ys
    obtain ⟨a, vs, rfl, f1, h1, d1⟩ := bx.tup fh
    obtain ⟨b, us, rfl, f2, h2, d2⟩ := bY.tup fh
    refine ⟨a, b, vs, us, rfl, rfl, h1, h2, by rw [d1.length, d2.length]; exact hq.1.le, fun e => ?_, fun _ e => ?_, fun _ _ p hp => ?_⟩
    · subst e
      cases d1
      exact k _ _ F H (Gr.refl fh) (.tup f2 d2) hq.2
    · subst e
      cases d2
      rw [List.append_nil] at hq
      exact k _ _ F H (Gr.refl fh) (.tup f1 d1) hq.2
    · have g := Gr.new (o := .tup (vs ++ us)) fh hp
      exact k _ _ _ _ g (.tup (.inl (.inl upd_same)) ((d1.append d2).mono g.ff)) hq.2
  · exact hq.elim
def rCatG (K : Frag) : R2 := fun x y H Q => ∃ l b xs zs, x = .ref l ∧ y = .ref b ∧ SqL K H l xs ∧ SqL K H b zs ∧ xs.length + zs.length ≤ sizeLine ∧ ∀ p, H p = none → Q (.ref p) (upd H p (.lst (xs ++ zs)))
theorem op_catG : OpR X (binaryOp .Add) (rCatG X.K) := by
  intro pins s σ H x y v u Q I rx ry h
  obtain ⟨l, b, xs, zs, rfl, rfl, hH, hB, hz, q⟩ := h
  cases rx
  cases ry
  obtain ⟨its, r, ⟨⟨cls, dd, data, sl⟩, n, ho, hc, hd0, hd⟩, hs⟩ := I.list hH
  obtain ⟨its2, r2, ⟨⟨cls2, dd2, data2, sl2⟩, n2, ho2, hc2, hd02, hd2⟩, hs2⟩ := I.list hB
  simp only at hc hd hd0 hc2 hd2 hd02
  subst hc hd hd0 hc2 hd2 hd02
  have ea : its.toArray ++ its2.toArray = (its ++ its2).toArray := by simp
  refine concat_meets ⟨_, ho, rfl⟩ ⟨_, ho2, rfl⟩ noFill_list_add seq_list_add PySem.F.slot_list_add PySem.F.entry_list_add (PySem.F.args_list_add_2 _ _) (list_addW l b its.toArray its2.toArray n n2 none none sl sl2 (by
    have := r.length
    have := r2.length
    simp only [List.size_toArray]
    omega)) ⟨ho, ho2, ?_⟩
  rw [ea]
  exact ⟨.ref _, _, I.lnew (t' := s.toks) (r.append r2) (by rw [List.length_append]; omega), rfl, q _ I.fresh⟩
def lCat : D → D → (List D → Prop) → Prop := fun x y q => match x, y with | .list xs, .list ys => Fit (xs.length + ys.length) ∧ q (xs ++ ys) | _, _ => False
theorem o_catL : OpL X (binaryOp .Add) lCat := by
  refine ⟨_, op_catG, fun F H v u x y fh bx bY q hq Q k => ?_⟩
  unfold lCat at hq
  split at hq
  · rename_i xs ys
    obtain ⟨a, vs, rfl, h1, d1⟩ := bx.lst fh
    obtain ⟨b, us, rfl, h2, d2⟩ := bY.lst fh
    refine ⟨a, b, vs, us, rfl, rfl, h1, h2, by rw [d1.length, d2.length]; exact hq.1.le, fun p hp => ?_⟩
    exact k _ _ _ _ _ (Gr.newO fh hp) hp (fh.free hp) upd_same (d1.append d2) hq.2
  · exact hq.elim
/-- a new list as data -/
def toG (g : D → D → (List D → Prop) → Prop) : G2 := fun x y q => g x y fun ds => q (.list ds)
theorem gr_frz {F H F' H' : Hp} {p : Addr} {us : List V} (g : Gr F H F' H') (hp : H p = none) (hf : F' p = none) (hh : H' p = some (.lst us)) : Gr F H (upd F' p (.lst us)) H' := by
  refine ⟨g.ff.trans (same_new hf), g.hh, fun b u w => ?_, fun q hq m => ?_⟩
  · by_cases hb : b = p
    · subst hb
      rw [upd_same] at w
      cases w
      exact hh
    · rw [upd_ne hb] at w
      exact g.fh b u w
  · have : q ≠ p := fun w => by
      rw [w, hp] at m
      exact m
    rw [upd_ne this]
    exact g.own q hq m
theorem OpL.d {f : Value → Value → Sem Value} {g : D → D → (List D → Prop) → Prop} (h : OpL X f g) : OpD X f (toG g) := by
  obtain ⟨r, h1, h2⟩ := h
  refine ⟨r, h1, fun F H v u x y fh bx bY q hq Q k => h2 F H v u x y fh bx bY _ hq Q fun p us ds F' H' g hp hf hh ha z => ?_⟩
  exact k (.ref p) (.list ds) _ _ (gr_frz g hp hf hh) (.lst (.inl (.inl upd_same)) (ha.mono (same_new hf))) z
/-- + of whole numbers, texts, tuples, lists -/
def gAdd : G2 := fun x y q => match x, y with
  | .int i, .int j => q (.int (i + j))
  | .str i, .str j => Fit (i.length + j.length) ∧ q (.str (i ++ j))
  | .tuple xs, .tuple ys => Fit (xs.length + ys.length) ∧ q (.tuple (xs ++ ys))
  | .list xs, .list ys => Fit (xs.length + ys.length) ∧ q (.list (xs ++ ys))
  | _, _ => False
theorem o_add : OpD X (binaryOp .Add) gAdd :=
  (opd_I0 (gd := fun i j => .int (i + j)) op_add fun _ _ => rfl).or ((o_catS.or (g := gCatS) (o_catT.or (g := gCatT) (h := fun x y q => gCatT x y q ∨ toG lCat x y q) o_catL.d fun _ _ _ z => z) (h := fun x y q => gCatS x y q ∨ (gCatT x y q ∨ toG lCat x y q)) fun _ _ _ z => z)) fun x y q h => by
    unfold gAdd at h
    split at h
    · exact .inl ⟨trivial, h⟩
    · exact .inr (.inl h)
    · exact .inr (.inr (.inl h))
    · exact .inr (.inr (.inr h))
    · exact h.elim

/-! ### * of lists, tuples -/
def lRep : D → D → (List D → Prop) → Prop := fun x y q => match x, y with | .list xs, .int k => (-(2 ^ 63) ≤ k ∧ k < 2 ^ 63 ∧ Fit (xs.length * k.toNat)) ∧ q (List.replicate k.toNat xs).flatten | _, _ => False
def rRepG (K : Frag) : R2 := fun x y H Q => ∃ l k xs, x = .ref l ∧ y = .int k ∧ H l = some (.lst xs) ∧ -(2 ^ 63) ≤ k ∧ k < 2 ^ 63 ∧ xs.length * k.toNat ≤ sizeLine ∧
  ∀ p, H p = none → Q (.ref p) (upd H p (.lst (List.replicate k.toNat xs).flatten))

/-! ### == -/
def eqOk : D → D → Bool
  | .str _, .str _ => true
  | x, y => SeqAt.shaped x && SeqAt.shaped y
theorem eqOk_ii (i j : Int) : eqOk (.int i) (.int j) = true := by simp [eqOk, SeqAt.shaped, PyData.canLay0, PyData.depth]
theorem eqOk_bb (i j : Bool) : eqOk (.bool i) (.bool j) = true := by simp [eqOk, SeqAt.shaped, PyData.canLay0, PyData.depth]
theorem eqOk_ss (i j : Str) : eqOk (.str i) (.str j) = true := rfl
def gEq : G2 := fun x y q => eqOk x y = true ∧ q (.bool (PyData.eqv x y))
def gNe : G2 := fun x y q => eqOk x y = true ∧ q (.bool (!PyData.eqv x y))
theorem eqOk_or {x y : D} (h : eqOk x y = true) : (SeqAt.shaped x = true ∧ SeqAt.shaped y = true) ∨ ∃ i j, x = .str i ∧ y = .str j := by
  unfold eqOk at h
  split at h
  · exact .inr ⟨_, _, rfl, rfl⟩
  · rw [Bool.and_eq_true] at h
    exact .inl h
theorem eqv_ss (i j : Str) : PyData.eqv (.str i) (.str j) = decide (V.str i = V.str j) := by rw [dec_str]; simp [PyData.eqv]
theorem o_eq (hu : X.A.units + 64 < cLine) : OpD X (compareOp .Eq) gEq := by
  refine ⟨_, (op_eqD hu).or op_eq, fun F H v u x y fh bx bY q hq Q k => ?_⟩
  rcases eqOk_or hq.1 with ⟨h1, h2⟩ | ⟨i, j, rfl, rfl⟩
  · exact .inl ⟨x, y, bx.dp fh, bY.dp fh, h1, h2, k _ _ F H (Gr.refl fh) (.bl _) hq.2⟩
  · cases bx.str
    cases bY.str
    refine .inr ⟨rfl, ?_⟩
    rw [← eqv_ss]
    exact k _ _ F H (Gr.refl fh) (.bl _) hq.2
theorem o_ne (hu : X.A.units + 64 < cLine) : OpD X (compareOp .NotEq) gNe := by
  refine ⟨_, (op_neD hu).or op_ne, fun F H v u x y fh bx bY q hq Q k => ?_⟩
  rcases eqOk_or hq.1 with ⟨h1, h2⟩ | ⟨i, j, rfl, rfl⟩
  · exact .inl ⟨x, y, bx.dp fh, bY.dp fh, h1, h2, k _ _ F H (Gr.refl fh) (.bl _) hq.2⟩
  · cases bx.str
    cases bY.str
    refine .inr ⟨rfl, ?_⟩
    rw [← eqv_ss]
    exact k _ _ F H (Gr.refl fh) (.bl _) hq.2

/-! ### is -/
def isNone : D → Bool
  | .none => true
  | _ => false
theorem dp_isNone {K : Frag} {H : Hp} {v : V} {d : D} (h : Dp K H v d) : decide (v = .non) = isNone d := by
  cases h <;> rfl
def gIsN : G2 := fun x y q => match y with | .none => q (.bool (isNone x)) | _ => False
def gNotN : G2 := fun x y q => match y with | .none => q (.bool (!isNone x)) | _ => False
theorem o_isN : OpD X (compareOp .Is) gIsN := by
  refine ⟨_, op_isN, fun F H v u x y fh bx bY q hq Q k => ?_⟩
  unfold gIsN at hq
  split at hq
  · refine ⟨bY.non, ?_⟩
    rw [dp_isNone (bx.dp fh)]
    exact k _ _ F H (Gr.refl fh) (.bl _) hq
  · exact hq.elim
theorem o_notN : OpD X (compareOp .IsNot) gNotN := by
  refine ⟨_, op_notN, fun F H v u x y fh bx bY q hq Q k => ?_⟩
  unfold gNotN at hq
  split at hq
  · refine ⟨bY.non, ?_⟩
    rw [dp_isNone (bx.dp fh)]
    exact k _ _ F H (Gr.refl fh) (.bl _) hq
  · exact hq.elim
def gIsB : G2 := fun x y q => match x, y with | .bool a, .bool b => q (.bool (decide (a = b))) | _, _ => False
def gNotB : G2 := fun x y q => match x, y with | .bool a, .bool b => q (.bool (!decide (a = b))) | _, _ => False
theorem o_isB : OpD X (compareOp .Is) gIsB := by
  refine ⟨_, op_is_bl, fun F H v u x y fh bx bY q hq Q k => ?_⟩
  unfold gIsB at hq
  split at hq
  · exact ⟨_, _, bx.bl, bY.bl, k _ _ F H (Gr.refl fh) (.bl _) hq⟩
  · exact hq.elim
theorem o_notB : OpD X (compareOp .IsNot) gNotB := by
  refine ⟨_, op_isnot_bl, fun F H v u x y fh bx bY q hq Q k => ?_⟩
  unfold gNotB at hq
  split at hq
  · exact ⟨_, _, bx.bl, bY.bl, k _ _ F H (Gr.refl fh) (.bl _) hq⟩
  · exact hq.elim
/-- is: None, True, False on the right -/
def gIs : G2 := fun x y q => match y with | .none => q (.bool (isNone x)) | .bool b => (match x with | .bool a => q (.bool (decide (a = b))) | _ => False) | _ => False
def gIsNot : G2 := fun x y q => match y with | .none => q (.bool (!isNone x)) | .bool b => (match x with | .bool a => q (.bool (!decide (a = b))) | _ => False) | _ => False
theorem o_is : OpD X (compareOp .Is) gIs := o_isN.or o_isB fun x y q h => by
  cases y with
  | none => exact .inl h
  | bool b =>
    cases x with
    | bool a => exact .inr h
    | _ => exact h.elim
  | _ => exact h.elim
theorem o_isNot : OpD X (compareOp .IsNot) gIsNot := o_notN.or o_notB fun x y q h => by
  cases y with
  | none => exact .inl h
  | bool b =>
    cases x with
    | bool a => exact .inr h
    | _ => exact h.elim
  | _ => exact h.elim

/-! ### in: flat items -/
def flatD : D → Bool
  | .none => true
  | .bool _ => true
  | .int _ => true
  | .str _ => true
  | _ => false
theorem flat_dp {K : Frag} {H : Hp} {v : V} {d : D} (h : Dp K H v d) : flatV v = flatD d := by
  cases h <;> rfl
theorem flat_all {K : Frag} {H : Hp} : ∀ {vs : List V} {ds : List D}, DpAll K H vs ds → vs.all flatV = ds.all flatD
  | [], ds, h => by cases h; rfl
  | v :: vs, ds, h => by
    cases h with
    | cons h1 h2 => rw [List.all_cons, List.all_cons, flat_dp h1, flat_all h2]
theorem eqV_dp {K : Frag} {H : Hp} {v u : V} {d e : D} (h : Dp K H v d) (g : Dp K H u e) (f : flatD d = true) (f' : flatD e = true) : eqV v u = PyData.eqv d e := by
  cases h <;> cases g <;> first | (simp [flatD] at f; done) | (simp [flatD] at f'; done) | (simp [eqV, PyData.eqv]; done) | rfl
theorem inV_dp {K : Frag} {H : Hp} {v : V} {d : D} (h : Dp K H v d) (f : flatD d = true) : ∀ {vs : List V} {ds : List D}, DpAll K H vs ds → ds.all flatD = true → inV v vs = ds.any fun y => PyData.eqv y d
  | [], ds, h, _ => by cases h; rfl
  | w :: vs, ds, h', fa => by
    cases h' with
    | cons h1 h2 =>
      rw [List.all_cons, Bool.and_eq_true] at fa
      have := inV_dp h f h2 fa.2
      unfold inV at this ⊢
      rw [List.any_cons, List.any_cons, this, eqV_dp h1 h fa.1 f]
def inD (x : D) (ys : List D) : Bool := ys.any fun y => PyData.eqv y x
def gIn (neg : Bool) : G2 := fun x y q => match y with
  | .list ys => flatD x = true ∧ ys.all flatD = true ∧ q (.bool (if neg then !inD x ys else inD x ys))
  | .tuple ys => flatD x = true ∧ ys.all flatD = true ∧ q (.bool (if neg then !inD x ys else inD x ys))
  | _ => False
theorem sim_in {neg : Bool} : Sim2 X.K (rIn X.K neg) (gIn neg) := fun F H v u x y fh bx bY q hq Q k => by
  unfold gIn at hq
  split at hq
  · rename_i ys
    obtain ⟨a, vs, rfl, h1, d1⟩ := bY.lst fh
    have dx := bx.dp fh
    have d1 := d1.mono fh
    refine ⟨a, vs, rfl, .inl h1, by rw [flat_dp dx]; exact hq.1, by rw [flat_all d1]; exact hq.2.1, ?_⟩
    rw [inV_dp dx hq.1 d1 hq.2.1]
    exact k _ _ F H (Gr.refl fh) (.bl _) hq.2.2
  · rename_i ys
    obtain ⟨a, vs, rfl, _, h1, d1⟩ := bY.tup fh
    have dx := bx.dp fh
    have d1 := d1.mono fh
    refine ⟨a, vs, rfl, .inr h1, by rw [flat_dp dx]; exact hq.1, by rw [flat_all d1]; exact hq.2.1, ?_⟩
    rw [inV_dp dx hq.1 d1 hq.2.1]
    exact k _ _ F H (Gr.refl fh) (.bl _) hq.2.2
  · exact hq.elim
theorem o_in : OpD X (compareOp .In) (gIn false) := ⟨_, op_in_seq, sim_in⟩
theorem o_notIn : OpD X (compareOp .NotIn) (gIn true) := ⟨_, op_notIn_seq, sim_in⟩

/-! ### one-place -/
def gNeg : G1 := fun x q => match x with | .int i => q (.int (-i)) | _ => False
theorem u_neg : UnD X (unaryOp .USub) gNeg := by
  refine ⟨_, un_neg, fun F H v x fh bx q hq Q k => ?_⟩
  unfold gNeg at hq
  split at hq
  · exact ⟨_, bx.int, k _ _ F H (Gr.refl fh) (.int _) hq⟩
  · exact hq.elim

/-! ### items -/
def gIx : G2 := fun x y q => match x, y with
  | .list xs, .int i => (match atI xs i with | some d => q d | none => False)
  | .tuple xs, .int i => (match atI xs i with | some d => q d | none => False)
  | .str z, .int i => Fit z.length ∧ (match atI z.cps.toList i with | some c => q (.str ⟨#[c]⟩) | none => False)
  | _, _ => False
theorem atI_dp {K : Frag} {H : Hp} {vs : List V} {ds : List D} {i : Int} {d : D} (h : DpAll K H vs ds) (e : atI ds i = some d) : ∃ v, atI vs i = some v ∧ Dp K H v d := by
  unfold atI at e ⊢
  rw [h.length]
  cases q : ixN ds.length i with
  | none => rw [q] at e; cases e
  | some j =>
    rw [q] at e
    exact h.get e
theorem x_ix : IxD X gIx := by
  refine ⟨_, ix_seq, fun F H v u x y fh bx bY q hq Q k => ?_⟩
  unfold gIx at hq
  split at hq
  · split at hq
    · rename_i d e
      obtain ⟨a, vs, rfl, h1, d1⟩ := bx.lst fh
      obtain ⟨w, hw, r⟩ := atI_dp d1 e
      exact .inl ⟨a, vs, _, w, rfl, bY.int, h1, hw, k _ _ F H (Gr.refl fh) r hq⟩
    · exact hq.elim
  · split at hq
    · rename_i d e
      obtain ⟨a, vs, rfl, _, h1, d1⟩ := bx.tup fh
      obtain ⟨w, hw, r⟩ := atI_dp d1 e
      exact .inr (.inl ⟨a, vs, _, w, rfl, bY.int, h1, hw, k _ _ F H (Gr.refl fh) r hq⟩)
    · exact hq.elim
  · obtain ⟨hl, hq⟩ := hq
    split at hq
    · rename_i c e
      exact .inr (.inr ⟨_, _, c, bx.str, bY.int, hl.le, e, k _ _ F H (Gr.refl fh) (.str _) hq⟩)
    · exact hq.elim
  · exact hq.elim
end
end DL

namespace DL
open PySem PySem.Spec PyProof.Rows L2
section
variable {X : Cx}
theorem CallD.or {f : Value} {g g' h : GA} (a : CallD X f g) (b : CallD X f g') (e : ∀ x q, h x q → g x q ∨ g' x q) : CallD X f h := by
  obtain ⟨r, h1, h2⟩ := a
  obtain ⟨r', h1', h2'⟩ := b
  refine ⟨_, h1.or h1', fun F H v x fh bx q hq Q k => ?_⟩
  rcases e x q hq with z | z
  · exact .inl (h2 F H v x fh bx q z Q k)
  · exact .inr (h2' F H v x fh bx q z Q k)
theorem CallL.d {f : Value} {g : List D → (List D → Prop) → Prop} (h : CallL X f g) : CallD X f (fun x q => g x fun ds => q (.list ds)) := by
  obtain ⟨r, h1, h2⟩ := h
  refine ⟨r, h1, fun F H v x fh bx q hq Q k => h2 F H v x fh bx _ hq Q fun p us ds F' H' g hp hf hh ha z => ?_⟩
  exact k (.ref p) (.list ds) _ _ (gr_frz g hp hf hh) (.lst (.inl (.inl upd_same)) (ha.mono (same_new hf))) z

def gLen : GA := fun xs q => match xs with
  | [.list ys] => q (.int ys.length)
  | [.tuple ys] => q (.int ys.length)
  | [.str z] => Fit z.length ∧ q (.int z.length)
  | _ => False
theorem c_len : CallD X (.builtin "len") gLen := by
  refine ⟨_, call_len_seq.or call_len_str, fun F H vs xs fh bx q hq Q k => ?_⟩
  unfold gLen at hq
  split at hq
  · obtain ⟨v, rfl, b⟩ := bx.one
    obtain ⟨a, us, rfl, h1, d1⟩ := b.lst fh
    refine .inl ⟨a, us, rfl, .inl h1, ?_⟩
    rw [d1.length]
    exact k _ _ F H (Gr.refl fh) (.int _) hq
  · obtain ⟨v, rfl, b⟩ := bx.one
    obtain ⟨a, us, rfl, _, h1, d1⟩ := b.tup fh
    refine .inl ⟨a, us, rfl, .inr h1, ?_⟩
    rw [d1.length]
    exact k _ _ F H (Gr.refl fh) (.int _) hq
  · obtain ⟨v, rfl, b⟩ := bx.one
    exact .inr ⟨_, by rw [b.str], hq.1.le, k _ _ F H (Gr.refl fh) (.int _) hq.2⟩
  · exact hq.elim
def gInt : GA := fun xs q => match xs with
  | [.int i] => q (.int i)
  | [.bool b] => q (.int (if b then 1 else 0))
  | _ => False
theorem c_int : CallD X (.type "int") gInt := by
  refine ⟨_, call_int1, fun F H vs xs fh bx q hq Q k => ?_⟩
  unfold gInt at hq
  split at hq
  · obtain ⟨v, rfl, b⟩ := bx.one
    exact .inl ⟨_, by rw [b.int], k _ _ F H (Gr.refl fh) (.int _) hq⟩
  · obtain ⟨v, rfl, b⟩ := bx.one
    exact .inr ⟨_, by rw [b.bl], k _ _ F H (Gr.refl fh) (.int _) hq⟩
  · exact hq.elim
def gAbs : GA := fun xs q => match xs with
  | [.int i] => q (.int (if i < 0 then -i else i))
  | _ => False
theorem c_abs : CallD X (.builtin "abs") gAbs := by
  refine ⟨_, call_abs, fun F H vs xs fh bx q hq Q k => ?_⟩
  unfold gAbs at hq
  split at hq
  · obtain ⟨v, rfl, b⟩ := bx.one
    exact ⟨_, by rw [b.int], k _ _ F H (Gr.refl fh) (.int _) hq⟩
  · exact hq.elim
def gMax2 : GA := fun xs q => match xs with
  | [.int i, .int j] => q (.int (if j > i then j else i))
  | _ => False
theorem c_max2 (hc : X.calm = true := by rfl) : CallD X (.builtin "max") gMax2 := by
  refine ⟨_, call_max2 hc, fun F H vs xs fh bx q hq Q k => ?_⟩
  unfold gMax2 at hq
  split at hq
  · obtain ⟨v, u, rfl, b, c⟩ := bx.two
    exact ⟨_, _, by rw [b.int, c.int], k _ _ F H (Gr.refl fh) (.int _) hq⟩
  · exact hq.elim
def gMin2 : GA := fun xs q => match xs with
  | [.int i, .int j] => q (.int (if j < i then j else i))
  | _ => False
theorem c_min2 (hc : X.calm = true := by rfl) : CallD X (.builtin "min") gMin2 := by
  refine ⟨_, call_min2 hc, fun F H vs xs fh bx q hq Q k => ?_⟩
  unfold gMin2 at hq
  split at hq
  · obtain ⟨v, u, rfl, b, c⟩ := bx.two
    exact ⟨_, _, by rw [b.int, c.int], k _ _ F H (Gr.refl fh) (.int _) hq⟩
  · exact hq.elim
def gTuple : GA := fun xs q => match xs with
  | [.list ys] => q (.tuple ys)
  | [.tuple ys] => q (.tuple ys)
  | _ => False
theorem c_tuple : CallD X (.type "tuple") gTuple := by
  refine ⟨_, call_tuple_of, fun F H vs xs fh bx q hq Q k => ?_⟩
  unfold gTuple at hq
  split at hq
  · obtain ⟨v, rfl, b⟩ := bx.one
    obtain ⟨a, us, rfl, h1, d1⟩ := b.lst fh
    refine ⟨a, us, rfl, .inl ⟨h1, fun p hp => ?_⟩⟩
    have g := Gr.new (o := .tup us) fh hp
    exact k _ _ _ _ g (.tup (.inl (.inl upd_same)) (d1.mono g.ff)) hq
  · obtain ⟨v, rfl, b⟩ := bx.one
    obtain ⟨a, us, rfl, h0, h1, d1⟩ := b.tup fh
    exact ⟨a, us, rfl, .inr ⟨h1, k _ _ F H (Gr.refl fh) (.tup h0 d1) hq⟩⟩
  · exact hq.elim
def lList : List D → (List D → Prop) → Prop := fun xs q => match xs with
  | [.list ys] => q ys
  | [.tuple ys] => q ys
  | _ => False
theorem c_list : CallL X (.type "list") lList := by
  refine ⟨_, call_list_of, fun F H vs xs fh bx q hq Q k => ?_⟩
  unfold lList at hq
  split at hq
  · obtain ⟨v, rfl, b⟩ := bx.one
    obtain ⟨a, us, rfl, h1, d1⟩ := b.lst fh
    exact ⟨a, us, rfl, .inl h1, fun p hp => k p us _ F _ (Gr.newO fh hp) hp (fh.free hp) upd_same d1 hq⟩
  · obtain ⟨v, rfl, b⟩ := bx.one
    obtain ⟨a, us, rfl, h0, h1, d1⟩ := b.tup fh
    exact ⟨a, us, rfl, .inr h1, fun p hp => k p us _ F _ (Gr.newO fh hp) hp (fh.free hp) upd_same d1 hq⟩
  · exact hq.elim
/-! sums, least, greatest of whole numbers -/
def gSum : GA := fun xs q => ∃ ns : List Int, xs = [.list (ns.map .int)] ∧ q (.int ns.sum)
def gMax1 : GA := fun xs q => ∃ ns : List Int, xs = [.list (ns.map .int)] ∧ 0 < ns.length ∧ ∀ m, m ∈ ns → (∀ y, y ∈ ns → y ≤ m) → q (.int m)
def gMin1 : GA := fun xs q => ∃ ns : List Int, xs = [.list (ns.map .int)] ∧ 0 < ns.length ∧ ∀ m, m ∈ ns → (∀ y, y ∈ ns → m ≤ y) → q (.int m)
theorem lst_ints {F H : Hp} {v : V} {ns : List Int} (fh : Same F H) (b : Bor X.K F H v (.list (ns.map .int))) : ∃ a, v = .ref a ∧ SqL X.K H a (ns.map V.int) := by
  obtain ⟨a, us, rfl, h1, d1⟩ := b.lst fh
  rw [DpAll.ints_of ns d1] at h1
  exact ⟨a, rfl, h1⟩
theorem c_sum (hc : X.calm = true := by rfl) : CallD X (.builtin "sum") gSum := by
  refine ⟨_, cr_sum hc, fun F H vs xs fh bx q hq Q k => ?_⟩
  obtain ⟨ns, rfl, hq⟩ := hq
  obtain ⟨v, rfl, b⟩ := bx.one
  obtain ⟨a, rfl, h1⟩ := lst_ints fh b
  exact ⟨a, ns, rfl, h1, k _ _ F H (Gr.refl fh) (.int _) hq⟩
theorem c_max1 (hc : X.calm = true := by rfl) : CallD X (.builtin "max") gMax1 := by
  refine ⟨_, cr_max hc, fun F H vs xs fh bx q hq Q k => ?_⟩
  obtain ⟨ns, rfl, hn, hq⟩ := hq
  obtain ⟨v, rfl, b⟩ := bx.one
  obtain ⟨a, rfl, h1⟩ := lst_ints fh b
  exact ⟨a, ns, rfl, h1, hn, fun m e1 e2 => k _ _ F H (Gr.refl fh) (.int _) (hq m e1 e2)⟩
theorem c_min1 (hc : X.calm = true := by rfl) : CallD X (.builtin "min") gMin1 := by
  refine ⟨_, cr_min hc, fun F H vs xs fh bx q hq Q k => ?_⟩
  obtain ⟨ns, rfl, hn, hq⟩ := hq
  obtain ⟨v, rfl, b⟩ := bx.one
  obtain ⟨a, rfl, h1⟩ := lst_ints fh b
  exact ⟨a, ns, rfl, h1, hn, fun m e1 e2 => k _ _ F H (Gr.refl fh) (.int _) (hq m e1 e2)⟩
def gAny : GA := fun xs q => ∃ bs : List Bool, xs = [.list (bs.map .bool)] ∧ q (.bool (bs.any id))
def gAll : GA := fun xs q => ∃ bs : List Bool, xs = [.list (bs.map .bool)] ∧ q (.bool (bs.all id))
theorem c_any (hc : X.calm = true := by rfl) : CallD X (.builtin "any") gAny := by
  refine ⟨_, cr_any hc, fun F H vs xs fh bx q hq Q k => ?_⟩
  obtain ⟨ns, rfl, hq⟩ := hq
  obtain ⟨v, rfl, b⟩ := bx.one
  obtain ⟨a, us, rfl, h1, d1⟩ := b.lst fh
  rw [DpAll.bools_of ns d1] at h1
  exact ⟨a, ns, rfl, h1, k _ _ F H (Gr.refl fh) (.bl _) hq⟩
theorem c_all (hc : X.calm = true := by rfl) : CallD X (.builtin "all") gAll := by
  refine ⟨_, cr_all hc, fun F H vs xs fh bx q hq Q k => ?_⟩
  obtain ⟨ns, rfl, hq⟩ := hq
  obtain ⟨v, rfl, b⟩ := bx.one
  obtain ⟨a, us, rfl, h1, d1⟩ := b.lst fh
  rw [DpAll.bools_of ns d1] at h1
  exact ⟨a, ns, rfl, h1, k _ _ F H (Gr.refl fh) (.bl _) hq⟩
def gGcd : GA := fun xs q => match xs with
  | [.int a, .int b] => q (.int ((Nat.gcd a.natAbs b.natAbs : Nat) : Int))
  | _ => False
theorem c_gcd : CallD X (.builtin "math.gcd") gGcd := by
  refine ⟨_, cr_gcd, fun F H vs xs fh bx q hq Q k => ?_⟩
  unfold gGcd at hq
  split at hq
  · obtain ⟨v, u, rfl, b, c⟩ := bx.two
    exact ⟨_, _, by rw [b.int, c.int], k _ _ F H (Gr.refl fh) (.int _) hq⟩
  · exact hq.elim
def gIsqrt : GA := fun xs q => match xs with
  | [.int a] => 0 ≤ a ∧ a.toNat.log2 < 13000 ∧ q (.int (Float64.isqrt a.toNat : Nat))
  | _ => False
theorem c_isqrt : CallD X (.builtin "math.isqrt") gIsqrt := by
  refine ⟨fun vs H Q => ∃ a : Int, vs = [.int a] ∧ 0 ≤ a ∧ a.toNat.log2 < 13000 ∧ Q (.int (Float64.isqrt a.toNat : Nat)) H, ?_, fun F H vs xs fh bx q hq Q k => ?_⟩
  · intro pins s σ H vs us Q I r h
    obtain ⟨a, rfl, h0, h1, q⟩ := h
    obtain ⟨u, rfl, t, rfl⟩ := vals1 r
    exact call_function_meets PySem.W.MGF.kind_isqrt PySem.W.MGF.plain_isqrt PySem.W.MGF.entry_isqrt (PySem.W.MGF.args_isqrt _) (PySem.W.mg_run_isqrt a t (by omega) (by omega) (by omega)).meets ⟨.int _, H, I.tok _, ⟨_, rfl⟩, q⟩
  · unfold gIsqrt at hq
    split at hq
    · obtain ⟨v, rfl, b⟩ := bx.one
      exact ⟨_, by rw [b.int], hq.1, hq.2.1, k _ _ F H (Gr.refl fh) (.int _) hq.2.2⟩
    · exact hq.elim
/-! isinstance -/
def tyD : D → String
  | .none => "NoneType" | .bool _ => "bool" | .int _ => "int" | .str _ => "str" | .list _ => "list" | .tuple _ => "tuple" | .dict _ => "dict"
theorem dp_tyX {K : Frag} {H : Hp} {v : V} {d : D} (h : Dp K H v d) : TyX K H v (.type (tyD d)) := by
  cases h with
  | non => exact .base .non
  | bl => exact .base (.bl _)
  | int => exact .base (.int _)
  | str => exact .base (.str _)
  | lst hs _ =>
    rcases hs with (h | ⟨o, h⟩) | ⟨o, its, n, h, hc, _⟩
    · exact .base (.lst h)
    · exact .base (.frz h)
    · exact .kList h hc
  | tup hs _ =>
    rcases hs with (h | ⟨o, h⟩) | ⟨o, its, n, h, hc, _⟩
    · exact .base (.tup h)
    · exact .fTuple h
    · exact .kTuple h hc
/-- is it of one of these built-in types -/
def isTy (d : D) (T : String) : Bool := tyD d == T || (T == "int" && tyD d == "bool")
def tyOk (T : String) : Prop := kitB "NoneType" T = some (T == "NoneType") ∧ kitB "bool" T = some (T == "bool" || T == "int") ∧ kitB "int" T = some (T == "int") ∧ kitB "str" T = some (T == "str") ∧ kitB "list" T = some (T == "list") ∧ kitB "tuple" T = some (T == "tuple") ∧ kitB "dict" T = some (T == "dict")
theorem kit_d {T : String} (h : tyOk T) (d : D) : kitB (tyD d) T = some (isTy d T) := by
  obtain ⟨h1, h2, h3, h4, h5, h6, h7⟩ := h
  have cm : ∀ s : String, (T == s) = (s == T) := fun s => by
    rw [Bool.eq_iff_iff]
    simp only [beq_iff_eq]
    exact ⟨Eq.symm, Eq.symm⟩
  cases d with
  | none => show kitB "NoneType" T = _; rw [h1, cm]; unfold isTy; simp [tyD]
  | bool b => show kitB "bool" T = _; rw [h2, cm "bool"]; unfold isTy; simp [tyD]
  | int b => show kitB "int" T = _; rw [h3, cm]; unfold isTy; simp [tyD]
  | str b => show kitB "str" T = _; rw [h4, cm]; unfold isTy; simp [tyD]
  | list b => show kitB "list" T = _; rw [h5, cm]; unfold isTy; simp [tyD]
  | tuple b => show kitB "tuple" T = _; rw [h6, cm]; unfold isTy; simp [tyD]
  | dict b => show kitB "dict" T = _; rw [h7, cm]; unfold isTy; simp [tyD]
theorem ty_int : tyOk "int" := by refine ⟨?_, ?_, ?_, ?_, ?_, ?_, ?_⟩ <;> decide +kernel
theorem ty_bool : tyOk "bool" := by refine ⟨?_, ?_, ?_, ?_, ?_, ?_, ?_⟩ <;> decide +kernel
theorem ty_str : tyOk "str" := by refine ⟨?_, ?_, ?_, ?_, ?_, ?_, ?_⟩ <;> decide +kernel
theorem ty_list : tyOk "list" := by refine ⟨?_, ?_, ?_, ?_, ?_, ?_, ?_⟩ <;> decide +kernel
theorem ty_tuple : tyOk "tuple" := by refine ⟨?_, ?_, ?_, ?_, ?_, ?_, ?_⟩ <;> decide +kernel

variable {x : Str} {p pos : Pos} {e : Expr} {es : List Expr} {da : RL} {id T : String}
def dCall (g : GA) (da : RL) : RE := fun ρ q => da ρ fun xs => g xs q
def lCall (g : List D → (List D → Prop) → Prop) (da : RL) : RL := fun ρ q => da ρ fun xs => g xs q
theorem sim_call {K : Frag} {ta : TA} {r : List V → Hp → VK → Prop} {g : GA} (ha : SimAB K ta da) (hr : SimC K r g) : SimE K (tCB r ta) (dCall g da) := fun B F H ρ σ E q hq Q k =>
  ha B F H ρ σ E _ hq _ fun vs xs F1 H1 g1 b z => hr F1 H1 vs xs g1.fh b q z Q fun w d F2 H2 g2 r2 z2 => k w d F2 H2 (g1.trans g2) r2 z2
theorem sim_callL {K : Frag} {ta : TA} {r : List V → Hp → VK → Prop} {g : List D → (List D → Prop) → Prop} (ha : SimAB K ta da) (hr : SimCL K r g) : SimL K (tCB r ta) (lCall g da) := fun B F H ρ σ E q hq Q k =>
  ha B F H ρ σ E _ hq _ fun vs xs F1 H1 g1 b z => hr F1 H1 vs xs g1.fh b q z Q fun p us ds F2 H2 g2 hp hf hh r2 z2 => k p us ds F2 H2 (g1.trans g2) (g1.hh.free hp) hf hh r2 z2
/-- f(e, ..), f a built-in function -/
theorem de_B {g : GA} (hc : CallD X (.builtin id) g) (hm : X.mg x = none) (ha : DAB X (e :: es) da) (hg : Gl X x := by rfl) (hv : bootBuiltins x = some (.builtin id) := by decide +kernel) (hn : x ≠ "__name__" := by decide) (hdb : (x == ("__debug__" : Str)) = false := by decide)
    (he : starEach (e :: es) X.env = (false, eval e X.env) :: starEach es X.env := by rfl) (hpl : (backTo pos (starEach es X.env)).any (·.1) = false := by rfl) : DE X (.Call (.Name x p) (e :: es) [] pos) (dCall g da) := by
  obtain ⟨r, h1, h2⟩ := hc
  obtain ⟨ta, a1, a2⟩ := ha
  exact ⟨_, pe_callB h1 hg hm hv a1 hn hdb he hpl, sim_call a2 h2⟩
/-- f(e, ..), f a built-in class -/
theorem de_T {g : GA} (hc : CallD X (.type T) g) (hm : X.mg x = none) (ha : DAB X (e :: es) da) (hg : Gl X x := by rfl) (hv : bootBuiltins x = some (.type T) := by decide +kernel) (hn : x ≠ "__name__" := by decide) (hdb : (x == ("__debug__" : Str)) = false := by decide)
    (he : starEach (e :: es) X.env = (false, eval e X.env) :: starEach es X.env := by rfl) (hpl : (backTo pos (starEach es X.env)).any (·.1) = false := by rfl) : DE X (.Call (.Name x p) (e :: es) [] pos) (dCall g da) := by
  obtain ⟨r, h1, h2⟩ := hc
  obtain ⟨ta, a1, a2⟩ := ha
  exact ⟨_, pe_callTy h1 hg hm hv a1 hn hdb he hpl, sim_call a2 h2⟩
theorem dl_T {g : List D → (List D → Prop) → Prop} (hc : CallL X (.type T) g) (hm : X.mg x = none) (ha : DAB X (e :: es) da) (hg : Gl X x := by rfl) (hv : bootBuiltins x = some (.type T) := by decide +kernel) (hn : x ≠ "__name__" := by decide) (hdb : (x == ("__debug__" : Str)) = false := by decide)
    (he : starEach (e :: es) X.env = (false, eval e X.env) :: starEach es X.env := by rfl) (hpl : (backTo pos (starEach es X.env)).any (·.1) = false := by rfl) : DLs X (.Call (.Name x p) (e :: es) [] pos) (lCall g da) := by
  obtain ⟨r, h1, h2⟩ := hc
  obtain ⟨ta, a1, a2⟩ := ha
  exact ⟨_, pe_callTy h1 hg hm hv a1 hn hdb he hpl, sim_callL a2 h2⟩
theorem dl_B {g : List D → (List D → Prop) → Prop} (hc : CallL X (.builtin id) g) (hm : X.mg x = none) (ha : DAB X (e :: es) da) (hg : Gl X x := by rfl) (hv : bootBuiltins x = some (.builtin id) := by decide +kernel) (hn : x ≠ "__name__" := by decide) (hdb : (x == ("__debug__" : Str)) = false := by decide)
    (he : starEach (e :: es) X.env = (false, eval e X.env) :: starEach es X.env := by rfl) (hpl : (backTo pos (starEach es X.env)).any (·.1) = false := by rfl) : DLs X (.Call (.Name x p) (e :: es) [] pos) (lCall g da) := by
  obtain ⟨r, h1, h2⟩ := hc
  obtain ⟨ta, a1, a2⟩ := ha
  exact ⟨_, pe_callB h1 hg hm hv a1 hn hdb he hpl, sim_callL a2 h2⟩
/-- f(e, ..), f a name that the module took from another (gcd, isqrt) -/
theorem de_M {g : GA} (hc : CallD X (.builtin id) g) (hm : X.mg x = some (.builtin id)) (ha : DAB X (e :: es) da) (hg : Gl X x := by rfl) (hdb : (x == ("__debug__" : Str)) = false := by decide)
    (he : starEach (e :: es) X.env = (false, eval e X.env) :: starEach es X.env := by rfl) (hpl : (backTo pos (starEach es X.env)).any (·.1) = false := by rfl) : DE X (.Call (.Name x p) (e :: es) [] pos) (dCall g da) := by
  obtain ⟨r, h1, h2⟩ := hc
  obtain ⟨ta, a1, a2⟩ := ha
  exact ⟨_, pe_callBfun h1 hg hm a1 hdb he hpl, sim_call a2 h2⟩
/-- isinstance(e, T) -/
def dIsi (T : String) (de : RE) : RE := fun ρ q => de ρ fun d => q (.bool (isTy d T))
theorem de_isi {de : RE} {y : Str} {p2 : Pos} (ht : tyOk T) (hm : X.mg x = none) (hm2 : X.mg y = none) (ha : DB X e de) (hx : x = "isinstance" := by rfl) (hg : Gl X x := by rfl) (hg2 : Gl X y := by rfl) (hv : bootBuiltins y = some (.type T) := by decide +kernel)
    (hn : y ≠ "__name__" := by decide) (hd : (y == ("__debug__" : Str)) = false := by decide)
    (he : starEach [e, .Name y p2] X.env = (false, eval e X.env) :: starEach [.Name y p2] X.env := by rfl) (he2 : starEach [.Name y p2] X.env = [(false, eval (.Name y p2) X.env)] := by rfl) (hpl : (backTo pos (starEach [.Name y p2] X.env)).any (·.1) = false := by rfl) :
    DE X (.Call (.Name x p) [e, .Name y p2] [] pos) (dIsi T de) := by
  subst hx
  obtain ⟨te, a1, a2⟩ := ha
  refine ⟨_, pe_callB call_isi hg hm (by decide +kernel) (pa_cons a1 (pa_cons (pe_bltn (v := .ty T) hg2 hm2 hv rfl hn hd) pa_nil he2) he) (by decide) (by decide) he hpl, fun B F H ρ σ E q hq Q k => ?_⟩
  refine a2 B F H ρ σ E _ hq _ fun v d F' H' g b z => ⟨v, .ty T, .type (tyD d), .type T, isTy d T, rfl, .ty T, dp_tyX (b.dp g.fh), kit_ty (kit_d ht d), ?_⟩
  exact k _ _ F' H' g (.bl _) z
/-- isinstance(e, (T, U)) -/
def dIsi2 (T U : String) (de : RE) : RE := fun ρ q => de ρ fun d => q (.bool (isTy d T || isTy d U))
theorem de_isi2 {U : String} {de : RE} {y z : Str} {p2 p3 p4 : Pos} {k1 : _} (ht : tyOk T) (ht2 : tyOk U) (hm : X.mg x = none) (hm2 : X.mg y = none) (hm3 : X.mg z = none) (ha : DB X e de) (hx : x = "isinstance" := by rfl) (hg : Gl X x := by rfl) (hg2 : Gl X y := by rfl) (hg3 : Gl X z := by rfl)
    (hv : bootBuiltins y = some (.type T) := by decide +kernel) (hv3 : bootBuiltins z = some (.type U) := by decide +kernel)
    (hn : y ≠ "__name__" := by decide) (hd : (y == ("__debug__" : Str)) = false := by decide) (hn3 : z ≠ "__name__" := by decide) (hd3 : (z == ("__debug__" : Str)) = false := by decide)
    (he : starEach [e, .Tuple [.Name y p2, .Name z p3] k1 p4] X.env = (false, eval e X.env) :: starEach [.Tuple [.Name y p2, .Name z p3] k1 p4] X.env := by rfl) (he2 : starEach [.Tuple [.Name y p2, .Name z p3] k1 p4] X.env = [(false, eval (.Tuple [.Name y p2, .Name z p3] k1 p4) X.env)] := by rfl)
    (he3 : starEach [.Name y p2, .Name z p3] X.env = (false, eval (.Name y p2) X.env) :: starEach [.Name z p3] X.env := by rfl) (he4 : starEach [.Name z p3] X.env = [(false, eval (.Name z p3) X.env)] := by rfl)
    (hpl : (backTo pos (starEach [.Tuple [.Name y p2, .Name z p3] k1 p4] X.env)).any (·.1) = false := by rfl) :
    DE X (.Call (.Name x p) [e, .Tuple [.Name y p2, .Name z p3] k1 p4] [] pos) (dIsi2 T U de) := by
  subst hx
  obtain ⟨te, a1, a2⟩ := ha
  refine ⟨_, pe_callB call_isiT hg hm (by decide +kernel) (pa_cons a1 (pa_cons (pe_tup (pa_cons (pe_bltn (v := .ty T) hg2 hm2 hv rfl hn hd) (pa_cons (pe_bltn (v := .ty U) hg3 hm3 hv3 rfl hn3 hd3) pa_nil he4) he3)) pa_nil he2) he) (by decide) (by decide) he hpl, fun B F H ρ σ E q hq Q k => ?_⟩
  refine a2 B F H ρ σ E _ hq _ fun v d F' H' g b w => ⟨by show 2 ≤ sizeLine; rw [sizeLine_eq]; decide, fun tp hp => ?_⟩
  have g2 := Gr.new (o := .tup [.ty T, .ty U]) g.fh hp
  refine ⟨v, tp, [.ty T, .ty U], .type (tyD d), [.type T, .type U], isTy d T || isTy d U, rfl, upd_same, .cons (.ty T) (.cons (.ty U) .nil), dp_tyX ((b.grow g2).dp g2.fh), ?_, ?_⟩
  · refine kitAny_cons (kit_ty (kit_d ht d)) (fun h => kitAny_cons (r := isTy d T || isTy d U) (kit_ty (kit_d ht2 d)) (fun h2 => ?_) fun h2 => by rw [h2, Bool.or_true]) fun h => by rw [h, Bool.true_or]
    rw [h, h2]
    exact kitAny_nil
  · exact k _ _ _ _ (g.trans g2) (.bl _) w

/-! ### and, or, not; a if t else b -/
def tAndD (t u : RT) : RT := fun ρ q => t ρ fun b => (b = true → u ρ q) ∧ (b = false → q false)
def tOrD (t u : RT) : RT := fun ρ q => t ρ fun b => (b = true → q true) ∧ (b = false → u ρ q)
def tNotD (t : RT) : RT := fun ρ q => t ρ fun b => q (!b)
variable {a b c : Expr} {rest : List Expr} {dt du : RT} {de df : RE}
theorem sim_and {K : Frag} {t u : TT} (h1 : SimT K t dt) (h2 : SimT K u du) : SimT K (tAnd t u) (tAndD dt du) := fun B F H ρ σ E q hq Q k =>
  h1 B F H ρ σ E _ hq _ fun b F1 H1 g1 z => by
    cases b with
    | true =>
      show u σ H1 Q
      exact h2 B F1 H1 ρ σ (E.grow g1) q (z.1 rfl) Q fun b F2 H2 g2 w => k b F2 H2 (g1.trans g2) w
    | false =>
      show Q false H1
      exact k false F1 H1 g1 (z.2 rfl)
theorem sim_or {K : Frag} {t u : TT} (h1 : SimT K t dt) (h2 : SimT K u du) : SimT K (tOr t u) (tOrD dt du) := fun B F H ρ σ E q hq Q k =>
  h1 B F H ρ σ E _ hq _ fun b F1 H1 g1 z => by
    cases b with
    | true =>
      show Q true H1
      exact k true F1 H1 g1 (z.1 rfl)
    | false =>
      show u σ H1 Q
      exact h2 B F1 H1 ρ σ (E.grow g1) q (z.2 rfl) Q fun b F2 H2 g2 w => k b F2 H2 (g1.trans g2) w
theorem DW.pt (h : DW X e dt) : DT X e dt := by
  obtain ⟨t, h1, h2⟩ := h
  exact ⟨t, h1.pt, h2⟩
theorem dw_and1 (h : DT X a dt) : DW X (.BoolOp .And [a] pos) dt := by
  obtain ⟨t, h1, h2⟩ := h
  exact ⟨t, pw_and1 h1, h2⟩
theorem dw_or1 (h : DT X a dt) : DW X (.BoolOp .Or [a] pos) dt := by
  obtain ⟨t, h1, h2⟩ := h
  exact ⟨t, pw_or1 h1, h2⟩
theorem dw_and (h : DT X a dt) (g : DW X (.BoolOp .And (b :: rest) pos) du) : DW X (.BoolOp .And (a :: b :: rest) pos) (tAndD dt du) := by
  obtain ⟨t, h1, h2⟩ := h
  obtain ⟨u, g1, g2⟩ := g
  exact ⟨_, pw_and h1 g1, sim_and h2 g2⟩
theorem dw_or (h : DT X a dt) (g : DW X (.BoolOp .Or (b :: rest) pos) du) : DW X (.BoolOp .Or (a :: b :: rest) pos) (tOrD dt du) := by
  obtain ⟨t, h1, h2⟩ := h
  obtain ⟨u, g1, g2⟩ := g
  exact ⟨_, pw_or h1 g1, sim_or h2 g2⟩
theorem dt_not (h : DT X a dt) : DT X (.UnaryOp .Not a pos) (tNotD dt) := by
  obtain ⟨t, h1, h2⟩ := h
  exact ⟨_, pt_not h1, fun B F H ρ σ E q hq Q k => h2 B F H ρ σ E _ hq _ fun b F1 H1 g1 z => k (!b) F1 H1 g1 z⟩
/-- a value that is True or False, as a test -/
theorem dt_val (h : DE X e de) (he : ∀ whole, isTrue e X.env whole = (do let v ← whole; standAt e.pos; holding [v] (truthy v)) := by intro _; rfl) : DT X e (tBool de) := by
  obtain ⟨t, h1, h2⟩ := h
  exact ⟨_, pt_val h1 he, sim_bool h2⟩
/-- any value as a test -/
def truD : D → Option Bool
  | .none => some false | .bool b => some b | .int i => some (i != 0) | .list xs => some (!xs.isEmpty) | .tuple xs => some (!xs.isEmpty)
  | _ => none
def tTru (de : RE) : RT := fun ρ q => de ρ fun d => match truD d with | some b => q b | none => False
theorem isEmpty_dp {K : Frag} {H : Hp} {vs : List V} {ds : List D} (h : DpAll K H vs ds) : vs.isEmpty = ds.isEmpty := by
  cases h <;> rfl
theorem dt_tru (h : DB X e de) (he : ∀ whole, isTrue e X.env whole = (do let v ← whole; standAt e.pos; holding [v] (truthy v)) := by intro _; rfl) : DT X e (tTru de) := by
  obtain ⟨t, h1, h2⟩ := h
  refine ⟨_, pt_truth h1 he, fun B F H ρ σ E q hq Q k => h2 B F H ρ σ E _ hq _ fun v d F1 H1 g1 r z => ?_⟩
  have r := r.dp g1.fh
  cases r with
  | non => exact ⟨false, rfl, k _ F1 H1 g1 z⟩
  | bl b => exact ⟨b, rfl, k _ F1 H1 g1 z⟩
  | int i => exact ⟨_, rfl, k _ F1 H1 g1 z⟩
  | str x => exact z.elim
  | lst hs ha => exact ⟨_, .inl ⟨_, hs, by rw [isEmpty_dp ha]⟩, k _ F1 H1 g1 z⟩
  | tup hs ha => exact ⟨_, .inr (.inl ⟨_, hs, by rw [isEmpty_dp ha]⟩), k _ F1 H1 g1 z⟩
/-- and, or, not as values: all but the last are True or False -/
def dAndV (da db : RE) : RE := fun ρ q => da ρ fun x => match x with | .bool b => (b = true → db ρ q) ∧ (b = false → q (.bool false)) | _ => False
def dOrV (da db : RE) : RE := fun ρ q => da ρ fun x => match x with | .bool b => (b = true → q (.bool true)) ∧ (b = false → db ρ q) | _ => False
def dNotV (da : RE) : RE := fun ρ q => da ρ fun x => match x with | .bool b => q (.bool (!b)) | _ => False
theorem is_bool {f : Bool → Prop} {d : D} (h : (match d with | .bool b => f b | _ => False)) : ∃ b, d = .bool b ∧ f b := by
  cases d with
  | bool b => exact ⟨b, rfl, h⟩
  | none => exact h.elim
  | int _ => exact h.elim
  | str _ => exact h.elim
  | list _ => exact h.elim
  | tuple _ => exact h.elim
  | dict _ => exact h.elim
theorem de_one {op} (h : DE X a de) : DE X (.BoolOp op [a] pos) de := by
  obtain ⟨t, h1, h2⟩ := h
  exact ⟨t, pe_one h1, h2⟩
theorem de_and (h : DE X a de) (g : DE X (.BoolOp .And (b :: rest) pos) df) : DE X (.BoolOp .And (a :: b :: rest) pos) (dAndV de df) := by
  obtain ⟨t, h1, h2⟩ := h
  obtain ⟨u, g1, g2⟩ := g
  refine ⟨_, pe_and h1 g1, fun B F H ρ σ E q hq Q k => h2 B F H ρ σ E _ hq _ fun v d F1 H1 g3 r z => ?_⟩
  obtain ⟨c, rfl, z⟩ := is_bool z
  cases r
  refine ⟨c, rfl, ?_⟩
  cases c with
  | true =>
    show u σ H1 Q
    exact g2 B F1 H1 ρ σ (E.grow g3) q (z.1 rfl) Q fun v d F2 H2 g4 r w => k v d F2 H2 (g3.trans g4) r w
  | false =>
    show Q (.bl false) H1
    exact k _ _ F1 H1 g3 (.bl _) (z.2 rfl)
theorem de_or (h : DE X a de) (g : DE X (.BoolOp .Or (b :: rest) pos) df) : DE X (.BoolOp .Or (a :: b :: rest) pos) (dOrV de df) := by
  obtain ⟨t, h1, h2⟩ := h
  obtain ⟨u, g1, g2⟩ := g
  refine ⟨_, pe_or h1 g1, fun B F H ρ σ E q hq Q k => h2 B F H ρ σ E _ hq _ fun v d F1 H1 g3 r z => ?_⟩
  obtain ⟨c, rfl, z⟩ := is_bool z
  cases r
  refine ⟨c, rfl, ?_⟩
  cases c with
  | true =>
    show Q (.bl true) H1
    exact k _ _ F1 H1 g3 (.bl _) (z.1 rfl)
  | false =>
    show u σ H1 Q
    exact g2 B F1 H1 ρ σ (E.grow g3) q (z.2 rfl) Q fun v d F2 H2 g4 r w => k v d F2 H2 (g3.trans g4) r w
theorem de_not (h : DE X a de) : DE X (.UnaryOp .Not a pos) (dNotV de) := by
  obtain ⟨t, h1, h2⟩ := h
  refine ⟨_, pe_not h1, fun B F H ρ σ E q hq Q k => h2 B F H ρ σ E _ hq _ fun v d F1 H1 g3 r z => ?_⟩
  obtain ⟨c, rfl, z⟩ := is_bool z
  cases r
  exact ⟨c, rfl, k _ _ F1 H1 g3 (.bl _) z⟩
def dIf (t : RT) (da db : RE) : RE := fun ρ q => t ρ fun b => (b = true → da ρ q) ∧ (b = false → db ρ q)
theorem de_if {da' db' : RE} (h : DT X c dt) (ha : DE X a da') (hb : DE X b db') : DE X (.IfExp c a b pos) (dIf dt da' db') := by
  obtain ⟨t, h1, h2⟩ := h
  obtain ⟨ta, a1, a2⟩ := ha
  obtain ⟨tb, b1, b2⟩ := hb
  refine ⟨_, pe_ifExp h1 a1 b1, fun B F H ρ σ E q hq Q k => h2 B F H ρ σ E _ hq _ fun b F1 H1 g1 z => ?_⟩
  cases b with
  | true =>
    show ta σ H1 Q
    exact a2 B F1 H1 ρ σ (E.grow g1) q (z.1 rfl) Q fun v d F2 H2 g2 r w => k v d F2 H2 (g1.trans g2) r w
  | false =>
    show tb σ H1 Q
    exact b2 B F1 H1 ρ σ (E.grow g1) q (z.2 rfl) Q fun v d F2 H2 g2 r w => k v d F2 H2 (g1.trans g2) r w
/-- x.bit_length() -/
def dBits (de : RE) : RE := fun ρ q => de ρ fun d => match d with | .int i => q (.int (Builtin.Int.intBits i : Nat)) | _ => False
theorem de_bits {apos : Pos} (h : DE X e de) (hbase : attributeBase e "bit_length" X.env (eval e X.env) = eval e X.env := by rfl) (hline : (apos.endLine == pos.line) = true := by rfl) : DE X (.Call (.Attribute e "bit_length" apos) [] [] pos) (dBits de) := by
  obtain ⟨t, h1, h2⟩ := h
  refine ⟨_, pe_bits h1 hbase hline, fun B F H ρ σ E q hq Q k => h2 B F H ρ σ E _ hq _ fun v d F1 H1 g1 r z => ?_⟩
  cases r with
  | int i => exact ⟨i, rfl, k _ _ F1 H1 g1 (.int _) z⟩
  | _ => exact z.elim
/-! ### slices -/
def oNone : Rho → (Option Int → Prop) → Prop := fun _ q => q none
def oSome (de : RE) : Rho → (Option Int → Prop) → Prop := fun ρ q => de ρ fun d => match d with | .int i => q (some i) | _ => False
theorem do_none : DO X none oNone := ⟨_, po_none, fun B F H ρ σ E q hq Q k => k none F H (Gr.refl E.fh) hq⟩
theorem do_some (h : DE X e de) : DO X (some e) (oSome de) := by
  obtain ⟨t, h1, h2⟩ := h
  refine ⟨_, po_some h1, fun B F H ρ σ E q hq Q k => h2 B F H ρ σ E _ hq _ fun v d F1 H1 g1 r z => ?_⟩
  cases r with
  | int i => exact ⟨i, rfl, k _ F1 H1 g1 z⟩
  | _ => exact z.elim
def cutD (xs : List D) (lo hi : Option Int) : List D := (xs.drop (HT.sIx xs.length 0 lo)).take (HT.sIx xs.length xs.length hi - HT.sIx xs.length 0 lo)
theorem cut_dp {K : Frag} {H : Hp} {vs : List V} {ds : List D} (h : DpAll K H vs ds) (lo hi : Option Int) : DpAll K H (cutV vs lo hi) (cutD ds lo hi) := by
  unfold cutV cutD
  rw [h.length]
  exact (h.drop _).take _
def dSl (de : RE) (dl dh : Rho → (Option Int → Prop) → Prop) : RE := fun ρ q => de ρ fun d => dl ρ fun lo => dh ρ fun hi => match d with
  | .list xs => q (.list (cutD xs lo hi))
  | .tuple xs => q (.tuple (cutD xs lo hi))
  | _ => False
theorem cutV_all {xs : List V} {lo hi : Option Int} (h : HT.sIx xs.length 0 lo = 0 ∧ HT.sIx xs.length xs.length hi = xs.length) : cutV xs lo hi = xs := by
  unfold cutV
  rw [h.1, h.2]
  simp
theorem de_sl {lo hi : Option Expr} {dl dh : Rho → (Option Int → Prop) → Prop} {p2 : Pos} (h : DB X e de) (h1 : DO X lo dl) (h2 : DO X hi dh) : DE X (.Subscript e (.Slice lo hi none p2) pos) (dSl de dl dh) := by
  obtain ⟨te, e1, e2⟩ := h
  obtain ⟨tl, l1, l2⟩ := h1
  obtain ⟨th, u1, u2⟩ := h2
  refine ⟨_, pe_slice (sl_list.or sl_tupA) e1 l1 u1, fun B F H ρ σ E q hq Q k => e2 B F H ρ σ E _ hq _ fun v d F1 H1 g1 b z => l2 B F1 H1 ρ σ (E.grow g1) _ z _ fun lo F2 H2 g2 z => u2 B F2 H2 ρ σ (E.grow (g1.trans g2)) _ z _ fun hi F3 H3 g3 z => ?_⟩
  have g := (g1.trans g2).trans g3
  have b := b.grow (g2.trans g3)
  cases d with
  | list xs =>
    obtain ⟨a, vs, rfl, s1, d1⟩ := b.lst g3.fh
    refine .inl ⟨a, vs, rfl, s1, fun p hp => ?_⟩
    have gn := Gr.new (o := .lst (cutV vs lo hi)) g3.fh hp
    exact k _ _ _ _ (g.trans gn) (.lst (.inl (.inl upd_same)) ((cut_dp d1 lo hi).mono gn.ff)) z
  | tuple xs =>
    obtain ⟨a, vs, rfl, s0, s1, d1⟩ := b.tup g3.fh
    refine .inr ⟨a, vs, rfl, s1, fun w => ?_, fun _ p hp => ?_⟩
    · have ew := cutV_all w
      have d2 := cut_dp d1 lo hi
      rw [ew] at d2
      exact k _ _ _ _ g (.tup s0 d2) z
    · have gn := Gr.new (o := .tup (cutV vs lo hi)) g3.fh hp
      exact k _ _ _ _ (g.trans gn) (.tup (.inl (.inl upd_same)) ((cut_dp d1 lo hi).mono gn.ff)) z
  | _ => exact z.elim
/-- a slice of a list, of one's own -/
def lSl (de : RE) (dl dh : Rho → (Option Int → Prop) → Prop) : RL := fun ρ q => de ρ fun d => dl ρ fun lo => dh ρ fun hi => match d with
  | .list xs => q (cutD xs lo hi)
  | _ => False
theorem dl_sl {lo hi : Option Expr} {dl dh : Rho → (Option Int → Prop) → Prop} {p2 : Pos} (h : DB X e de) (h1 : DO X lo dl) (h2 : DO X hi dh) : DLs X (.Subscript e (.Slice lo hi none p2) pos) (lSl de dl dh) := by
  obtain ⟨te, e1, e2⟩ := h
  obtain ⟨tl, l1, l2⟩ := h1
  obtain ⟨th, u1, u2⟩ := h2
  refine ⟨_, pe_slice sl_list e1 l1 u1, fun B F H ρ σ E q hq Q k => e2 B F H ρ σ E _ hq _ fun v d F1 H1 g1 b z => l2 B F1 H1 ρ σ (E.grow g1) _ z _ fun lo F2 H2 g2 z => u2 B F2 H2 ρ σ (E.grow (g1.trans g2)) _ z _ fun hi F3 H3 g3 z => ?_⟩
  have g := (g1.trans g2).trans g3
  have b := b.grow (g2.trans g3)
  cases d with
  | list xs =>
    obtain ⟨a, vs, rfl, s1, d1⟩ := b.lst g3.fh
    exact ⟨a, vs, rfl, s1, fun p hp => k p _ _ _ _ (g.trans (Gr.newO g3.fh hp)) (g.hh.free hp) (g3.fh.free hp) upd_same (cut_dp d1 lo hi) z⟩
  | _ => exact z.elim
end
end DL

namespace DL
open PySem PySem.Spec PyProof.Rows L2

/-! ### statements over data -/
structure DEnds where
  nx : Rho → Prop
  rt : DV → Prop
  bk : Rho → Prop := fun _ => False
  ct : Rho → Prop := fun _ => False
abbrev RS := DEnds → Rho → Prop
/-- what is handed back: data, or a new list of the caller's own -/
def ResF (K : Frag) (B F H : Hp) (v : V) : DV → Prop
  | .val d => Dp K F v d
  | .own ds => ∃ p vs, v = .ref p ∧ B p = none ∧ F p = none ∧ H p = some (.lst vs) ∧ DpAll K F vs ds
structure EndsOk (K : Frag) (F0 B : Hp) (DD : DEnds) (E : Ends) : Prop where
  nx : ∀ F H ρ σ, Gr F0 B F H → EnvOk K B F H ρ σ → DD.nx ρ → E.nx σ H
  rt : ∀ v r F H, Gr F0 B F H → ResF K B F H v r → DD.rt r → E.rt v H
  bk : ∀ F H ρ σ, Gr F0 B F H → EnvOk K B F H ρ σ → DD.bk ρ → E.bk σ H
  ct : ∀ F H ρ σ, Gr F0 B F H → EnvOk K B F H ρ σ → DD.ct ρ → E.ct σ H
/-- the ground moves on: F0 to F1 -/
theorem Gr.on {F0 B F1 H1 F H : Hp} (a : Gr F0 B F1 H1) (b : Gr F1 B F H) : Gr F0 B F H := ⟨a.ff.trans b.ff, b.hh, b.fh, fun p h m => b.own p (a.own p h m) m⟩
theorem EndsOk.mono {K : Frag} {F0 B F1 H1 : Hp} {DD : DEnds} {E : Ends} (h : EndsOk K F0 B DD E) (e : Gr F0 B F1 H1) : EndsOk K F1 B DD E :=
  ⟨fun F H ρ σ s => h.nx F H ρ σ (e.on s), fun v r F H s => h.rt v r F H (e.on s), fun F H ρ σ s => h.bk F H ρ σ (e.on s), fun F H ρ σ s => h.ct F H ρ σ (e.on s)⟩
/-- at the ground itself -/
theorem Gr.self {F0 B F H : Hp} (a : Gr F0 B F H) : Gr F B F H := ⟨Same.refl F, a.hh, a.fh, fun _ h _ => h⟩
/-- one step further -/
theorem Gr.to {F0 B F H F' H' : Hp} (a : Gr F0 B F H) (g : Gr F H F' H') : Gr F0 B F' H' := ⟨a.ff.trans g.ff, a.hh.trans g.hh, g.fh, fun p h m => g.own p (a.own p h m) (by rw [mut_same a.hh m]; exact m)⟩
/-- a list of one's own is written -/
theorem Gr.wr {F0 B F H : Hp} {p : Addr} {o : HO} (a : Gr F0 B F H) (hb : B p = none) (hf : F p = none) : Gr F0 B F (upd H p o) := ⟨a.ff, fun b u e => by
  rw [upd_ne (ne_of_none e hb)]
  exact a.hh b u e, fun b u e => by
  rw [upd_ne (ne_of_none e hf)]
  exact a.fh b u e, a.own⟩
def SimS (K : Frag) (ts : TS) (ds : RS) : Prop := ∀ (F0 B F H : Hp) (ρ : Rho) (σ : L2.St), Gr F0 B F H → EnvOk K B F H ρ σ → ∀ (DD : DEnds), ds DD ρ → ∀ E : Ends, EndsOk K F0 B DD E → ts E σ H
def DS (X : Cx) (st : Stmt) (ds : RS) : Prop := ∃ ts, PS X st ts ∧ SimS X.K ts ds
def DSs (X : Cx) (st : List Stmt) (ds : RS) : Prop := ∃ ts, PSs X st ts ∧ SimS X.K ts ds

section
variable {X : Cx} {st : Stmt} {rest : List Stmt} {ds du : RS} {e a b : Expr} {de da db : RE} {dl : RL} {dt : RT} {pos : Pos}
def sNext : RS := fun DD ρ => DD.nx ρ
@[irreducible] def sSeq (t u : RS) (DD : DEnds) (ρ : Rho) : Prop := t { DD with nx := u DD } ρ
theorem sSeq_c {t u : RS} {DD : DEnds} {ρ : Rho} : sSeq t u DD ρ = t { DD with nx := u DD } ρ := by unfold sSeq; rfl
theorem ss_nil : DSs X [] sNext := ⟨_, pss_nil, fun F0 B F H ρ σ s E DD h D k => k.nx F H ρ σ s E h⟩
theorem sim_seq {K : Frag} {t u : TS} (h1 : SimS K t ds) (h2 : SimS K u du) : SimS K (tSeq t u) (sSeq ds du) := fun F0 B F H ρ σ s E DD h D k =>
  h1 F0 B F H ρ σ s E _ (Eq.mp sSeq_c h) _ ⟨fun F' H' ρ' σ' s' E' q => h2 F0 B F' H' ρ' σ' s' E' DD q D k, k.rt, k.bk, k.ct⟩
theorem ss_cons (h1 : DS X st ds) (h2 : DSs X rest du) : DSs X (st :: rest) (sSeq ds du) := by
  obtain ⟨t, a1, a2⟩ := h1
  obtain ⟨u, b1, b2⟩ := h2
  exact ⟨_, pss_cons a1 b1, sim_seq a2 b2⟩
theorem ss_one (h1 : DS X st ds) : DSs X [st] ds := by
  obtain ⟨t, a1, a2⟩ := h1
  exact ⟨_, pss_one a1, a2⟩
def sBreak : RS := fun DD ρ => DD.bk ρ
def sCont : RS := fun DD ρ => DD.ct ρ
theorem st_pass : DS X (.Pass pos) sNext := ⟨_, ps_pass, fun F0 B F H ρ σ s E DD h D k => k.nx F H ρ σ s E h⟩
theorem st_break : DS X (.Break pos) sBreak := ⟨_, ps_break, fun F0 B F H ρ σ s E DD h D k => k.bk F H ρ σ s E h⟩
theorem st_cont : DS X (.Continue pos) sCont := ⟨_, ps_continue, fun F0 B F H ρ σ s E DD h D k => k.ct F H ρ σ s E h⟩
theorem st_doc {x j pos'} : DS X (.Expr (.Constant (.str x) j pos) pos') sNext := ⟨_, ps_doc, fun F0 B F H ρ σ s E DD h D k => k.nx F H ρ σ s E h⟩
/-- return e -/
def sRet (de : RE) : RS := fun DD ρ => de ρ fun d => DD.rt (.val d)
theorem st_ret (h : DE X e de) : DS X (.Return (some e) pos) (sRet de) := by
  obtain ⟨t, a1, a2⟩ := h
  exact ⟨_, ps_ret a1, fun F0 B F H ρ σ s E DD h D k => a2 B F H ρ σ E _ h _ fun v d F' H' g r z => k.rt v (.val d) F' H' (s.to g) r z⟩
/-- return [..]: a new list -/
def sRetL (dl : RL) : RS := fun DD ρ => dl ρ fun ds => DD.rt (.own ds)
theorem st_retL (h : DLs X e dl) : DS X (.Return (some e) pos) (sRetL dl) := by
  obtain ⟨t, a1, a2⟩ := h
  exact ⟨_, ps_ret a1, fun F0 B F H ρ σ s E DD h D k => a2 B F H ρ σ E _ h _ fun p vs ds F' H' g hp hf hh ha z => k.rt (.ref p) (.own ds) F' H' (s.to g) ⟨p, vs, rfl, s.hh.free hp, hf, hh, ha⟩ z⟩
/-- return x, x an own list -/
def sRetO (i : Nat) : RS := fun DD ρ => match ρ[i]? with | some (some (.own ds)) => DD.rt (.own ds) | _ => False
theorem st_retO (i : Nat) {x : Str} {pos' : Pos} (hN : X.N[i]? = some x := by rfl) (hv : Vis X.env.scope x := by first | exact Or.inl rfl | exact Or.inr (Or.inl rfl) | exact Or.inr (Or.inr rfl)) (hd : (x == ("__debug__" : Str)) = false := by decide)
    (hcd : (x == ("__classdict__" : Str)) = false := by decide) : DS X (.Return (some (.Name x pos')) pos) (sRetO i) := by
  refine ⟨_, ps_ret (pe_var hN hv hd hcd), fun F0 B F H ρ σ s E DD h D k => ?_⟩
  unfold sRetO at h
  split at h
  · rename_i ds q
    obtain ⟨v, h1, p, vs, rfl, f0, f1, f2, f3⟩ := E.at' i _ q
    exact ⟨_, h1, k.rt (.ref p) (.own ds) F H s ⟨p, vs, rfl, f0, f1, f2, f3⟩ h⟩
  · exact h.elim
def sRetN : RS := fun DD _ => DD.rt (.val .none)
theorem st_retN : DS X (.Return none pos) sRetN := ⟨_, ps_retN, fun F0 B F H ρ σ s E DD h D k => k.rt .non (.val .none) F H s .non h⟩
def sIf (c : RT) (t u : RS) : RS := fun DD ρ => c ρ fun b => (b = true → t DD ρ) ∧ (b = false → u DD ρ)
theorem st_if {c : Expr} {p q : List Stmt} (hc : DT X c dt) (ha : DSs X p ds) (hb : DSs X q du) : DS X (.If c p q pos) (sIf dt ds du) := by
  obtain ⟨tc, c1, c2⟩ := hc
  obtain ⟨ta, a1, a2⟩ := ha
  obtain ⟨tb, b1, b2⟩ := hb
  refine ⟨_, ps_if c1 a1 b1, fun F0 B F H ρ σ s E DD h D k => c2 B F H ρ σ E _ h _ fun b F' H' g z => ?_⟩
  cases b with
  | true => exact a2 F0 B F' H' ρ σ (s.to g) (E.grow g) DD (z.1 rfl) D k
  | false => exact b2 F0 B F' H' ρ σ (s.to g) (E.grow g) DD (z.2 rfl) D k
/-- an own list is kept for good from here on -/
def frz1 (i : Nat) (ρ : Rho) : Rho := match ρ[i]? with | some (some (.own ds)) => ρ.set i (some (.val (.list ds))) | _ => ρ
def sFrz (i : Nat) (t : RS) : RS := fun DD ρ => t DD (frz1 i ρ)
theorem sim_frz {K : Frag} {t : TS} (i : Nat) (h : SimS K t ds) : SimS K t (sFrz i ds) := fun F0 B F H ρ σ s E DD hd D k => by
  unfold sFrz frz1 at hd
  split at hd
  · rename_i xs q
    obtain ⟨F', s', o', E'⟩ := E.frz q
    exact h F0 B F' H _ σ ⟨s.ff.trans s', s.hh, E'.fh, fun p h m => o' p (s.own p h m) m⟩ E' DD hd D k
  · exact h F0 B F H ρ σ s E DD hd D k
theorem st_frz (i : Nat) (h : DS X st ds) : DS X st (sFrz i ds) := by
  obtain ⟨t, a1, a2⟩ := h
  exact ⟨t, a1, sim_frz i a2⟩
theorem ss_frz (i : Nat) (h : DSs X rest ds) : DSs X rest (sFrz i ds) := by
  obtain ⟨t, a1, a2⟩ := h
  exact ⟨t, a1, sim_frz i a2⟩
/-- a name is forgotten -/
theorem EnvOk.forget {K : Frag} {B F H : Hp} {ρ : Rho} {σ : L2.St} (E : EnvOk K B F H ρ σ) (ρ' : Rho) (hl : ρ'.length = ρ.length) (w : ∀ (i : Nat) dv, ρ'[i]? = some (some dv) → ρ[i]? = some (some dv)) : EnvOk K B F H ρ' σ :=
  ⟨E.fh, E.bh, hl.trans E.len, fun i dv e => E.at' i dv (w i dv e), fun i j p a b n e1 e2 => E.sep i j p a b n (w _ _ e1) (w _ _ e2)⟩

/-! ### stores -/
/-- x = e -/
def sSet (i : Nat) (de : RE) : RS := fun DD ρ => de ρ fun d => DD.nx (ρ.set i (some (.val d)))
theorem st_set {i : Nat} {x : Str} {pos' : Pos} (hN : X.N.Nodup) (he : DE X e de) (hi : X.N[i]? = some x := by rfl) (hx : Loc X.env.scope x := by first | exact Or.inl rfl | exact Or.inr rfl) (hs : swapsWith e (some (.Name x pos')) pos.line X.env = pure false := by rfl)
    (hf : X.fn x = true ∨ X.env.scope.names.lookup x = some .local := by first | exact .inl rfl | exact .inr rfl | assumption) : DS X (.Assign [.Name x pos'] e pos) (sSet i de) := by
  obtain ⟨t, a1, a2⟩ := he
  exact ⟨_, ps_set hN hi hx a1 hs hf, fun F0 B F H ρ σ s E DD h D k => a2 B F H ρ σ E _ h _ fun v d F' H' g r z => k.nx F' H' _ _ (s.to g) ((E.grow g).set i r) z⟩
def sSetL (i : Nat) (dl : RL) : RS := fun DD ρ => dl ρ fun ds => DD.nx (ρ.set i (some (.own ds)))
theorem own_new {K : Frag} {B F H F' H' : Hp} {ρ : Rho} {σ : L2.St} (E : EnvOk K B F H ρ σ) (g : Gr F H F' H') (i : Nat) {p : Addr} {vs : List V} {ds : List D} (hp : H p = none) (hf : F' p = none) (hh : H' p = some (.lst vs)) (ha : DpAll K F' vs ds) :
    EnvOk K B F' H' (ρ.set i (some (.own ds))) (σ.set i (some (.ref p))) := by
  refine (E.grow g).setOwn i (E.bh.free hp) hf hh ha (fun j a hj e1 e2 => ?_) fun _ _ => rfl
  obtain ⟨v, h1, q, us, rfl, f0, f1, f2, f3⟩ := E.at' j _ e1
  rw [h1] at e2
  cases e2
  rw [hp] at f2
  cases f2
theorem st_setL {i : Nat} {x : Str} {pos' : Pos} (hN : X.N.Nodup) (he : DLs X e dl) (hi : X.N[i]? = some x := by rfl) (hx : Loc X.env.scope x := by first | exact Or.inl rfl | exact Or.inr rfl) (hs : swapsWith e (some (.Name x pos')) pos.line X.env = pure false := by rfl)
    (hf : X.fn x = true ∨ X.env.scope.names.lookup x = some .local := by first | exact .inl rfl | exact .inr rfl | assumption) : DS X (.Assign [.Name x pos'] e pos) (sSetL i dl) := by
  obtain ⟨t, a1, a2⟩ := he
  exact ⟨_, ps_set hN hi hx a1 hs hf, fun F0 B F H ρ σ s E DD h D k => a2 B F H ρ σ E _ h _ fun p vs ds F' H' g hp hf hh ha z => k.nx F' H' _ _ (s.to g) (own_new E g i hp hf hh ha) z⟩
/-- e; (its value dropped) -/
def sDrop (de : RE) : RS := fun DD ρ => de ρ fun _ => DD.nx ρ
theorem st_expr (he : DE X e de) (hs : swapsWith e none pos.line X.env = pure false := by rfl) : DS X (.Expr e pos) (sDrop de) := by
  obtain ⟨t, a1, a2⟩ := he
  exact ⟨_, ps_expr a1 hs, fun F0 B F H ρ σ s E DD h D k => a2 B F H ρ σ E _ h _ fun v d F' H' g r z => k.nx F' H' ρ σ (s.to g) (E.grow g) z⟩
/-! targets -/
abbrev RG := D → Rho → (Rho → Prop) → Prop
abbrev RGs := List D → Rho → (Rho → Prop) → Prop
def SimG (K : Frag) (g : TG) (dg : RG) : Prop := ∀ (B F H : Hp) (ρ : Rho) (σ : L2.St) (v : V) (d : D), EnvOk K B F H ρ σ → Dp K F v d → ∀ q : Rho → Prop, dg d ρ q → ∀ Q : L2.St → Hp → Prop, (∀ ρ' σ', EnvOk K B F H ρ' σ' → q ρ' → Q σ' H) → g v σ H Q
def SimGs (K : Frag) (g : TGs) (dg : RGs) : Prop := ∀ (B F H : Hp) (ρ : Rho) (σ : L2.St) (vs : List V) (xs : List D), EnvOk K B F H ρ σ → DpAll K F vs xs → ∀ q : Rho → Prop, dg xs ρ q → ∀ Q : L2.St → Hp → Prop, (∀ ρ' σ', EnvOk K B F H ρ' σ' → q ρ' → Q σ' H) → g vs σ H Q
def DG (X : Cx) (tg : Expr) (dg : RG) : Prop := ∃ g, PG X tg g ∧ SimG X.K g dg
def DGs (X : Cx) (tgs : List Expr) (dg : RGs) : Prop := ∃ g, PGs X tgs g ∧ SimGs X.K g dg
def rName (i : Nat) : RG := fun d ρ q => q (ρ.set i (some (.val d)))
theorem tg_name {i : Nat} {x : Str} (hN : X.N.Nodup) (hi : X.N[i]? = some x := by rfl) (hx : Loc X.env.scope x := by first | exact Or.inl rfl | exact Or.inr rfl) (hf : X.fn x = true ∨ X.env.scope.names.lookup x = some .local := by first | exact .inl rfl | exact .inr rfl | assumption) : DG X (.Name x pos) (rName i) :=
  ⟨_, pg_name hN hi hx hf, fun B F H ρ σ v d E r q h Q k => k _ _ (E.set i r) h⟩
def rNil : RGs := fun xs ρ q => xs = [] ∧ q ρ
def rCons (g : RG) (u : RGs) : RGs := fun xs ρ q => match xs with | [] => False | d :: r => g d ρ fun ρ' => u r ρ' q
theorem tg_nil : DGs X [] rNil := ⟨_, pgs_nil, fun B F H ρ σ vs xs E r q h Q k => by
  obtain ⟨rfl, h⟩ := h
  cases r
  exact ⟨rfl, k _ _ E h⟩⟩
theorem tg_cons {e : Expr} {es : List Expr} {dg : RG} {dgs : RGs} (h1 : DG X e dg) (h2 : DGs X es dgs)
    (hs : (assignEach (e :: es) X.env).map (·.2) = assign e X.env :: (assignEach es X.env).map (·.2) := by rfl) : DGs X (e :: es) (rCons dg dgs) := by
  obtain ⟨g, a1, a2⟩ := h1
  obtain ⟨u, b1, b2⟩ := h2
  refine ⟨_, pgs_cons a1 b1 hs, fun B F H ρ σ vs xs E r q h Q k => ?_⟩
  cases xs with
  | nil => exact h.elim
  | cons d r' =>
    cases r with
    | cons r1 r2 => exact ⟨_, _, rfl, a2 B F H ρ σ _ d E r1 _ h _ fun ρ' σ' E' z => b2 B F H ρ' σ' _ _ E' r2 q z Q k⟩
def rTup (n : Nat) (g : RGs) : RG := fun d ρ q => match d with | .tuple xs => xs.length = n ∧ g xs ρ q | _ => False
theorem tg_tup {es : List Expr} {k : Nat} {dg : RGs} {n : Nat} (h : DGs X es dg) (hc : X.calm = true := by rfl)
    (hn : (assignEach es X.env).length = n := by rfl) (hst : (assignEach es X.env).findIdx? (·.1) = none := by rfl) : DG X (.Tuple es k pos) (rTup n dg) := by
  obtain ⟨g, a1, a2⟩ := h
  refine ⟨_, pg_tup hc a1 hn hst, fun B F H ρ σ v d E r q h Q k => ?_⟩
  cases d with
  | tuple xs =>
    cases r with
    | tup hs ha => exact ⟨_, _, rfl, E.fh.seqT hs, by rw [ha.length]; exact h.1, a2 B F H ρ σ _ xs E ha q h.2 Q k⟩
  | _ => exact h.elim
/-- target = e -/
def sAsg (de : RE) (g : RG) : RS := fun DD ρ => de ρ fun d => g d ρ DD.nx
theorem st_asg {tg : Expr} {dg : RG} (he : DE X e de) (hg : DG X tg dg) (hs : swapsWithSole [tg] e pos.line X.env = pure false := by rfl) (hw : swappedStores [tg] e X.env = pure none := by rfl)
    (h1 : (assignEach [tg] X.env).map (·.2) = [assign tg X.env] := by rfl) : DS X (.Assign [tg] e pos) (sAsg de dg) := by
  obtain ⟨t, a1, a2⟩ := he
  obtain ⟨g, g1, g2⟩ := hg
  exact ⟨_, ps_asg a1 g1 hs hw h1, fun F0 B F H ρ σ s E DD h D k => a2 B F H ρ σ E _ h _ fun v d F' H' g r z => g2 B F' H' ρ σ v d (E.grow g) r _ z _ fun ρ' σ' E' w => k.nx F' H' ρ' σ' (s.to g) E' w⟩
/-- a, b = e1, e2 -/
def sPar (i j : Nat) (da db : RE) : RS := fun DD ρ => da ρ fun x => db ρ fun y => DD.nx ((ρ.set i (some (.val x))).set j (some (.val y)))
theorem st_par {i j : Nat} {x y : Str} {px py pt : Pos} {kt k2 pt2} (hN : X.N.Nodup) (ha : DE X a da) (hb : DE X b db) (hi : X.N[i]? = some x := by rfl) (hj : X.N[j]? = some y := by rfl) (hij : i ≠ j := by decide)
    (hx : X.env.scope.names.lookup x = some .local := by rfl) (hy : X.env.scope.names.lookup y = some .local := by rfl) (hc : X.calm = true := by rfl)
    (hw : swappedStores [.Tuple [.Name x px, .Name y py] kt pt] (.Tuple [a, b] k2 pt2) X.env = pure (some [x, y]) := by rfl)
    (hs : swapsWithSole [.Tuple [.Name x px, .Name y py] kt pt] (.Tuple [a, b] k2 pt2) pos.line X.env = pure false := by rfl)
    (he : starEach [a, b] X.env = (false, eval a X.env) :: starEach [b] X.env := by rfl) (he2 : starEach [b] X.env = (false, eval b X.env) :: starEach [] X.env := by rfl) :
    DS X (.Assign [.Tuple [.Name x px, .Name y py] kt pt] (.Tuple [a, b] k2 pt2) pos) (sPar i j da db) := by
  obtain ⟨ta, a1, a2⟩ := ha
  obtain ⟨tb, b1, b2⟩ := hb
  refine ⟨_, ps_par hc hN hi hj hij hx hy (pa_cons a1 (pa_cons b1 pa_nil he2) he) hw hs, fun F0 B F H ρ σ s E DD h D k => ?_⟩
  refine a2 B F H ρ σ E _ h _ fun v d F1 H1 g1 r1 z1 => b2 B F1 H1 ρ σ (E.grow g1) _ z1 _ fun u d2 F2 H2 g2 r2 z2 => ⟨v, u, rfl, ?_⟩
  exact k.nx F2 H2 _ _ ((s.to g1).to g2) (((E.grow (g1.trans g2)).set i (r1.mono g2.ff)).set j r2) z2
/-- a, b = e1, e2, both new lists of one's own -/
def sParL (i j : Nat) (da db : RL) : RS := fun DD ρ => da ρ fun x => db ρ fun y => DD.nx ((ρ.set i (some (.own x))).set j (some (.own y)))
/-- x += e (whole numbers) -/
def sAug (i : Nat) (f : Int → Int → Int) (de : RE) : RS := fun DD ρ => match ρ[i]? with | some (some (.val (.int a))) => (de ρ fun d => match d with | .int b => DD.nx (ρ.set i (some (.val (.int (f a b))))) | _ => False) | _ => False
theorem st_aug {i : Nat} {x : Str} {op : Operator} {f : Int → Int → Int} {pos' : Pos} (hN : X.N.Nodup) (ho : PIp X op (ipI f)) (he : DE X e de) (hi : X.N[i]? = some x := by rfl) (hx : Loc X.env.scope x := by first | exact Or.inl rfl | exact Or.inr rfl)
    (hf : X.fn x = true ∨ X.env.scope.names.lookup x = some .local := by first | exact .inl rfl | exact .inr rfl | assumption) : DS X (.AugAssign (.Name x pos') op e pos) (sAug i f de) := by
  obtain ⟨t, a1, a2⟩ := he
  refine ⟨_, ps_aug hN hi hx a1 ho hf, fun F0 B F H ρ σ s E DD h D k => ?_⟩
  unfold sAug at h
  split at h
  · rename_i a q
    obtain ⟨v, h1, h2⟩ := E.at' i _ q
    have hv : v = .int a := by
      cases h2
      rfl
    subst hv
    refine ⟨.int a, h1, a2 B F H ρ σ E _ h _ fun v d F' H' g r z => ?_⟩
    cases r with
    | int b => exact ⟨a, b, rfl, rfl, k.nx F' H' _ _ (s.to g) ((E.grow g).set i (.int _)) z⟩
    | _ => exact z.elim
  · exact h.elim

/-! ### own lists changed -/
/-- a list method on the own list in slot i -/
theorem own_at {K : Frag} {B F H : Hp} {ρ : Rho} {σ : L2.St} (E : EnvOk K B F H ρ σ) {i : Nat} {ds : List D} (q : ρ[i]? = some (some (.own ds))) : ∃ p vs, σ[i]? = some (some (.ref p)) ∧ B p = none ∧ F p = none ∧ H p = some (.lst vs) ∧ DpAll K F vs ds := by
  obtain ⟨v, h1, p, vs, rfl, f0, f1, f2, f3⟩ := E.at' i _ q
  exact ⟨p, vs, h1, f0, f1, f2, f3⟩
theorem own_chg {K : Frag} {B F H : Hp} {ρ : Rho} {σ : L2.St} (E : EnvOk K B F H ρ σ) {i : Nat} {ds ds' : List D} {p : Addr} {vs' : List V} (q : ρ[i]? = some (some (.own ds))) (h1 : σ[i]? = some (some (.ref p))) (hb : B p = none) (hf : F p = none) (ha : DpAll K F vs' ds') :
    EnvOk K B F (upd H p (.lst vs')) (ρ.set i (some (.own ds'))) σ := by
  have e : σ.set i (some (.ref p)) = σ := by
    apply List.ext_getElem?
    intro j
    by_cases hj : i = j
    · subst hj
      rw [List.getElem?_set_self (List.getElem?_eq_some_iff.mp h1).1, h1]
    · rw [List.getElem?_set_ne hj]
  have r := E.setOwn i (p := p) (H' := upd H p (.lst vs')) (vs := vs') hb hf upd_same ha (fun j a hj e1 e2 => E.sep i j p ds a (Ne.symm hj) q e1 h1 e2) fun b hb => upd_ne hb
  rw [e] at r
  exact r
/-- x.append(e) -/
def sApp (i : Nat) (de : RE) : RS := fun DD ρ => match ρ[i]? with | some (some (.own ds)) => Fit (ds.length + 1) ∧ de ρ fun d => DD.nx (ρ.set i (some (.own (ds ++ [d])))) | _ => False
theorem st_app {i : Nat} {x : Str} {pos1 pos2 pos3 : Pos} (he : DE X e de) (hN : X.N[i]? = some x := by rfl) (hv : Vis X.env.scope x := by first | exact Or.inl rfl | exact Or.inr (Or.inl rfl) | exact Or.inr (Or.inr rfl)) (hd : (x == ("__debug__" : Str)) = false := by decide)
    (hcd : (x == ("__classdict__" : Str)) = false := by decide)
    (hbase : attributeBase (.Name x pos1) "append" X.env (eval (.Name x pos1) X.env) = eval (.Name x pos1) X.env := by rfl)
    (hfew : ((backTo pos3 (starEach (e :: []) X.env)).all (fun x => !x.1) && (backToKw pos3 (keywordEach [] X.env)).all (fun x => x.1.isSome)
      && decide ((e :: []).length + ([] : List Keyword).length + (if ([] : List Keyword).isEmpty then 0 else 1) < 30)) = true := by rfl)
    (hline : (pos2.endLine == pos3.line) = true := by rfl) (hs : starEach (e :: []) X.env = (false, eval e X.env) :: starEach [] X.env := by rfl) (hplain : (backTo pos3 (starEach [] X.env)).any (·.1) = false := by rfl)
    (hsw : swapsWith (.Call (.Attribute (.Name x pos1) "append" pos2) [e] [] pos3) none pos.line X.env = pure false := by rfl) :
    DS X (.Expr (.Call (.Attribute (.Name x pos1) "append" pos2) [e] [] pos3) pos) (sApp i de) := by
  obtain ⟨t, a1, a2⟩ := he
  refine ⟨_, ps_expr (pe_bm PySem.F.plainAttrs_list PySem.F.slot_list_append PySem.F.type_list_append mt_append (pe_var hN hv hd hcd) (pa_cons a1 pa_nil hs) hbase hfew hline hs hplain) hsw, fun F0 B F H ρ σ s E DD h D k => ?_⟩
  unfold sApp at h
  split at h
  · rename_i ds q
    obtain ⟨hl, h⟩ := h
    obtain ⟨p, vs, h1, f0, f1, f2, f3⟩ := own_at E q
    refine ⟨.ref p, h1, .inl ⟨rfl, vs, .inl (.inl f2)⟩, a2 B F H ρ σ E _ h _ fun v d F' H' g r z => ?_⟩
    have f2' := g.hh p _ f2
    have f1' := g.own p f1 (by rw [f2]; trivial)
    refine ⟨p, vs, v, rfl, rfl, f2', by rw [f3.length]; exact hl.le, k.nx F' _ _ _ ((s.to g).wr f0 f1') (own_chg (E.grow g) q h1 f0 f1' ((f3.mono g.ff).append (.cons r .nil))) z⟩
  · exact h.elim
/-- x[e2] = e -/
def sSetI (i : Nat) (de di : RE) : RS := fun DD ρ => match ρ[i]? with
  | some (some (.own ds)) => de ρ fun d => di ρ fun k => (match k with | .int z => (match ixN ds.length z with | some j => DD.nx (ρ.set i (some (.own (ds.set j d)))) | none => False) | _ => False)
  | _ => False
theorem st_setI {i : Nat} {x : Str} {e2 : Expr} {di : RE} {pos1 pos2 : Pos} (he : DE X e de) (hi' : DE X e2 di) (hN : X.N[i]? = some x := by rfl) (hv : Vis X.env.scope x := by first | exact Or.inl rfl | exact Or.inr (Or.inl rfl) | exact Or.inr (Or.inr rfl)) (hd : (x == ("__debug__" : Str)) = false := by decide)
    (hcd : (x == ("__classdict__" : Str)) = false := by decide)
    (hs : swapsWithSole [.Subscript (.Name x pos1) e2 pos2] e pos.line X.env = pure false := by rfl) (hw : swappedStores [.Subscript (.Name x pos1) e2 pos2] e X.env = pure none := by rfl)
    (h1 : (assignEach [.Subscript (.Name x pos1) e2 pos2] X.env).map (·.2) = [assign (.Subscript (.Name x pos1) e2 pos2) X.env] := by rfl)
    (ha : ∀ v, assign (.Subscript (.Name x pos1) e2 pos2) X.env v = (do
      let ov ← holding [v] (eval (.Name x pos1) X.env)
      let iv ← holding [v, ov] (eval e2 X.env)
      standAt pos2
      holding [v, ov, iv] (setItem ov iv v)
      release [v, ov, iv] []) := by intro _; rfl) :
    DS X (.Assign [.Subscript (.Name x pos1) e2 pos2] e pos) (sSetI i de di) := by
  obtain ⟨t, a1, a2⟩ := he
  obtain ⟨u, b1, b2⟩ := hi'
  refine ⟨_, ps_asg a1 (pg_sub (pe_var hN hv hd hcd) b1 set_list ha) hs hw h1, fun F0 B F H ρ σ s E DD h D k => ?_⟩
  unfold sSetI at h
  split at h
  · rename_i ds q
    obtain ⟨p, vs, h1, f0, f1, f2, f3⟩ := own_at E q
    refine a2 B F H ρ σ E _ h _ fun v d F1 H1 g1 r1 z => ⟨.ref p, h1, b2 B F1 H1 ρ σ (E.grow g1) _ z _ fun w k' F2 H2 g2 r2 z => ?_⟩
    have g := g1.trans g2
    cases k' with
    | int n =>
      cases r2
      have z : (match ixN ds.length n with | some j => DD.nx (ρ.set i (some (.own (ds.set j d)))) | none => False) := z
      cases hj : ixN ds.length n with
      | none => rw [hj] at z; exact z.elim
      | some j =>
        rw [hj] at z
        refine ⟨p, vs, n, _, rfl, rfl, g.hh p _ f2, by rw [f3.length]; exact hj, ?_⟩
        exact k.nx F2 _ _ _ ((s.to g).wr f0 (g.own p f1 (by rw [f2]; trivial))) (own_chg (E.grow g) q h1 f0 (g.own p f1 (by rw [f2]; trivial)) ((f3.mono g.ff).set (r1.mono g2.ff) _)) z
    | none => exact z.elim
    | bool _ => exact z.elim
    | str _ => exact z.elim
    | list _ => exact z.elim
    | tuple _ => exact z.elim
    | dict _ => exact z.elim
  · exact h.elim
/-- x.pop() as a statement; y = x.pop() -/
def sPop (i : Nat) : RS := fun DD ρ => match ρ[i]? with | some (some (.own ds)) => ds ≠ [] ∧ DD.nx (ρ.set i (some (.own ds.dropLast))) | _ => False
theorem dp_last {K : Frag} {H : Hp} {vs : List V} {ds : List D} (h : DpAll K H vs ds) (hn : ds ≠ []) : ∃ v, vs[vs.length - 1]? = some v ∧ Dp K H v (ds.getLast hn) := by
  have e : ds[vs.length - 1]? = some (ds.getLast hn) := by
    rw [h.length, List.getLast_eq_getElem]
    exact List.getElem?_eq_getElem _
  exact h.get e
theorem st_pop {i : Nat} {x : Str} {pos1 pos2 pos3 : Pos} (hN : X.N[i]? = some x := by rfl) (hv : Vis X.env.scope x := by first | exact Or.inl rfl | exact Or.inr (Or.inl rfl) | exact Or.inr (Or.inr rfl)) (hd : (x == ("__debug__" : Str)) = false := by decide)
    (hcd : (x == ("__classdict__" : Str)) = false := by decide)
    (hbase : attributeBase (.Name x pos1) "pop" X.env (eval (.Name x pos1) X.env) = eval (.Name x pos1) X.env := by rfl) (hline : (pos2.endLine == pos3.line) = true := by rfl)
    (hsw : swapsWith (.Call (.Attribute (.Name x pos1) "pop" pos2) [] [] pos3) none pos.line X.env = pure false := by rfl) :
    DS X (.Expr (.Call (.Attribute (.Name x pos1) "pop" pos2) [] [] pos3) pos) (sPop i) := by
  refine ⟨_, ps_expr (pe_bm0 PySem.F.plainAttrs_list PySem.F.slot_list_pop PySem.F.type_list_pop mt_pop (pe_var hN hv hd hcd) hbase hline) hsw, fun F0 B F H ρ σ s E DD h D k => ?_⟩
  unfold sPop at h
  split at h
  · rename_i ds q
    obtain ⟨hn, h⟩ := h
    obtain ⟨p, vs, h1, f0, f1, f2, f3⟩ := own_at E q
    obtain ⟨v, hl, r⟩ := dp_last f3 hn
    exact ⟨.ref p, h1, .inl ⟨rfl, vs, .inl (.inl f2)⟩, p, vs, v, rfl, rfl, f2, hl, k.nx F _ _ _ (s.wr f0 f1) (own_chg E q h1 f0 f1 f3.dropLast) h⟩
  · exact h.elim
/-- a method without arguments that leaves another list: reverse -/
def sRev (i : Nat) : RS := fun DD ρ => match ρ[i]? with | some (some (.own ds)) => DD.nx (ρ.set i (some (.own ds.reverse))) | _ => False
theorem st_rev {i : Nat} {x : Str} {pos1 pos2 pos3 : Pos} (hN : X.N[i]? = some x := by rfl) (hv : Vis X.env.scope x := by first | exact Or.inl rfl | exact Or.inr (Or.inl rfl) | exact Or.inr (Or.inr rfl)) (hd : (x == ("__debug__" : Str)) = false := by decide)
    (hcd : (x == ("__classdict__" : Str)) = false := by decide)
    (hbase : attributeBase (.Name x pos1) "reverse" X.env (eval (.Name x pos1) X.env) = eval (.Name x pos1) X.env := by rfl) (hline : (pos2.endLine == pos3.line) = true := by rfl)
    (hsw : swapsWith (.Call (.Attribute (.Name x pos1) "reverse" pos2) [] [] pos3) none pos.line X.env = pure false := by rfl) :
    DS X (.Expr (.Call (.Attribute (.Name x pos1) "reverse" pos2) [] [] pos3) pos) (sRev i) := by
  refine ⟨_, ps_expr (pe_bm0 PySem.F.plainAttrs_list PySem.F.slot_list_reverse PySem.F.type_list_reverse (fun pins s σ H x xs v us Q I r rs h => mt_reverse pins s σ H x xs v us Q I r rs h) (pe_var hN hv hd hcd) hbase hline) hsw, fun F0 B F H ρ σ s E DD h D k => ?_⟩
  unfold sRev at h
  split at h
  · rename_i ds q
    obtain ⟨p, vs, h1, f0, f1, f2, f3⟩ := own_at E q
    exact ⟨.ref p, h1, .inl ⟨rfl, vs, .inl (.inl f2)⟩, p, vs, rfl, rfl, f2, k.nx F _ _ _ (s.wr f0 f1) (own_chg E q h1 f0 f1 f3.reverse) h⟩
  · exact h.elim

/-! ### while -/
def sWhile (c : RT) (body : RS) : RS := fun DD ρ => ∃ W : Nat → Rho → Prop, (∃ m, W m ρ) ∧ ∀ m ρ, W m ρ →
  c ρ fun b => (b = true → body { DD with nx := fun ρ' => ∃ m', m' < m ∧ W m' ρ', ct := fun ρ' => ∃ m', m' < m ∧ W m' ρ', bk := DD.nx } ρ) ∧ (b = false → DD.nx ρ)
theorem st_while {c : Expr} {body : List Stmt} (hc : DT X c dt) (hb : DSs X body ds) (hp : PassesOwn (model X.prog X.w) X.A X.env X.xe := by exact PassesOwn.never) : DS X (.While c body [] pos) (sWhile dt ds) := by
  obtain ⟨t, c1, c2⟩ := hc
  obtain ⟨u, b1, b2⟩ := hb
  refine ⟨_, ps_while hp c1 b1, fun F0 B F H ρ σ s E DD h D k => ?_⟩
  obtain ⟨W, ⟨m0, w0⟩, turn⟩ := h
  refine ⟨fun m σ H => ∃ F ρ, Gr F0 B F H ∧ EnvOk X.K B F H ρ σ ∧ W m ρ, ⟨m0, F, ρ, s, E, w0⟩, ?_⟩
  rintro m σ1 H1 ⟨F1, ρ1, s1, E1, w1⟩
  refine c2 B F1 H1 ρ1 σ1 E1 _ (turn m ρ1 w1) _ fun b F2 H2 g z => ?_
  cases b with
  | true =>
    refine ⟨fun σ' H' => ∃ F' ρ', Gr F0 B F' H' ∧ EnvOk X.K B F' H' ρ' σ' ∧ ∃ m', m' < m ∧ W m' ρ', fun σ' H' ⟨F', ρ', s', E', m', hm, w⟩ => ⟨m', hm, F', ρ', s', E', w⟩, ?_⟩
    exact b2 F0 B F2 H2 ρ1 σ1 (s1.to g) (E1.grow g) _ (z.1 rfl) _ ⟨fun F' H' ρ' σ' s' E' q => ⟨F', ρ', s', E', q⟩, k.rt, k.nx, fun F' H' ρ' σ' s' E' q => ⟨F', ρ', s', E', q⟩⟩
  | false => exact k.nx F2 H2 ρ1 σ1 (s1.to g) (E1.grow g) (z.2 rfl)

/-! ### what a for walks -/
/-- J gives the items, while G stands -/
def IterOk (K : Frag) (J : It) (F G : Hp) (items : List D) : Prop := ∀ F1 H1, Same F F1 → Same G H1 → Same F1 H1 → ∀ i : Nat,
  (i < items.length → J.go i H1 ∧ ∀ x H2, J.yld i H1 x H2 → ∃ F2, Gr F1 H1 F2 H2 ∧ ∃ d, items[i]? = some d ∧ Dp K F2 x d) ∧ (items.length ≤ i → J.stop i H1)
theorem IterOk.mono {K : Frag} {J : It} {F G F' G' : Hp} {items : List D} (h : IterOk K J F G items) (a : Same F F') (b : Same G G') : IterOk K J F' G' items := fun F1 H1 x y z => h F1 H1 (a.trans x) (b.trans y) z
/-- it stands by what stays -/
def SimI (K : Frag) (wi : TI) (di : RL) : Prop := ∀ (B F H : Hp) (ρ : Rho) (σ : L2.St), EnvOk K B F H ρ σ → ∀ q : List D → Prop, di ρ q → ∀ R : It → Hp → Prop, (∀ J items F' H', Gr F H F' H' → IterOk K J F' F' items → q items → R J H') → wi σ H R
/-- it stands while nothing is changed -/
def SimIc (K : Frag) (wi : TI) (di : RL) : Prop := ∀ (B F H : Hp) (ρ : Rho) (σ : L2.St), EnvOk K B F H ρ σ → ∀ q : List D → Prop, di ρ q → ∀ R : It → Hp → Prop, (∀ J items F' H', Gr F H F' H' → IterOk K J F' H' items → q items → R J H') → wi σ H R
def DI (X : Cx) (tg e : Expr) (di : RL) : Prop := ∃ wi, PI X tg e wi ∧ SimI X.K wi di
def DIc (X : Cx) (tg e : Expr) (di : RL) : Prop := ∃ wi, PI X tg e wi ∧ SimIc X.K wi di
theorem DI.c {tg e : Expr} {di : RL} (h : DI X tg e di) : DIc X tg e di := by
  obtain ⟨wi, h1, h2⟩ := h
  exact ⟨wi, h1, fun B F H ρ σ E q hq R k => h2 B F H ρ σ E q hq R fun J items F' H' g it z => k J items F' H' g (it.mono (Same.refl _) g.fh) z⟩
theorem iter_seqL {K : Frag} {a : Addr} {vs : List V} {ds : List D} {F G : Hp} (h : SqL K G a vs) (ha : DpAll K F vs ds) : IterOk K (Itl K a) F G ds := fun F1 H1 sF sG s1 i => by
  have q := sG.seq h
  refine ⟨fun hi => ⟨⟨vs, vs[i]'(by rw [ha.length]; exact hi), q, by simp⟩, fun x H2 y => ?_⟩, fun hi => ⟨vs, q, by rw [ha.length]; exact hi⟩⟩
  obtain ⟨rfl, y⟩ := y
  obtain ⟨v, hv, r⟩ := ha.get (List.getElem?_eq_getElem hi)
  have e := y vs q
  rw [hv] at e
  cases e
  exact ⟨F1, Gr.refl s1, ds[i], List.getElem?_eq_getElem hi, r.mono sF⟩
theorem iter_seqT {K : Frag} {a : Addr} {vs : List V} {ds : List D} {F G : Hp} (h : SqT K G a vs) (ha : DpAll K F vs ds) : IterOk K (Itt K a) F G ds := fun F1 H1 sF sG s1 i => by
  have q := sG.seqT h
  refine ⟨fun hi => ⟨⟨vs, vs[i]'(by rw [ha.length]; exact hi), q, by simp⟩, fun x H2 y => ?_⟩, fun hi => ⟨vs, q, by rw [ha.length]; exact hi⟩⟩
  obtain ⟨rfl, y⟩ := y
  obtain ⟨v, hv, r⟩ := ha.get (List.getElem?_eq_getElem hi)
  have e := y vs q
  rw [hv] at e
  cases e
  exact ⟨F1, Gr.refl s1, ds[i], List.getElem?_eq_getElem hi, r.mono sF⟩
/-- a list or a tuple -/
def iSeq (de : RE) : RL := fun ρ q => de ρ fun d => match d with | .list xs => q xs | .tuple xs => q xs | _ => False
theorem PI.or {tg e : Expr} {w1 w2 : TI} (h1 : PI X tg e w1) (h2 : PI X tg e w2) : PI X tg e (fun σ H R => w1 σ H R ∨ w2 σ H R) :=
  ⟨fun pins s σ H R I h => h.elim (h1.run pins s σ H R I) (h2.run pins s σ H R I)⟩
/-- both ways of one reading -/
def iBoth (K : Frag) (te : TE) : TI := fun σ H R => te σ H fun x H1 => ∃ a, x = .ref a ∧ ((∃ xs, SqL K H1 a xs ∧ R (Itl K a) H1) ∨ (∃ xs, SqT K H1 a xs ∧ R (Itt K a) H1))
theorem pi_both {tg e : Expr} {te : TE} (he : PE X e te) : PI X tg e (iBoth X.K te) := by
  refine ⟨fun pins s σ H R I h => ?_⟩
  refine thn (he.run pins s σ H _ I h) fun v s1 ⟨x, H1, I1, r1, a, e, q⟩ => ?_
  subst e
  have hv : v = .ref a := r1
  subst hv
  -- the walk of a list, of a tuple, as pi_list and pi_tup have it
  have fin : ∀ {it : Addr} {tk : Nat}, it = s1.heap.objs.size → FpOk X pins H1 it := fun {it tk} e => by
    subst e
    exact I1.fpOk (Nat.le_refl _) (I1.hok.fresh (Nat.le_refl _))
  rcases q with ⟨xs, hq, q⟩ | ⟨xs, hq, q⟩
  · obtain ⟨its, rv, p, hz⟩ := I1.list hq
    refine wpAny_pyIter_list p.isList ?_
    exact ⟨s1.heap.objs.size, [s1.heap.objs.size], _, _, H1, rfl, I1.kept (t' := s1.toks) fun b o e => Heap.get?_push_of_some _ e, turn_list a _, ⟨_, Heap.get?_push_size _ rfl, rfl, rfl⟩, fun b hb => fin (tk := 0) (by simpa using hb), q⟩
  · obtain ⟨its, rv, p, hz⟩ := I1.tuple hq
    refine wpAny_pyIter_tuple (show s1.heap.IsTuple a its.toArray from p) ?_
    exact ⟨s1.heap.objs.size, [s1.heap.objs.size], _, _, H1, rfl, I1.kept (t' := s1.toks) fun b o e => Heap.get?_push_of_some _ e, turn_tuple a _, ⟨_, Heap.get?_push_size _ rfl, rfl, rfl⟩, fun b hb => fin (tk := 0) (by simpa using hb), q⟩
theorem i_seq {tg : Expr} (h : DE X e de) : DI X tg e (iSeq de) := by
  obtain ⟨te, h1, h2⟩ := h
  refine ⟨_, pi_both h1, fun B F H ρ σ E q hq R k => h2 B F H ρ σ E _ hq _ fun v d F' H' g r z => ?_⟩
  cases r with
  | lst hs ha => exact ⟨_, rfl, .inl ⟨_, g.fh.seq hs, k _ _ F' H' g (iter_seqL hs ha) z⟩⟩
  | tup hs ha => exact ⟨_, rfl, .inr ⟨_, g.fh.seqT hs, k _ _ F' H' g (iter_seqT hs ha) z⟩⟩
  | _ => exact z.elim
theorem i_seqC {tg : Expr} (h : DB X e de) : DIc X tg e (iSeq de) := by
  obtain ⟨te, h1, h2⟩ := h
  refine ⟨_, pi_both h1, fun B F H ρ σ E q hq R k => h2 B F H ρ σ E _ hq _ fun v d F' H' g r z => ?_⟩
  cases d with
  | list xs =>
    obtain ⟨a, vs, rfl, s1, d1⟩ := r.lst g.fh
    exact ⟨_, rfl, .inl ⟨_, s1, k _ _ F' H' g (iter_seqL s1 d1) z⟩⟩
  | tuple xs =>
    obtain ⟨a, vs, rfl, s0, s1, d1⟩ := r.tup g.fh
    exact ⟨_, rfl, .inr ⟨_, s1, k _ _ F' H' g (iter_seqT s1 d1) z⟩⟩
  | _ => exact z.elim
/-- reversed(e), e a list or a tuple -/
theorem rev_at {vs : List V} {ds : List D} {i : Nat} (hl : vs.length = ds.length) (hi : i < ds.length) : ds.reverse[i]? = ds[vs.length - 1 - i]? := by
  rw [List.getElem?_reverse hi, hl]
theorem iter_revL {K : Frag} {a : Addr} {vs : List V} {ds : List D} {F G : Hp} (h : SqL K G a vs) (ha : DpAll K F vs ds) : IterOk K (Itv K a vs.length) F G ds.reverse := fun F1 H1 sF sG s1 i => by
  have q := sG.seq h
  have hl := ha.length
  rw [List.length_reverse]
  refine ⟨fun hi => ?_, fun hi => by show vs.length ≤ i; omega⟩
  have hj : vs.length - 1 - i < ds.length := by omega
  obtain ⟨v, hv, r⟩ := ha.get (List.getElem?_eq_getElem hj)
  refine ⟨⟨by omega, vs, v, q, hv⟩, fun x H2 y => ?_⟩
  obtain ⟨rfl, y⟩ := y
  have e := y vs q
  rw [hv] at e
  cases e
  exact ⟨F1, Gr.refl s1, ds[vs.length - 1 - i], by rw [rev_at hl hi]; exact List.getElem?_eq_getElem hj, r.mono sF⟩
theorem iter_revT {K : Frag} {a : Addr} {vs : List V} {ds : List D} {F G : Hp} (h : SqT K G a vs) (ha : DpAll K F vs ds) : IterOk K (RT.ItvT K a vs.length) F G ds.reverse := fun F1 H1 sF sG s1 i => by
  have q := sG.seqT h
  have hl := ha.length
  rw [List.length_reverse]
  refine ⟨fun hi => ?_, fun hi => by show vs.length ≤ i; omega⟩
  have hj : vs.length - 1 - i < ds.length := by omega
  obtain ⟨v, hv, r⟩ := ha.get (List.getElem?_eq_getElem hj)
  refine ⟨⟨by omega, vs, v, q, hv⟩, fun x H2 y => ?_⟩
  obtain ⟨rfl, y⟩ := y
  have e := y vs q
  rw [hv] at e
  cases e
  exact ⟨F1, Gr.refl s1, ds[vs.length - 1 - i], by rw [rev_at hl hi]; exact List.getElem?_eq_getElem hj, r.mono sF⟩
def iRevD (de : RE) : RL := fun ρ q => de ρ fun d => match d with | .list xs => q xs.reverse | .tuple xs => q xs.reverse | _ => False
theorem i_rev {tg : Expr} {p : Pos} (h : DE X e de) (hm : X.mg "reversed" = none) (hg : Gl X "reversed" := by rfl) (hs : starEach [e] X.env = (false, eval e X.env) :: starEach [] X.env := by rfl) : DI X tg (.Call (.Name "reversed" p) [e] [] pos) (iRevD de) := by
  obtain ⟨te, h1, h2⟩ := h
  refine ⟨_, RT.pi_revA hg hm h1 hs, fun B F H ρ σ E q hq R k => h2 B F H ρ σ E _ hq _ fun v d F' H' g r z => ?_⟩
  cases r with
  | lst hs ha => exact ⟨_, _, rfl, .inl ⟨g.fh.seq hs, k _ _ F' H' g (iter_revL hs ha) z⟩⟩
  | tup hs ha => exact ⟨_, _, rfl, .inr ⟨g.fh.seqT hs, k _ _ F' H' g (iter_revT hs ha) z⟩⟩
  | _ => exact z.elim
theorem i_revC {tg : Expr} {p : Pos} (h : DB X e de) (hm : X.mg "reversed" = none) (hg : Gl X "reversed" := by rfl) (hs : starEach [e] X.env = (false, eval e X.env) :: starEach [] X.env := by rfl) : DIc X tg (.Call (.Name "reversed" p) [e] [] pos) (iRevD de) := by
  obtain ⟨te, h1, h2⟩ := h
  refine ⟨_, RT.pi_revA hg hm h1 hs, fun B F H ρ σ E q hq R k => h2 B F H ρ σ E _ hq _ fun v d F' H' g r z => ?_⟩
  cases d with
  | list xs =>
    obtain ⟨a, vs, rfl, s1, d1⟩ := r.lst g.fh
    exact ⟨_, _, rfl, .inl ⟨s1, k _ _ F' H' g (iter_revL s1 d1) z⟩⟩
  | tuple xs =>
    obtain ⟨a, vs, rfl, s0, s1, d1⟩ := r.tup g.fh
    exact ⟨_, _, rfl, .inr ⟨s1, k _ _ F' H' g (iter_revT s1 d1) z⟩⟩
  | _ => exact z.elim
/-- lo, lo + 1, .., n of them -/
def upTo : Int → Nat → List D
  | _, 0 => []
  | lo, n + 1 => .int lo :: upTo (lo + 1) n
theorem upTo_length : ∀ (lo : Int) (n : Nat), (upTo lo n).length = n
  | _, 0 => rfl
  | lo, n + 1 => by
    show (upTo (lo + 1) n).length + 1 = n + 1
    rw [upTo_length (lo + 1) n]
theorem upTo_get : ∀ (lo : Int) (n i : Nat), i < n → (upTo lo n)[i]? = some (.int (lo + i))
  | lo, n + 1, 0, _ => by
    show some (PyData.int lo) = some (PyData.int (lo + (0 : Nat)))
    simp
  | lo, n + 1, i + 1, h => by
    show (upTo (lo + 1) n)[i]? = _
    rw [upTo_get (lo + 1) n i (by omega)]
    congr 2
    omega
theorem iter_range {K : Frag} {lo : Int} {n : Nat} {F G : Hp} : IterOk K (Itr lo n) F G (upTo lo n) := fun F1 H1 sF sG s1 i => by
  rw [upTo_length]
  refine ⟨fun hi => ⟨hi, fun x H2 y => ?_⟩, fun hi => hi⟩
  obtain ⟨rfl, rfl⟩ := y
  exact ⟨F1, Gr.refl s1, _, upTo_get lo n i hi, .int _⟩
def iRange1 (de : RE) : RL := fun ρ q => de ρ fun d => match d with | .int j => Rng j ∧ q (upTo 0 j.toNat) | _ => False
theorem i_range1 {tg : Expr} {p : Pos} (h : DE X a de) (hm : X.mg "range" = none) (hg : Gl X "range" := by rfl) (hs : starEach [a] X.env = [(false, eval a X.env)] := by rfl) : DI X tg (.Call (.Name "range" p) [a] [] pos) (iRange1 de) := by
  obtain ⟨te, h1, h2⟩ := h
  refine ⟨_, pi_range1 hg hm (pa_cons h1 pa_nil hs) hs, fun B F H ρ σ E q hq R k => h2 B F H ρ σ E _ hq _ fun v d F' H' g r z => ?_⟩
  cases r with
  | int j => exact ⟨j, rfl, z.1.lo, z.1.hi, k _ _ F' H' g iter_range z.2⟩
  | _ => exact z.elim
def iRange2 (da db : RE) : RL := fun ρ q => da ρ fun x => db ρ fun y => match x, y with | .int i, .int j => (Rng i ∧ Rng j) ∧ q (upTo i (j - i).toNat) | _, _ => False
theorem i_range2 {tg : Expr} {p : Pos} (h : DE X a da) (g' : DE X b db) (hm : X.mg "range" = none) (hg : Gl X "range" := by rfl) (hs : starEach [a, b] X.env = [(false, eval a X.env), (false, eval b X.env)] := by rfl) (hs2 : starEach [b] X.env = [(false, eval b X.env)] := by rfl)
    (hs3 : starEach [a, b] X.env = (false, eval a X.env) :: starEach [b] X.env := by rfl) : DI X tg (.Call (.Name "range" p) [a, b] [] pos) (iRange2 da db) := by
  obtain ⟨te, h1, h2⟩ := h
  obtain ⟨ue, u1, u2⟩ := g'
  refine ⟨_, pi_range2 hg hm (pa_cons h1 (pa_cons u1 pa_nil hs2) hs3) hs hs2, fun B F H ρ σ E q hq R k => h2 B F H ρ σ E _ hq _ fun v x F1 H1 g1 r z => u2 B F1 H1 ρ σ (E.grow g1) _ z _ fun u y F2 H2 g2 r2 z => ?_⟩
  cases x with
  | int i =>
    cases y with
    | int j =>
      cases r
      cases r2
      exact ⟨i, j, rfl, ⟨z.1.1.lo, z.1.1.hi, z.1.2.lo, z.1.2.hi⟩, k _ _ F2 H2 (g1.trans g2) iter_range z.2⟩
    | _ => exact z.elim
  | _ => exact z.elim
/-- lo, lo - 1, .., n of them -/
def downTo : Int → Nat → List D
  | _, 0 => []
  | lo, n + 1 => .int lo :: downTo (lo - 1) n
theorem downTo_length : ∀ (lo : Int) (n : Nat), (downTo lo n).length = n
  | _, 0 => rfl
  | lo, n + 1 => by
    show (downTo (lo - 1) n).length + 1 = n + 1
    rw [downTo_length (lo - 1) n]
theorem downTo_get : ∀ (lo : Int) (n i : Nat), i < n → (downTo lo n)[i]? = some (.int (lo + (i : Nat) * (-1)))
  | lo, n + 1, 0, _ => by
    show some (PyData.int lo) = some (PyData.int (lo + ((0 : Nat) : Int) * (-1)))
    simp
  | lo, n + 1, i + 1, h => by
    show (downTo (lo - 1) n)[i]? = _
    rw [downTo_get (lo - 1) n i (by omega)]
    congr 2
    omega
/-- range(a, b, -1) -/
def iRangeD (da db : RE) : RL := fun ρ q => da ρ fun x => db ρ fun y => match x, y with | .int i, .int j => (Rng i ∧ Rng j) ∧ q (downTo i (i - j).toNat) | _, _ => False
theorem i_rangeD {tg c : Expr} {p : Pos} (h : DE X a da) (g' : DE X b db) (hc : PE X c (tUn (rU fun i => .int (-i)) (tC (.int 1)))) (hm : X.mg "range" = none) (hg : Gl X "range" := by rfl)
    (hs : starEach [a, b, c] X.env = (false, eval a X.env) :: starEach [b, c] X.env := by rfl) (hpl : (backTo pos (starEach [b, c] X.env)).any (·.1) = false := by rfl) (hs2 : starEach [b, c] X.env = (false, eval b X.env) :: starEach [c] X.env := by rfl) (hs3 : starEach [c] X.env = (false, eval c X.env) :: starEach [] X.env := by rfl) :
    DI X tg (.Call (.Name "range" p) [a, b, c] [] pos) (iRangeD da db) := by
  · obtain ⟨te, h1, h2⟩ := h
    obtain ⟨ue, u1, u2⟩ := g'
    refine ⟨_, pi_range3 hg hm (pa_cons h1 (pa_cons u1 (pa_cons hc pa_nil hs3) hs2) hs) hs hpl, fun B F H ρ σ E q hq R k => h2 B F H ρ σ E _ hq _ fun v x F1 H1 g1 r z => u2 B F1 H1 ρ σ (E.grow g1) _ z _ fun u y F2 H2 g2 r2 z => ?_⟩
    cases x with
    | int i =>
      cases y with
      | int j =>
        cases r
        cases r2
        refine ⟨1, rfl, i, j, -1, (i - j).toNat, rfl, RgC.neg z.1.1.lo z.1.1.hi z.1.2.lo z.1.2.hi, k _ _ F2 H2 (g1.trans g2) (fun F3 H3 sF sG s1 n => ?_) z.2⟩
        rw [downTo_length]
        refine ⟨fun hi => ⟨hi, fun x H2 y => ?_⟩, fun hi => hi⟩
        obtain ⟨rfl, rfl⟩ := y
        exact ⟨F3, Gr.refl s1, _, downTo_get i _ n hi, .int _⟩
      | _ => exact z.elim
    | _ => exact z.elim

/-! ### for -/
def forD (g : RG) (body : RS) (DD : DEnds) : List D → Rho → Prop
  | [], ρ => DD.nx ρ
  | d :: r, ρ => g d ρ fun ρ1 => body { DD with nx := forD g body DD r, ct := forD g body DD r, bk := DD.nx } ρ1
def sFor (di : RL) (g : RG) (body : RS) : RS := fun DD ρ => di ρ fun items => forD g body DD items ρ
theorem st_for {tg iter : Expr} {body : List Stmt} {di : RL} {dg : RG} (hi : DI X tg iter di) (hg : DG X tg dg) (hb : DSs X body ds) (hc : X.calm = true := by rfl) (hp : PassesOwn (model X.prog X.w) X.A X.env X.xe := by exact PassesOwn.never)
    (hs : ∀ x, foldedSetIterable iter X.env x = pure x := by intro _; rfl) : DS X (.For tg iter body [] pos) (sFor di dg ds) := by
  obtain ⟨wi, i1, i2⟩ := hi
  obtain ⟨g, g1, g2⟩ := hg
  obtain ⟨tb, b1, b2⟩ := hb
  refine ⟨_, ps_for hp hc i1 g1 b1 hs, fun F0 B F H ρ σ s E DD h D k => i2 B F H ρ σ E _ h _ fun J items F1 H1 gr it z => ?_⟩
  have s0 := s.to gr
  have k0 := k.mono s0
  refine ⟨fun i m σ H => ∃ F2 ρ, Gr F1 B F2 H ∧ EnvOk X.K B F2 H ρ σ ∧ m = items.length - i ∧ i ≤ items.length ∧ forD dg ds DD (items.drop i) ρ, ⟨items.length, F1, ρ, s0.self, E.grow gr, by simp, Nat.zero_le _, by simpa using z⟩, ?_⟩
  rintro i m σ2 H2 ⟨F2, ρ2, s2, E2, rfl, hi, hz⟩
  obtain ⟨go, stop⟩ := it F2 H2 s2.ff (s2.ff.trans E2.fh) E2.fh i
  by_cases hlt : i < items.length
  · obtain ⟨go, yl⟩ := go hlt
    refine .inr ⟨go, fun σ' H' => ∃ F' ρ', Gr F1 B F' H' ∧ EnvOk X.K B F' H' ρ' σ' ∧ forD dg ds DD (items.drop (i + 1)) ρ', fun σ' H' ⟨F', ρ', s', E', q⟩ => ⟨_, by omega, F', ρ', s', E', rfl, hlt, q⟩, fun x H3 y => ?_⟩
    obtain ⟨F3, gr3, d, hd, r⟩ := yl x H3 y
    have ed : items.drop i = d :: items.drop (i + 1) := by
      have e2 : items[i] = d := Option.some.inj ((List.getElem?_eq_getElem hlt).symm.trans hd)
      rw [← e2]
      exact List.drop_eq_getElem_cons hlt
    rw [ed] at hz
    refine g2 B F3 H3 ρ2 σ2 x d (E2.grow gr3) r _ hz _ fun ρ4 σ4 E4 w => ?_
    exact b2 F1 B F3 H3 ρ4 σ4 (s2.to gr3) E4 _ w _ ⟨fun F' H' ρ' σ' s' E' q => ⟨F', ρ', s', E', q⟩, k0.rt, k0.nx, fun F' H' ρ' σ' s' E' q => ⟨F', ρ', s', E', q⟩⟩
  · have e : i = items.length := by omega
    refine .inl ⟨stop (by omega), ?_⟩
    rw [e, List.drop_length] at hz
    exact k0.nx F2 H2 ρ2 σ2 s2 E2 hz
end
end DL

namespace DL
open PySem PySem.Spec PyProof.Rows L2

/-! ### repr of plain data with great whole numbers -/
def reprOk : D → Bool
  | .int _ | .list _ | .tuple _ => true
  | _ => false
def bigLine : Nat := 2 ^ 12000
mutual
def rpD : D → Bool
  | .none | .bool _ => true
  | .int i => decide (i.natAbs < bigLine)
  | .list xs | .tuple xs => rpAll xs
  | _ => false
def rpAll : List D → Bool
  | [] => true
  | x :: xs => rpD x && rpAll xs
end
mutual
def cells : D → Nat
  | .list xs | .tuple xs => 1 + cellsAll xs
  | _ => 1
def cellsAll : List D → Nat
  | [] => 0
  | x :: xs => cells x + cellsAll xs
end
theorem big_lt {i : Int} (h : i.natAbs < bigLine) : i.natAbs < 10 ^ 3640 := Nat.lt_of_lt_of_le h (by unfold bigLine; decide +kernel)
mutual
theorem rp_len : ∀ d : D, rpD d = true → d.shown.length + 2 ≤ 3700 * cells d
  | .none, _ => by
    have e : (PyData.shown .none).length = 4 := rfl
    rw [e]; simp [cells]
  | .bool b, _ => by
    have e : (PyData.shown (.bool b)).length ≤ 5 := by cases b <;> decide
    simp only [cells]; omega
  | .int i, h => by
    have e := int_text_length_le10 (k := 3640) (by decide) (big_lt (by simpa [rpD] using h))
    show (Str.ofString (toString i)).length + 2 ≤ _
    rw [PySem.ofString_length]
    simp only [cells]
    omega
  | .list xs, h => by
    have h3 := rp_lenAll xs (by simpa only [rpD] using h)
    have h4 := listText_len_le (PyData.shownAll xs)
    have h5 := PyData.shownAll_length xs
    simp only [PyData.shown, cells]
    omega
  | .tuple xs, h => by
    have h3 := rp_lenAll xs (by simpa only [rpD] using h)
    have h4 := tupleText_len_le (PyData.shownAll xs)
    have h5 := PyData.shownAll_length xs
    simp only [PyData.shown, cells]
    omega
  | .str _, h => by simp [rpD] at h
  | .dict _, h => by simp [rpD] at h
theorem rp_lenAll : ∀ xs : List D, rpAll xs = true → ((PyData.shownAll xs).map (·.length)).sum + 2 * xs.length ≤ 3700 * cellsAll xs
  | [], _ => by simp [PyData.shownAll, cellsAll]
  | x :: xs, h => by
    have h' : rpD x = true ∧ rpAll xs = true := by simpa only [rpAll, Bool.and_eq_true] using h
    have a3 := rp_len x h'.1
    have b3 := rp_lenAll xs h'.2
    simp only [PyData.shownAll, cellsAll, List.map_cons, List.sum_cons, List.length_cons]
    omega
end
section
variable {prog : Program} {w : World} {h₀ : Heap}
theorem int_text {A : Around} {E : Value → Shared → Prop} {s : Shared} {a : Int} {t : Tok} {Q : Value → Shared → Prop} (hn : s.heap.NoDigits) (ha : a.natAbs < bigLine) (h : Q (.str (toString a) s.toks) { s with toks := s.toks + 1 }) :
    wpAny (model prog w) A (call (.builtin "int.__repr__") [.int a t]) Q E s := by
  have hb : a.natAbs < 10 ^ 4300 := Nat.lt_of_lt_of_le (big_lt ha) (Nat.pow_le_pow_right (by decide) (by decide))
  refine wpAny_call_entry F.slot_int_repr (typeIs_int s a t) F.entry_int_repr ?_ (F.args_int_repr_1 _)
  unfold Builtin.«int.__repr__»
  show wpAny _ _ (do let r ← Builtin.overDigitLimit? a; _) _ _ s
  refine wpAny_bind (overDigitLimit_any hn (fun _ => wpAny_bind (wpAny_mkStr (wpAny_pure ⟨_, rfl, h⟩) (int_text_fits10 hb))) fun hge => ?_)
  exact absurd hb (Nat.not_lt.mpr hge)
theorem repr_int (hn : h₀.NoDigits) (a : Int) (t : Tok) (ha : a.natAbs < bigLine) (as : List Addr) (d : Nat) : ReprK prog w as h₀ d (.int a t) (toString a) := by
  intro base hb A g E s Q _ _ hu hk hQ
  have hb' : base ≤ sizeLine := by omega
  rw [pyReprUnder_leaf (v := .int a t) hb' (fun _ e => nomatch e)]
  unfold pyRepr
  refine wpAny_bind (wpAny_pyReprObj_slot (by omega) (typeIs_int s a t) F.slot_int_repr.toG (int_text (hn.keeps hk) ha ⟨_, _, rfl, wpAny_pure ?_⟩))
  exact hQ s.heap _ fun _ _ e => e
mutual
theorem rp_repr (hn : h₀.NoDigits) : ∀ {v : Value} {d : D} {as : List Addr}, Reads h₀ v d as → rpD d = true → d.shown.length ≤ sizeLine → ∃ bs, ReadAtMost h₀ d.depth bs ∧ ReprK prog w bs h₀ d.depth v d.shown
  | _, _, _, .none, _, _ => ⟨[], (fun _ h => nomatch h), by simp only [PyData.shown]; exact .of_is ReprIs.none _ _ _⟩
  | _, _, _, .bool b, _, _ => ⟨[], (fun _ h => nomatch h), by simp only [PyData.shown]; exact .of_is (ReprIs.bool b) _ _ _⟩
  | _, _, _, .int i t, hs, _ => ⟨[], (fun _ h => nomatch h), by simp only [PyData.shown]; exact repr_int hn i t (by simpa [rpD] using hs) _ _⟩
  | _, _, _, .str x t, hs, _ => by simp [rpD] at hs
  | _, _, _, .list (a := a) (vs := vs) (xs := xs) h1 h2 h3 h4, hs, hz => by
    have hz' : (listText (PyData.shownAll xs)).length ≤ sizeLine := by simpa only [PyData.shown] using hz
    obtain ⟨bs, hb, hk⟩ := rp_reprAll hn h4 (by simpa only [rpD] using hs) fun t ht => Nat.le_trans (listText_mem_le ht) hz'
    have r : Reads h₀ (.ref a) (.list xs) _ := .list h1 h2 h3 h4
    refine ⟨a :: bs, .cons r (by simp only [PyData.depth]; omega) hb, ?_⟩
    have off : a ∉ bs := not_mem_of_deeper r (by simp only [PyData.depth]; omega) hb
    simp only [PyData.depth, PyData.shown]
    obtain ⟨l⟩ := vs
    cases l with
    | nil =>
      have h4' : ReadsAll h₀ [] xs _ := h4
      cases h4'
      simp only [PyData.shownAll, listText_nil]
      exact .listEmpty h1 h2 h3
    | cons x l => exact .list h1 h2 h3 off (by simpa using hk.length_eq) fun i y e => hk.item i y (by simpa using e)
  | _, _, _, .tuple (a := a) (xs := xs) h1 h2 h3 h4, hs, hz => by
    have hz' : (tupleText (PyData.shownAll xs)).length ≤ sizeLine := by simpa only [PyData.shown] using hz
    obtain ⟨bs, hb, hk⟩ := rp_reprAll hn h4 (by simpa only [rpD] using hs) fun t ht => Nat.le_trans (tupleText_mem_le ht) hz'
    have r : Reads h₀ (.ref a) (.tuple xs) _ := .tuple h1 h2 h3 h4
    refine ⟨a :: bs, .cons r (by simp only [PyData.depth]; omega) hb, ?_⟩
    have off : a ∉ bs := not_mem_of_deeper r (by simp only [PyData.depth]; omega) hb
    simp only [PyData.depth, PyData.shown]
    exact .tuple h1 h2 h3 off hk
  | _, _, _, .dict _ _ _ _ _, hs, _ => by simp [rpD] at hs
theorem rp_reprAll (hn : h₀.NoDigits) : ∀ {vs : List Value} {ds : List D} {as : List Addr}, ReadsAll h₀ vs ds as → rpAll ds = true → (∀ t ∈ PyData.shownAll ds, t.length ≤ sizeLine) →
    ∃ bs, ReadAtMost h₀ (PyData.depthAll ds) bs ∧ ReprAllK prog w bs h₀ (PyData.depthAll ds) vs (PyData.shownAll ds)
  | _, _, _, .nil, _, _ => ⟨[], (fun _ h => nomatch h), by simp only [PyData.shownAll]; exact .nil⟩
  | _, _, _, .cons (d := d) (ds := ds) r rs, hs, hz => by
    have hs' : rpD d = true ∧ rpAll ds = true := by simpa only [rpAll, Bool.and_eq_true] using hs
    simp only [PyData.shownAll, List.mem_cons, forall_eq_or_imp] at hz
    obtain ⟨b1, c1, k1⟩ := rp_repr hn r hs'.1 hz.1
    obtain ⟨b2, c2, k2⟩ := rp_reprAll hn rs hs'.2 hz.2
    simp only [PyData.depthAll, PyData.shownAll]
    exact ⟨b1 ++ b2, (c1.mono (Nat.le_max_left _ _)).append (c2.mono (Nat.le_max_right _ _)), .cons ((k1.more fun b hb => List.mem_append_left _ hb).level_le (Nat.le_max_left _ _)) (k2.more_le (fun b hb => List.mem_append_right _ hb) (Nat.le_max_right _ _))⟩
end
/-- repr(v), v no text -/
theorem rp_call {A : Around} {E : Value → Shared → Prop} {s : Shared} {v : Value} {d : D} {as : List Addr} {Q : Value → Shared → Prop} (hn : s.heap.NoDigits) (r : Reads s.heap v d as) (hc : reprOk d = true) (hs : rpD d = true) (hz : d.shown.length ≤ sizeLine) (hg : A.guards = some []) (hu : A.units + (d.depth + 1) < cLine)
    (hQ : ∀ h' u tk, (∀ b o, s.heap.get? b = some o → h'.get? b = some o) → Q (.str d.shown u) { s with heap := h', toks := tk }) : wpAny (model prog w) A (call (.builtin "repr") [v]) Q E s := by
  have hk0 : ∀ b o, s.heap.get? b = some o → s.heap.get? b = some o := fun _ _ e => e
  have fin : ∀ h' u tk, (∀ b o, s.heap.get? b = some o → h'.get? b = some o) → ∃ x t, (Value.str d.shown u) = .str x t ∧ Q (.str d.shown u) { s with heap := h', toks := tk } := fun h' u tk hk => ⟨_, _, rfl, hQ h' u tk hk⟩
  cases r with
  | int i t => exact call_repr_slot (by omega) (typeIs_int s i t) F.slot_int_repr.toG (int_text hn (by simpa [rpD] using hs) (fin s.heap _ _ hk0))
  | list h1 h2 h3 h4 =>
    rename_i o vs n xs bs₀
    have hz' : (listText (PyData.shownAll xs)).length ≤ sizeLine := by simpa only [PyData.shown] using hz
    obtain ⟨bs, hb, hk⟩ := rp_reprAll (prog := prog) (w := w) hn h4 (by simpa only [rpD] using hs) fun t ht => Nat.le_trans (listText_mem_le ht) hz'
    have off := not_mem_of_deeper (.list h1 h2 h3 h4) (by simp only [PyData.depth]; omega) hb
    simp only [PyData.depth] at hu
    simp only [PyData.shown] at fin
    refine call_repr_slot (by omega) ⟨o, h1, h2⟩ F.slot_list_repr.toG ?_
    obtain ⟨l⟩ := vs
    cases l with
    | nil =>
      have h4' : ReadsAll s.heap [] xs _ := h4
      cases h4'
      simp only [PyData.shownAll, listText_nil] at fin
      exact call_list_repr_empty ⟨o, h1, h2⟩ h1 h3 (fin s.heap _ _ hk0)
    | cons x l => exact call_list_reprK h1 h2 h3 off (by simpa using hk.length_eq) (fun i y e => hk.item i y (by simpa using e)) hg (fun b _ => Clear.nil b) (by show A.units + 1 + _ < cLine; omega) hk0 fin hz'
  | tuple h1 h2 h3 h4 =>
    rename_i o vs n xs
    have hz' : (tupleText (PyData.shownAll xs)).length ≤ sizeLine := by simpa only [PyData.shown] using hz
    obtain ⟨bs, hb, hk⟩ := rp_reprAll (prog := prog) (w := w) hn h4 (by simpa only [rpD] using hs) fun t ht => Nat.le_trans (tupleText_mem_le ht) hz'
    have off := not_mem_of_deeper (.tuple h1 h2 h3 h4) (by simp only [PyData.depth]; omega) hb
    simp only [PyData.depth] at hu
    simp only [PyData.shown] at fin
    exact call_repr_slot (by omega) ⟨o, h1, h2⟩ F.slot_tuple_repr (call_tuple_reprK h1 h2 h3 off hk hg (fun b _ => Clear.nil b) (by show A.units + 1 + _ < cLine; omega) hk0 fin hz')
  | _ => cases hc
end
def gRepr : GA := fun xs q => match xs with | [d] => (reprOk d = true ∧ rpD d = true ∧ cells d ≤ 4500 ∧ d.depth ≤ 60) ∧ q (.str d.shown) | _ => False
section
variable {X : Cx}
theorem c_repr (hdg : X.base.NoDigits) (hg : X.A.guards = some []) (hu : X.A.units + 64 < cLine) : CallD X (.builtin "repr") gRepr := by
  refine ⟨fun vs H Q => ∃ v d, vs = [v] ∧ Dp X.K H v d ∧ (reprOk d = true ∧ rpD d = true ∧ cells d ≤ 4500 ∧ d.depth ≤ 60) ∧ Q (.str d.shown) H, ?_, ?_⟩
  · rintro pins s σ H vs us Q I r ⟨v, d, rfl, hd, ⟨h0, h1, h2, h3⟩, q⟩
    cases r with
    | cons ru rt =>
      cases rt
      rename_i u
      obtain ⟨as, rd⟩ := Dp.reads I d v u hd ru
      have hl := rp_len d h1
      exact rp_call (hdg.keeps fun b o e => (I.bs b o e).1) rd h0 h1 (by rw [sizeLine_eq]; omega) hg (by omega) fun h' t tk hk => ⟨.str _, H, I.kept hk, ⟨_, rfl⟩, q⟩
  · intro F H vs xs fh b q hq Q k
    cases b with
    | nil => exact hq.elim
    | cons b1 bt =>
      cases bt with
      | nil => exact ⟨_, _, rfl, b1.dp fh, hq.1, k _ _ F H (Gr.refl fh) (.str _) hq.2⟩
      | cons _ _ => exact hq.elim
end
end DL

namespace DL
open PySem PySem.Spec PyProof.Rows L2

/-! ### defs that are called with no repr under way -/
structure FnG (P : Program) (w : World) (K : PySem.W.Frag) (mg : Str → Option Value) (base : Heap) (k : Nat) (f : Addr) (fd : FuncData) (ps : List Str) (sp : Sp) : Prop where
  len : ∀ vs H Q E, sp vs H Q E → vs.length = ps.length
  run : ∀ (A : Around) (outer : List Env) (s : Shared) (H : Hp) (args : Args) (us : List Value) (vs : List V) (Q : VK) (E : XK), A.guards = some [] →
    Room k A → Env0 P w K mg base A outer s H → BindsTo s fd args (ps.zip us) → Vals vs us → sp vs H Q E → codeAny (model P w) A (.call (.ref f) args) (CR CX0 outer P w H s Q E) s
theorem FnG.mono {P : Program} {w : World} {K : PySem.W.Frag} {mg : Str → Option Value} {base : Heap} {j k : Nat} {f : Addr} {fd : FuncData} {ps : List Str} {sp : Sp} (F : FnG P w K mg base j f fd ps sp) (h : j ≤ k) : FnG P w K mg base k f fd ps sp :=
  ⟨F.len, fun A outer s H args us vs Q E hg hr => F.run A outer s H args us vs Q E hg (hr.mono h)⟩
section
variable {P : Program} {w : World} {K : PySem.W.Frag} {mg : Str → Option Value} {base : Heap}
/-- a def of the text, by its body's reading -/
theorem Fun.okG {x qual : Str} {st : Stmt} {f : Addr} {fd : FuncData} {N ps : List Str} {k : Nat} {sp : Sp} (F : Fun K x qual st f fd) (S : FnScope N ps (defScope st)) (len : ∀ vs H Q E, sp vs H Q E → vs.length = ps.length)
    (hbody : ∀ (cdv : Value) (A : Around) (outer : List Env) (s : Shared) (H : Hp) (vs : List V) (Q : VK) (E : XK), (A.deeper (envOfC qual (defScope st) s.heap.objs.size f cdv)).guards = some [] → Room k (A.deeper (envOfC qual (defScope st) s.heap.objs.size f cdv)) → sp vs H Q E →
      ∃ t, PSs (cxOf CX0 P w K mg base N qual (defScope st) f cdv A outer s H E).nox (defBody st) t ∧ t { nx := fun _ H' => Q .non H', rt := Q } (start N vs) H) : FnG P w K mg base (k + 1) f fd ps sp := by
  obtain ⟨oc, od, kV, doc, pm, an, cdv, ct, osl, rfl, lk, hcd⟩ := F.ex
  refine ⟨len, ?_⟩
  intro A outer s H args us vs Q E gA room e0 bind rel hsp
  have inK : K.In s.heap := e0.mod.kin.keeps fun b o e => (e0.bs b o e).1
  have kinds : ∀ y ∈ ps.zip us, (defScope st).names.lookup y.1 = some .local ∨ ((defScope st).names.lookup y.1 = some .cell ∧ ((cellsFrom (s.heap.objs.size + 1) (defScope st).names []).lookup y.1).isSome = true) := by
    rintro ⟨n, v⟩ hy
    cases S.par n (List.of_mem_zip hy).1 with
    | inl q => exact .inl q
    | inr q => exact .inr ⟨q, PySem.W.cellsFrom_some _ _ _ (.inl q)⟩
  refine codeAny_call_function room.depth (inK _ _ lk) rfl S.co S.gen rfl (PySem.W.codeRec_of inK hcd) (bind _ _ _ _ (wpAny_newFunctionEnv_cells S.kind kinds ?_))
  rintro env rfl s1 x
  refine ⟨e0.mod.nolimit.keeps fun b o e => x.toInCall.keep b o ((e0.bs b o e).1), codeAny_func ?_⟩
  obtain ⟨t, ht, hq⟩ := hbody cdv A outer s H vs Q E gA (room.deeper _) hsp
  refine wpAny_mono (ht.nox.run [] s1 (start N vs) H _ (inv_start S room.hd e0 (len _ _ _ _ hsp) rel x) hq) ?_ fun _ _ hs => hs
  intro fl s' hs
  cases fl with
  | brk => exact hs.elim fun _ z => z.elim fun _ z => z.2.elim
  | cont => exact hs.elim fun _ z => z.elim fun _ z => z.2.elim
  | next => exact hs.elim fun _ z => z.elim fun H' z => ⟨.non, H', z.1.os, z.1.bare, z.1.base, z.1.hok, rfl, z.2⟩
  | ret u => exact hs.elim fun v z => z.elim fun _ z => z.elim fun H' z => ⟨v, H', z.1.os, z.1.bare, z.1.base, z.1.hok, z.2.1, z.2.2⟩
end
section
variable {X : Cx} {k : Nat} {f : Addr} {fd : FuncData} {ps : List Str} {sp : Sp} {x : Str} {p pos : Pos} {e : Expr} {es : List Expr} {t : TA}
/-- f(e, ..) -/
theorem pe_callG (F : FnG X.prog X.w X.K X.mg X.base k f fd ps sp) (gA : X.A.guards = some []) (room : Room k X.A) (hg : Gl X x) (hm : X.mg x = some (.ref f)) (hk : PySem.W.keepIn X.K (.ref f) = true) (hb : Binds X.K fd ps [])
    (ha : PA X (e :: es) t) (hdb : (x == ("__debug__" : Str)) = false := by decide) (he : starEach (e :: es) X.env = (false, eval e X.env) :: starEach es X.env := by rfl) (hpl : (backTo pos (starEach es X.env)).any (·.1) = false := by rfl) :
    PE X (.Call (.Name x p) (e :: es) [] pos) (tCall sp [] (fun _ _ _ => False) t) := by
  constructor
  intro pins s σ H Q I h
  refine wpAny_Call_Name_kw (ld_glob I hg hm (PySem.W.callWith_K (h₀ := X.base) I.ok.mod.kin hk (thn (ha.run pos pins s σ H _ I h) ?_) he hpl) hdb)
  rintro us s1 ⟨vs, H1, J, r, q⟩
  refine ⟨J.kIn, ?_⟩
  rw [List.append_nil] at q
  have hl : (us ++ ([] : List Value)).length = ps.length := by rw [List.append_nil, ← r.length]; exact F.len _ _ _ _ q
  have hbb := hb s1 us J.kIn hl
  rw [List.append_nil] at hbb
  refine wpAny_call (codeAny_mono (F.run X.A X.stack s1 H1 ⟨us, []⟩ us vs Q _ gA room J.env0 hbb r q) ?_)
  intro r' s' hq
  match r', hq with
  | .ok (.ret u), hq => exact J.after hq
  | .error e, hq => exact (pass0 pins σ H1 s1 e s' J hq)
end
end DL

namespace DL
open PySem PySem.Spec PyProof.Rows L2

/-! ### list comprehensions -/
/-- the canonical readings -/
def canE (K : Frag) (de : RE) : TE := fun σ H Q => ∃ B F ρ q, EnvOk K B F H ρ σ ∧ de ρ q ∧ ∀ v d F' H', Gr F H F' H' → Dp K F' v d → q d → Q v H'
def canT (K : Frag) (dt : RT) : TT := fun σ H Q => ∃ B F ρ q, EnvOk K B F H ρ σ ∧ dt ρ q ∧ ∀ b F' H', Gr F H F' H' → q b → Q b H'
section
variable {X : Cx} {e : Expr} {de : RE} {dt : RT} {dl : RL}
theorem DE.can (h : DE X e de) : PE X e (canE X.K de) := by
  obtain ⟨te, h1, h2⟩ := h
  refine ⟨fun pins s σ H Q I ⟨B, F, ρ, q, E, hq, k⟩ => ?_⟩
  exact h1.run pins s σ H Q I (h2 B F H ρ σ E q hq Q k)
theorem DT.can (h : DT X e dt) : PT X e (canT X.K dt) := by
  obtain ⟨te, h1, h2⟩ := h
  refine ⟨fun pins s σ H Q I ⟨B, F, ρ, q, E, hq, k⟩ => ?_⟩
  exact h1.run pins s σ H Q I (h2 B F H ρ σ E q hq Q k)
theorem sim_canE {K : Frag} : SimE K (canE K de) de := fun B F H ρ σ E q hq Q k => ⟨B, F, ρ, q, E, hq, k⟩
theorem sim_canT {K : Frag} : SimT K (canT K dt) dt := fun B F H ρ σ E q hq Q k => ⟨B, F, ρ, q, E, hq, k⟩
end
def wipeD (ρ : Rho) : List Nat → Rho
  | [] => ρ
  | v :: vs => (wipeD ρ vs).set v none
theorem wipeD_length (ρ : Rho) : ∀ vs : List Nat, (wipeD ρ vs).length = ρ.length
  | [] => rfl
  | v :: vs => by unfold wipeD; rw [List.length_set, wipeD_length ρ vs]
theorem wipeD_some {ρ : Rho} {i : Nat} {x : DV} : ∀ {vs : List Nat}, (wipeD ρ vs)[i]? = some (some x) → ρ[i]? = some (some x) ∧ i ∉ vs
  | [], h => ⟨h, by simp⟩
  | v :: vs, h => by
    unfold wipeD at h
    by_cases hi : v = i
    · subst hi
      by_cases hv : v < (wipeD ρ vs).length
      · rw [List.getElem?_set_self hv] at h; cases h
      · rw [List.getElem?_eq_none (by simpa using hv)] at h; cases h
    · rw [List.getElem?_set_ne hi] at h
      obtain ⟨h1, h2⟩ := wipeD_some h
      exact ⟨h1, by simp only [List.mem_cons, not_or]; exact ⟨fun e => hi e.symm, h2⟩⟩
theorem EnvOk.wiped {K : Frag} {B F H : Hp} {ρ : Rho} {σ : L2.St} (E : EnvOk K B F H ρ σ) (vs : List Nat) : EnvOk K B F H (wipeD ρ vs) (wipe σ vs) := by
  refine ⟨E.fh, E.bh, by rw [wipeD_length, wipe_length]; exact E.len, fun i dv e => ?_, fun i j p a b n e1 e2 e3 => ?_⟩
  · obtain ⟨h1, h2⟩ := wipeD_some e
    obtain ⟨v, h3, h4⟩ := E.at' i dv h1
    exact ⟨v, by rw [wipe_out h2]; exact h3, h4⟩
  · obtain ⟨h1, h2⟩ := wipeD_some e1
    obtain ⟨g1, g2⟩ := wipeD_some e2
    rw [wipe_out h2] at e3
    rw [wipe_out g2]
    exact E.sep i j p a b n h1 g1 e3
theorem wipe_set {σ : L2.St} {i : Nat} {x : Option V} : ∀ {vs : List Nat}, i ∈ vs → wipe (σ.set i x) vs = wipe σ vs
  | v :: vs, h => by
    have key : ∀ vs : List Nat, wipe (σ.set i x) vs = wipe σ vs ∨ wipe (σ.set i x) vs = (wipe σ vs).set i x := by
      intro vs
      induction vs with
      | nil => exact .inr rfl
      | cons w ws ih =>
        unfold wipe
        rcases ih with ih | ih
        · exact .inl (by rw [ih])
        · rw [ih]
          by_cases hw : i = w
          · subst hw
            exact .inl (by rw [List.set_set])
          · exact .inr (List.set_comm _ _ hw)
    unfold wipe
    by_cases hv : i = v
    · subst hv
      rcases key vs with q | q
      · rw [q]
      · rw [q, List.set_set]
    · have hm : i ∈ vs := by
        rcases List.mem_cons.mp h with q | q
        · exact absurd q hv
        · exact q
      rw [wipe_set hm]
/-- targets of a comprehension: the slots vs alone are stored -/
def SimGw (K : Frag) (vs : List Nat) (g : TG) (dg : RG) : Prop := ∀ (B F H : Hp) (ρ : Rho) (σ : L2.St) (v : V) (d : D), EnvOk K B F H ρ σ → Dp K F v d → ∀ q : Rho → Prop, dg d ρ q → ∀ Q : L2.St → Hp → Prop, (∀ ρ' σ', EnvOk K B F H ρ' σ' → wipe σ' vs = wipe σ vs → q ρ' → Q σ' H) → g v σ H Q
def SimGws (K : Frag) (vs : List Nat) (g : TGs) (dg : RGs) : Prop := ∀ (B F H : Hp) (ρ : Rho) (σ : L2.St) (us : List V) (xs : List D), EnvOk K B F H ρ σ → DpAll K F us xs → ∀ q : Rho → Prop, dg xs ρ q → ∀ Q : L2.St → Hp → Prop, (∀ ρ' σ', EnvOk K B F H ρ' σ' → wipe σ' vs = wipe σ vs → q ρ' → Q σ' H) → g us σ H Q
/-- a comprehension's block -/
abbrev BX (X : Cx) (scope : Scope) (s : Shared) (H : Hp) (C : Addr) (cl : List (Str × Addr)) (fp : List Addr) : Cx := X.blk s H scope (compEnvC scope cl C X.env) fp
def DGw (X : Cx) (scope : Scope) (vs : List Nat) (tg : Expr) (dg : RG) : Prop := ∃ g, (∀ s H C cl fp, PG (BX X scope s H C cl fp) tg g) ∧ SimGw X.K vs g dg
def DGws (X : Cx) (scope : Scope) (vs : List Nat) (tgs : List Expr) (dg : RGs) : Prop := ∃ g, (∀ s H C cl fp, PGs (BX X scope s H C cl fp) tgs g) ∧ SimGws X.K vs g dg
section
variable {X : Cx} {scope : Scope} {vs : List Nat} {pos : Pos}
theorem gw_name {i : Nat} {x : Str} (hN : X.N.Nodup) (hi : X.N[i]? = some x := by rfl) (hx : ∀ s H C cl fp, Loc (BX X scope s H C cl fp).env.scope x := by intros; first | exact Or.inl rfl | exact Or.inr rfl)
    (hf : ∀ s H C cl fp, (BX X scope s H C cl fp).fn x = true ∨ (BX X scope s H C cl fp).env.scope.names.lookup x = some .local := by intros; first | exact .inl rfl | exact .inr rfl) (hv : i ∈ vs := by decide) : DGw X scope vs (.Name x pos) (rName i) :=
  ⟨_, fun s H C cl fp => pg_name (X := BX X scope s H C cl fp) hN hi (hx s H C cl fp) (hf s H C cl fp), fun B F H ρ σ v d E r q h Q k => k _ _ (E.set i r) (wipe_set hv) h⟩
theorem gw_nil : DGws X scope vs [] rNil := ⟨_, fun s H C cl fp => pgs_nil, fun B F H ρ σ us xs E r q h Q k => by
  obtain ⟨rfl, h⟩ := h
  cases r
  exact ⟨rfl, k _ _ E rfl h⟩⟩
theorem gw_cons {e : Expr} {es : List Expr} {dg : RG} {dgs : RGs} (h1 : DGw X scope vs e dg) (h2 : DGws X scope vs es dgs)
    (hs : ∀ s H C cl fp, (assignEach (e :: es) (BX X scope s H C cl fp).env).map (·.2) = assign e (BX X scope s H C cl fp).env :: (assignEach es (BX X scope s H C cl fp).env).map (·.2) := by intros; rfl) : DGws X scope vs (e :: es) (rCons dg dgs) := by
  obtain ⟨g, a1, a2⟩ := h1
  obtain ⟨u, b1, b2⟩ := h2
  refine ⟨_, fun s H C cl fp => pgs_cons (a1 s H C cl fp) (b1 s H C cl fp) (hs s H C cl fp), fun B F H ρ σ us xs E r q h Q k => ?_⟩
  cases xs with
  | nil => exact h.elim
  | cons d r' =>
    cases r with
    | cons r1 r2 => exact ⟨_, _, rfl, a2 B F H ρ σ _ d E r1 _ h _ fun ρ' σ' E' w z => b2 B F H ρ' σ' _ _ E' r2 q z Q fun ρ2 σ2 E2 w2 z2 => k ρ2 σ2 E2 (w2.trans w) z2⟩
theorem gw_tup {es : List Expr} {k : Nat} {dg : RGs} {n : Nat} (h : DGws X scope vs es dg) (hc : X.calm = true := by rfl)
    (hn : ∀ s H C cl fp, (assignEach es (BX X scope s H C cl fp).env).length = n := by intros; rfl) (hst : ∀ s H C cl fp, (assignEach es (BX X scope s H C cl fp).env).findIdx? (·.1) = none := by intros; rfl) : DGw X scope vs (.Tuple es k pos) (rTup n dg) := by
  obtain ⟨g, a1, a2⟩ := h
  refine ⟨gTup X.K n g, fun s H C cl fp => pg_tup (X := BX X scope s H C cl fp) hc (a1 s H C cl fp) (hn s H C cl fp) (hst s H C cl fp), fun B F H ρ σ v d E r q h Q k => ?_⟩
  cases d with
  | tuple xs =>
    cases r with
    | tup hs ha => exact ⟨_, _, rfl, E.fh.seqT hs, by rw [ha.length]; exact h.1, a2 B F H ρ σ _ xs E ha q h.2 Q k⟩
  | _ => exact h.elim
/-- a clause's tests -/
def DPTs (X : Cx) (scope : Scope) (ifs : List Expr) (dt : RT) : Prop := ∃ tt, (∀ s H C cl fp, PTs (BX X scope s H C cl fp) ifs tt) ∧ SimT X.K tt dt
def tYesD : RT := fun _ q => q true
theorem dts_nil : DPTs X scope [] tYesD := ⟨_, fun _ _ _ _ _ => pts_nil, fun B F H ρ σ E q hq Q k => k true F H (Gr.refl E.fh) hq⟩
theorem dts_one {c : Expr} {dt : RT} (h : ∀ s H C cl fp, DT (BX X scope s H C cl fp) c dt) : DPTs X scope [c] dt := ⟨_, fun s H C cl fp => pts_one (h s H C cl fp).can, sim_canT⟩

def lcD (g : RG) (tt : RT) (de : RE) (vs : List Nat) : List D → Rho → (List D → Prop) → Prop
  | [], _, q => q []
  | d :: r, ρ, q => g d (wipeD ρ vs) fun ρ1 => tt ρ1 fun b => (b = true → de ρ1 fun x => lcD g tt de vs r ρ fun xs => q (x :: xs)) ∧ (b = false → lcD g tt de vs r ρ q)
def lComp (di : RL) (g : RG) (tt : RT) (de : RE) (vs : List Nat) : RL := fun ρ q => di ρ fun items => Fit items.length ∧ lcD g tt de vs items ρ q
theorem EnvOk.other {K : Frag} {B F H : Hp} {ρ : Rho} {σ : L2.St} (E : EnvOk K B F H ρ σ) {p : Addr} {o : HO} (hb : B p = none) (hf : F p = none) (hs : ∀ (j : Nat) a, ρ[j]? = some (some (.own a)) → σ[j]? ≠ some (some (.ref p))) : EnvOk K B F (upd H p o) ρ σ := by
  refine ⟨fun b u e => ?_, fun b u e => ?_, E.len, fun i dv e => ?_, E.sep⟩
  · rw [upd_ne (ne_of_none e hf)]
    exact E.fh b u e
  · rw [upd_ne (ne_of_none e hb)]
    exact E.bh b u e
  · obtain ⟨v, h1, h2⟩ := E.at' i dv e
    refine ⟨v, h1, ?_⟩
    cases dv with
    | val d => exact h2
    | own ds =>
      obtain ⟨q, us, rfl, q0, q1, q2, q3⟩ := h2
      have : q ≠ p := fun z => by
        subst z
        exact hs i ds e h1
      exact ⟨q, us, rfl, q0, q1, by rw [upd_ne this]; exact q2, q3⟩
theorem sim_lc {K : Frag} {wi : TI} {di : RL} {g : TG} {dg : RG} {tt : TT} {dt : RT} {te : TE} {de : RE} (hi : SimIc K wi di) (hg : SimGw K vs g dg) (ht : SimT K tt dt) (he : SimE K te de) :
    SimL K (tLc wi g tt te vs) (lComp di dg dt de vs) := fun B F H ρ σ E q hq Q k => hi B F H ρ σ E _ hq _ fun J items F1 H1 g1 it z D hD => by
  obtain ⟨⟨hsz⟩, z⟩ := z
  have E1 := E.grow g1
  have fD : F1 D = none := g1.fh.free hD
  have bD : B D = none := E1.bh.free hD
  have nD : ∀ (j : Nat) a, ρ[j]? = some (some (.own a)) → σ[j]? ≠ some (some (.ref D)) := fun j a e w => by
    obtain ⟨v, h1, p, us, rfl, _, _, f2, _⟩ := E1.at' j _ e
    rw [h1] at w
    cases w
    rw [hD] at f2
    cases f2
  refine ⟨fun i m H2 => m = items.length - i ∧ i ≤ items.length ∧ ∃ F2 acc ads, Gr F1 H1 F2 H2 ∧ EnvOk K B F2 H2 ρ σ ∧ F2 D = none ∧ H2 D = some (.lst acc) ∧ acc.length ≤ i ∧ DpAll K F2 acc ads ∧ lcD dg dt de vs (items.drop i) ρ fun xs => q (ads ++ xs),
    ⟨items.length, by simp, Nat.zero_le _, F1, [], [], Gr.newO g1.fh hD, E1.grow (Gr.newO g1.fh hD), fD, upd_same, Nat.le_refl _, .nil, by simpa using z⟩, ?_⟩
  rintro i m H2 ⟨rfl, hi', F2, acc, ads, gr, E2, f2, h2, hl, ha, hz⟩
  obtain ⟨go, stop⟩ := it F2 H2 gr.ff gr.hh gr.fh i
  by_cases hlt : i < items.length
  · obtain ⟨go, yl⟩ := go hlt
    refine .inr ⟨go, fun H' => ∃ F2 acc ads, Gr F1 H1 F2 H' ∧ EnvOk K B F2 H' ρ σ ∧ F2 D = none ∧ H' D = some (.lst acc) ∧ acc.length ≤ i + 1 ∧ DpAll K F2 acc ads ∧ lcD dg dt de vs (items.drop (i + 1)) ρ fun xs => q (ads ++ xs),
      fun H' h => ⟨_, by omega, rfl, hlt, h⟩, fun x H3 y => ?_⟩
    obtain ⟨F3, gr3, d, hd, r⟩ := yl x H3 y
    have ed : items.drop i = d :: items.drop (i + 1) := by
      have e2 : items[i] = d := Option.some.inj ((List.getElem?_eq_getElem hlt).symm.trans hd)
      rw [← e2]
      exact List.drop_eq_getElem_cons hlt
    rw [ed] at hz
    have E3 := E2.grow gr3
    refine hg B F3 H3 (wipeD ρ vs) (wipe σ vs) x d (E3.wiped vs) r _ hz _ fun ρ4 σ4 E4 w4 z4 => ⟨?_, ?_⟩
    · rw [w4]
      have idem : ∀ (σ : L2.St) (us : List Nat), (∀ v ∈ vs, v ∈ us) → wipe (wipe σ vs) us = wipe σ us := fun σ us hs => by
        have : ∀ ws : List Nat, (∀ v ∈ ws, v ∈ us) → wipe (wipe σ ws) us = wipe σ us := by
          intro ws
          induction ws with
          | nil => intro _; rfl
          | cons w ws ih =>
            intro h
            show wipe ((wipe σ ws).set w none) us = _
            rw [wipe_set (h w List.mem_cons_self)]
            exact ih fun v hv => h v (List.mem_cons_of_mem _ hv)
        exact this vs hs
      exact idem σ vs fun v hv => hv
    · refine ht B F3 H3 ρ4 σ4 E4 _ z4 _ fun b F5 H5 gr5 z5 => ?_
      have gA := gr3.trans gr5
      have D5 : H5 D = some (.lst acc) := gA.hh D _ h2
      have f5 : F5 D = none := gA.own D f2 (by rw [h2]; trivial)
      cases b with
      | true =>
        refine he B F5 H5 ρ4 σ4 (E4.grow gr5) _ (z5.1 rfl) _ fun y dy F6 H6 gr6 r6 z6 => ?_
        have gB := gA.trans gr6
        have D6 : H6 D = some (.lst acc) := gr6.hh D _ D5
        have f6 : F6 D = none := gr6.own D f5 (by rw [D5]; trivial)
        refine ⟨acc, D6, by omega, F6, acc ++ [y], ads ++ [dy], ?_, (E2.grow gB).other bD f6 nD, f6, upd_same, by rw [List.length_append]; simp; omega, (ha.mono gB.ff).append (.cons r6 .nil), ?_⟩
        · have gC := gr.trans gB
          refine ⟨gC.ff, fun b u e => ?_, fun b u e => ?_, gC.own⟩
          · rw [upd_ne (ne_of_none e hD)]
            exact gC.hh b u e
          · rw [upd_ne (ne_of_none e f6)]
            exact gC.fh b u e
        · have e3 : (fun xs => q (ads ++ [dy] ++ xs)) = fun xs => q (ads ++ (dy :: xs)) := by
            funext xs
            rw [List.append_assoc]
            rfl
          rw [e3]
          exact z6
      | false =>
        exact ⟨F5, acc, ads, gr.trans gA, E2.grow gA, f5, D5, by omega, ha.mono gA.ff, z5.2 rfl⟩
  · have e : i = items.length := by omega
    refine .inl ⟨stop (by omega), ?_⟩
    rw [e, List.drop_length] at hz
    have hz : q (ads ++ []) := hz
    rw [List.append_nil] at hz
    exact k D acc ads F2 H2 (g1.trans gr) (g1.hh.free hD) f2 h2 ha hz
variable {elt tg iter : Expr} {ifs : List Expr} {own : List (Str × Nat)} {di : RL} {dg : RG} {dt : RT} {de : RE}
/-- [elt for tg in iter if ..] -/
theorem dl_lc (hN : X.N.Nodup) (hi : DIc X tg iter di) (hg : DGw X scope (own.map (·.2)) tg dg) (ht : DPTs X scope ifs dt) (he : ∀ s H C cl fp, DE (BX X scope s H C cl fp) elt de)
    (ok : BlkOk X.N X.env.scope scope own := by exact blkOk_by (by decide +kernel)) (hc : X.calm = true := by rfl) (hs : ∀ x, foldedSetIterable iter X.env x = pure x := by intro _; rfl) :
    DLs X (.ListComp elt [⟨tg, iter, ifs, 0⟩] scope pos) (lComp di dg dt de (own.map (·.2))) := by
  obtain ⟨wi, i1, i2⟩ := hi
  obtain ⟨g, g1, g2⟩ := hg
  obtain ⟨tt, t1, t2⟩ := ht
  exact ⟨_, pe_lc (te := canE X.K de) hc hN i1 ok g1 t1 (fun s H C cl fp => (he s H C cl fp).can) hs, sim_lc i2 g2 t2 sim_canE⟩
/-- y = [..], of one's own -/
theorem st_lcL {i : Nat} {y : Str} {py spos : Pos} (hN : X.N.Nodup) (hi : DIc X tg iter di) (hg : DGw X scope (own.map (·.2)) tg dg) (ht : DPTs X scope ifs dt) (he : ∀ s H C cl fp, DE (BX X scope s H C cl fp) elt de)
    (hsw : swapsWith (.ListComp elt [⟨tg, iter, ifs, 0⟩] scope pos) (some (.Name y py)) spos.line X.env = pure true)
    (ok : BlkOk X.N X.env.scope scope own := by exact blkOk_by (by decide +kernel)) (hy : X.N[i]? = some y := by rfl) (hyl : X.env.scope.names.lookup y = some .local := by rfl) (hc : X.calm = true := by rfl) (hs : ∀ x, foldedSetIterable iter X.env x = pure x := by intro _; rfl) :
    DS X (.Assign [.Name y py] (.ListComp elt [⟨tg, iter, ifs, 0⟩] scope pos) spos) (sSetL i (lComp di dg dt de (own.map (·.2)))) := by
  obtain ⟨wi, i1, i2⟩ := hi
  obtain ⟨g, g1, g2⟩ := hg
  obtain ⟨tt, t1, t2⟩ := ht
  refine ⟨_, ps_setLc (te := canE X.K de) hc hN hy hyl hsw i1 ok g1 t1 (fun s H C cl fp => (he s H C cl fp).can) hs, fun F0 B F H ρ σ s E DD h D k => ?_⟩
  exact sim_lc i2 g2 t2 sim_canE B F H ρ σ E _ h _ fun p us ds F' H' g hp hf hh ha z => k.nx F' H' _ _ (s.to g) (own_new E g i hp hf hh ha) z
/-- y = [..], as data -/
theorem st_lc {i : Nat} {y : Str} {py spos : Pos} (hN : X.N.Nodup) (hi : DIc X tg iter di) (hg : DGw X scope (own.map (·.2)) tg dg) (ht : DPTs X scope ifs dt) (he : ∀ s H C cl fp, DE (BX X scope s H C cl fp) elt de)
    (hsw : swapsWith (.ListComp elt [⟨tg, iter, ifs, 0⟩] scope pos) (some (.Name y py)) spos.line X.env = pure true)
    (ok : BlkOk X.N X.env.scope scope own := by exact blkOk_by (by decide +kernel)) (hy : X.N[i]? = some y := by rfl) (hyl : X.env.scope.names.lookup y = some .local := by rfl) (hc : X.calm = true := by rfl) (hs : ∀ x, foldedSetIterable iter X.env x = pure x := by intro _; rfl) :
    DS X (.Assign [.Name y py] (.ListComp elt [⟨tg, iter, ifs, 0⟩] scope pos) spos) (sSet i (dLst (lComp di dg dt de (own.map (·.2))))) := by
  obtain ⟨t, a1, a2⟩ := st_lcL (i := i) (y := y) (py := py) (spos := spos) hN hi hg ht he hsw ok hy hyl hc hs
  obtain ⟨wi, i1, i2⟩ := hi
  obtain ⟨g, g1, g2⟩ := hg
  obtain ⟨tt, t1, t2⟩ := ht
  refine ⟨_, ps_setLc (te := canE X.K de) hc hN hy hyl hsw i1 ok g1 t1 (fun s H C cl fp => (he s H C cl fp).can) hs, fun F0 B F H ρ σ s E DD h D k => ?_⟩
  refine sim_lc i2 g2 t2 sim_canE B F H ρ σ E _ h _ fun p us ds F' H' g hp hf hh ha z => ?_
  have gf := gr_frz g hp hf hh
  exact k.nx _ H' _ _ (s.to gf) ((E.grow gf).set i (.lst (.inl (.inl upd_same)) (ha.mono (same_new hf)))) z
end

/-! ### defs -/
/-- a def's promise over data: f tells, for the arguments, what is wanted -/
abbrev FD := List D → (DV → Prop) → Prop
def SpD (K : Frag) (n : Nat) (f : FD) : Sp := fun vs H Q _ => ∃ F ds q, Same F H ∧ vs.length = n ∧ DpAll K F vs ds ∧ f ds q ∧ ∀ r, q r → ∀ v F' H', Gr F H F' H' → ResF K H F' H' v r → Q v H'
def startD (n : Nat) (ds : List D) : Rho := ds.map (fun d => some (.val d)) ++ List.replicate (n - ds.length) none
/-- a body's reading as a def's promise -/
def bodyD (n : Nat) (body : RS) : FD := fun ds q => body { nx := fun _ => q (.val .none), rt := q } (startD n ds)
theorem env_start {K : Frag} {F H : Hp} {N : List Str} {vs : List V} {ds : List D} (fh : Same F H) (h : DpAll K F vs ds) : EnvOk K H F H (startD N.length ds) (L2.start N vs) := by
  have hl := h.length
  have gt : ∀ (i : Nat) dv, (startD N.length ds)[i]? = some (some dv) → ∃ d, ds[i]? = some d ∧ dv = .val d := fun i dv e => by
    unfold startD at e
    by_cases hi : i < ds.length
    · rw [List.getElem?_append_left (by simpa using hi), List.getElem?_map, List.getElem?_eq_getElem hi] at e
      exact ⟨_, List.getElem?_eq_getElem hi, by simpa using e.symm⟩
    · rw [List.getElem?_append_right (by simpa using hi), List.getElem?_replicate] at e
      split at e <;> cases e
  refine ⟨fh, Same.refl H, ?_, fun i dv e => ?_, fun i j p a b _ e _ _ => ?_⟩
  · unfold startD L2.start
    rw [List.length_append, List.length_append, List.length_map, List.length_map, List.length_replicate, List.length_replicate, hl]
  · obtain ⟨d, h1, rfl⟩ := gt i dv e
    obtain ⟨v, hv, r⟩ := h.get h1
    refine ⟨v, ?_, r⟩
    unfold L2.start
    have hi : i < vs.length := (List.getElem?_eq_some_iff.mp hv).1
    rw [List.getElem?_append_left (by simpa using hi), List.getElem?_map, hv]
    rfl
  · obtain ⟨d, _, z⟩ := gt i _ e
    cases z
section
variable {P : Program} {w : World} {K : Frag} {mg : Str → Option Value} {base : Heap}
/-- THE RULE: a def by its body's reading -/
theorem fnD {x qual : Str} {st : Stmt} {f : Addr} {fd : FuncData} {N ps : List Str} {k : Nat} {g : FD} (F : Fun K x qual st f fd) (S : FnScope N ps (defScope st))
    (hbody : ∀ (cdv : Value) (A : Around) (outer : List Env) (s : Shared) (H : Hp) (E : XK), (A.deeper (envOfC qual (defScope st) s.heap.objs.size f cdv)).guards = some [] → Room k (A.deeper (envOfC qual (defScope st) s.heap.objs.size f cdv)) →
      ∃ body, DSs (cxOf CX0 P w K mg base N qual (defScope st) f cdv A outer s H E).nox (defBody st) body ∧ ∀ ds q, ds.length = ps.length → g ds q → bodyD N.length body ds q) : FnG P w K mg base (k + 1) f fd ps (SpD K ps.length g) := by
  refine Fun.okG F S (fun vs H Q E h => ?_) (fun cdv A outer s H vs Q E gA hr h => ?_)
  · obtain ⟨F, ds, q, _, hl, _⟩ := h
    exact hl
  · obtain ⟨F0, ds, q0, fh, hl, hd, hg, hq⟩ := h
    obtain ⟨body, ⟨t, h1, h2⟩, h3⟩ := hbody cdv A outer s H E gA hr
    refine ⟨t, h1, ?_⟩
    have ln : ds.length = ps.length := by rw [← hd.length]; exact hl
    exact h2 F0 H F0 H (startD N.length ds) (L2.start N vs) (Gr.refl fh) (env_start fh hd) _ (h3 ds _ ln hg) _ ⟨fun F' H' ρ σ s E q => hq _ q .non F' H' s .non, fun v r F' H' s rr z => hq r z v F' H' s rr, fun _ _ _ _ _ _ z => z.elim, fun _ _ _ _ _ _ z => z.elim⟩
end
section
variable {X : Cx} {k : Nat} {f : Addr} {fd : FuncData} {ps : List Str} {x : Str} {p pos : Pos} {e : Expr} {es : List Expr} {da : RL} {g : FD}
def valD : DV → D
  | .val d => d
  | .own ds => .list ds
/-- f(..): data -/
def dFn (g : FD) (da : RL) : RE := fun ρ q => da ρ fun xs => g xs fun r => q (valD r)
/-- f(..): a new list -/
def lFn (g : FD) (da : RL) : RL := fun ρ q => da ρ fun xs => g xs fun r => match r with | .own ds => q ds | _ => False
theorem sim_fn {K : Frag} {ta : TA} {n : Nat} (ha : SimA K n ta da) : SimE K (tCall (SpD K n g) [] (fun _ _ _ => False) ta) (dFn g da) := fun B F H ρ σ Ev q hq Q k =>
  ha B F H ρ σ Ev _ hq _ fun vs ds F1 H1 g1 r ln z => by
    refine ⟨F1, ds, _, g1.fh, by rw [List.append_nil, r.length, ln], by rw [List.append_nil]; exact r, z, fun r' qr v F2 H2 g2 rr => ?_⟩
    cases r' with
    | val d => exact k v d F2 H2 (g1.trans g2) rr qr
    | own ds' =>
      obtain ⟨p, us, rfl, hb, hf, hh, ha'⟩ := rr
      have gf := gr_frz g2 hb hf hh
      exact k (.ref p) (.list ds') _ H2 (g1.trans gf) (.lst (.inl (.inl upd_same)) (ha'.mono (same_new hf))) qr
theorem sim_fnL {K : Frag} {ta : TA} {n : Nat} (ha : SimA K n ta da) : SimL K (tCall (SpD K n g) [] (fun _ _ _ => False) ta) (lFn g da) := fun B F H ρ σ Ev q hq Q k =>
  ha B F H ρ σ Ev _ hq _ fun vs ds F1 H1 g1 r ln z => by
    refine ⟨F1, ds, _, g1.fh, by rw [List.append_nil, r.length, ln], by rw [List.append_nil]; exact r, z, fun r' qr v F2 H2 g2 rr => ?_⟩
    cases r' with
    | val d => exact qr.elim
    | own ds' =>
      obtain ⟨p, us, rfl, hb, hf, hh, ha'⟩ := rr
      exact k p us ds' F2 H2 (g1.trans g2) (g1.hh.free hb) hf hh ha' qr
/-- f(e, ..), f a def -/
theorem de_fn (G : FnG X.prog X.w X.K X.mg X.base k f fd ps (SpD X.K (e :: es).length g)) (gA : X.A.guards = some []) (hr : Room k X.A) (hm : X.mg x = some (.ref f)) (hk : PySem.W.keepIn X.K (.ref f) = true) (hb : Binds X.K fd ps []) (ha : DA X (e :: es) da) (hg : Gl X x := by rfl)
    (hdb : (x == ("__debug__" : Str)) = false := by decide) (he : starEach (e :: es) X.env = (false, eval e X.env) :: starEach es X.env := by rfl) (hpl : (backTo pos (starEach es X.env)).any (·.1) = false := by rfl) : DE X (.Call (.Name x p) (e :: es) [] pos) (dFn g da) := by
  obtain ⟨ta, a1, a2⟩ := ha
  exact ⟨_, pe_callG G gA hr hg hm hk hb a1 hdb he hpl, sim_fn a2⟩
theorem dl_fn (G : FnG X.prog X.w X.K X.mg X.base k f fd ps (SpD X.K (e :: es).length g)) (gA : X.A.guards = some []) (hr : Room k X.A) (hm : X.mg x = some (.ref f)) (hk : PySem.W.keepIn X.K (.ref f) = true) (hb : Binds X.K fd ps []) (ha : DA X (e :: es) da) (hg : Gl X x := by rfl)
    (hdb : (x == ("__debug__" : Str)) = false := by decide) (he : starEach (e :: es) X.env = (false, eval e X.env) :: starEach es X.env := by rfl) (hpl : (backTo pos (starEach es X.env)).any (·.1) = false := by rfl) : DLs X (.Call (.Name x p) (e :: es) [] pos) (lFn g da) := by
  obtain ⟨ta, a1, a2⟩ := ha
  exact ⟨_, pe_callG G gA hr hg hm hk hb a1 hdb he hpl, sim_fnL a2⟩
end
/-- a def that stands ready to be called: by its name x, its level k, its promise g -/
structure Ready (P : Program) (w : World) (K : Frag) (mg : Str → Option Value) (base : Heap) (x : Str) (n k : Nat) (g : FD) : Prop where
  ex : ∃ f fd ps, FnG P w K mg base k f fd ps (SpD K n g) ∧ mg x = some (.ref f) ∧ PySem.W.keepIn K (.ref f) = true ∧ Binds K fd ps []
section
variable {X : Cx} {k : Nat} {x : Str} {p pos : Pos} {e : Expr} {es : List Expr} {da : RL} {g : FD}
theorem Ready.toE (G : Ready X.prog X.w X.K X.mg X.base x (e :: es).length k g) (gA : X.A.guards = some []) (hr : Room k X.A) (ha : DA X (e :: es) da) (hg : Gl X x := by rfl)
    (hdb : (x == ("__debug__" : Str)) = false := by decide) (he : starEach (e :: es) X.env = (false, eval e X.env) :: starEach es X.env := by rfl) (hpl : (backTo pos (starEach es X.env)).any (·.1) = false := by rfl) : DE X (.Call (.Name x p) (e :: es) [] pos) (dFn g da) := by
  obtain ⟨f, fd, ps, G1, hm, hk, hb⟩ := G.ex
  exact de_fn G1 gA hr hm hk hb ha hg hdb he hpl
theorem Ready.toL (G : Ready X.prog X.w X.K X.mg X.base x (e :: es).length k g) (gA : X.A.guards = some []) (hr : Room k X.A) (ha : DA X (e :: es) da) (hg : Gl X x := by rfl)
    (hdb : (x == ("__debug__" : Str)) = false := by decide) (he : starEach (e :: es) X.env = (false, eval e X.env) :: starEach es X.env := by rfl) (hpl : (backTo pos (starEach es X.env)).any (·.1) = false := by rfl) : DLs X (.Call (.Name x p) (e :: es) [] pos) (lFn g da) := by
  obtain ⟨f, fd, ps, G1, hm, hk, hb⟩ := G.ex
  exact dl_fn G1 gA hr hm hk hb ha hg hdb he hpl
end
theorem Ready.mono {P : Program} {w : World} {K : Frag} {mg : Str → Option Value} {base : Heap} {x : Str} {n k j : Nat} {g : FD} (G : Ready P w K mg base x n k g) (h : k ≤ j) : Ready P w K mg base x n j g := by
  obtain ⟨f, fd, ps, G1, hm, hk, hb⟩ := G.ex
  exact ⟨f, fd, ps, G1.mono h, hm, hk, hb⟩
end DL

namespace DL
open PySem PySem.Spec PyProof.Rows L2

/-! ### the law's end -/
theorem dp_ints {K : Frag} {H : Hp} : ∀ ns : List Int, DpAll K H (ns.map V.int) (ns.map PyData.int)
  | [] => .nil
  | n :: ns => .cons (.int n) (dp_ints ns)
/-- the heap in which nothing but the script may be tracked -/
theorem script_heap {K : Frag} {s : Shared} {P : Program} {w : World} {a : Addr} {vs : List Value} {ns : List Int} (KX : K.In s.heap)
    (ha : s.heap.get? a = some { cls := .type "list", data := .seq vs.toArray }) (rv : Vals (ns.map V.int) vs) (hl : ns.length ≤ sizeLine) :
    ∃ H : Hp, Only H ∧ SqL K H a (ns.map V.int) ∧ HOk P w H s.heap ∧ (∀ b, H b ≠ none → b = a ∧ K.lookup a = none) := by
  have lv : vs.length = ns.length := by rw [← rv.length, List.length_map]
  by_cases hk : ∃ o, K.lookup a = some o
  · obtain ⟨o, hk⟩ := hk
    obtain rfl := Option.some.inj (ha.symm.trans (KX a o hk))
    have no : ∀ b, (fun _ => none : Hp) b = none := fun _ => rfl
    refine ⟨fun _ => none, fun b => .inl rfl, .inr ⟨_, vs.toArray, _, hk, rfl, rfl, rfl, ?_, by simpa using rv⟩, fun b u z => (show False from (nomatch (show (none : Option HO) = some u from z))).elim, fun b z => (z rfl).elim⟩
    simpa [lv] using hl
  · have hk : K.lookup a = none := by
      cases q : K.lookup a with
      | none => rfl
      | some o => exact (hk ⟨o, q⟩).elim
    let ob : Obj := { cls := .type "list", data := .seq vs.toArray }
    let H : Hp := upd (fun _ => none) a (.frz ob (.lst (ns.map V.int)))
    have at_a : H a = some (.frz ob (.lst (ns.map V.int))) := upd_same
    have off : ∀ b, b ≠ a → H b = none := fun b h => upd_ne h
    have here : ∀ {b : Addr}, H b ≠ none → b = a := fun {b} z => Classical.byContradiction fun n => z (off b n)
    refine ⟨H, fun b => ?_, .inl (.inr ⟨ob, at_a⟩), fun b u z => ?_, fun b z => ⟨here z, hk⟩⟩
    · by_cases e : b = a
      · exact .inr ⟨ob, _, by rw [e]; exact at_a⟩
      · exact .inl (off b e)
    · obtain rfl := here (b := b) (by rw [z]; simp)
      obtain rfl := Option.some.inj (at_a.symm.trans z)
      exact ⟨ha, by rw [List.length_map]; exact hl, vs, _, rv, ha⟩
theorem law_callG {P : Program} {w : World} {K : Frag} {mg mb : Str → Option Value} {k : Nat} {fa a : Addr} {fd : FuncData} {x : Str} {g : FD} {s : Shared} {vs : List Value} {ns : List Int}
    (KX : K.In s.heap) (nm : s.heap.Ns mainGlobals mg) (nb : s.heap.Ns builtinsNs mb) (bb : ∀ x : Str, x ≠ "__name__" → mb x = bootBuiltins x) (lim : s.heap.NoLimit) (dig : s.heap.NoDigits) (ng : s.gens = #[])
    (ha : s.heap.get? a = some { cls := .type "list", data := .seq vs.toArray }) (hi : IntsAre vs ns) (hl : ns.length ≤ sizeLine) (room : Room k callerA)
    (F : ∀ base : Heap, K.In base → base.Ns mainGlobals mg → base.NoDigits → FnG P w K mg base k fa fd [x] (SpD K 1 g)) (hb : ∀ (s : Shared) (u : Value), BindsTo s fd ⟨[u], []⟩ [(x, u)]) (hg : g [.list (ns.map .int)] fun r => r = .val (.bool true)) :
    codeAny (model P w) callerA (.call (.ref fa) ⟨[.ref a], []⟩) (fun r s' => r = .ok (.ret (.bool true)) ∧ OldK s.heap s'.heap ∧ s'.os = s.os ∧ AllBare s'.gens) s := by
  obtain ⟨H, only, seq, hok, one⟩ := script_heap (P := P) (w := w) KX ha (vals_ints hi) hl
  have tracked : ∀ {b : Addr} {o : Obj}, s.heap.get? b = some o → (H b ≠ none → False) → (hidT s.heap H).get? b = some o := fun {b o} e n => hidT_get e (Classical.byContradiction n)
  have ns' : ∀ {b : Addr} {m : Str → Option Value}, s.heap.Ns b m → (hidT s.heap H).Ns b m := by
    rintro b m ⟨o, es, ep, e, d, r⟩
    refine ⟨o, es, ep, tracked e fun z => ?_, d, r⟩
    obtain ⟨rfl, _⟩ := one b z
    obtain rfl := Option.some.inj (ha.symm.trans e)
    exact nomatch d
  have inK : K.In (hidT s.heap H) := fun b o e => tracked (KX b o e) fun z => by
    obtain ⟨rfl, q⟩ := one b z
    rw [q] at e
    cases e
  obtain ⟨mc, l1, l2⟩ := lim
  obtain ⟨md, d1, d2⟩ := dig
  have e0 : Env0 P w K mg (hidT s.heap H) callerA [] s H :=
    ⟨rfl, ⟨inK, ns' nm, ⟨mb, ns' nb, bb⟩, ⟨mc, ns' l1, l2⟩⟩, fun b o e => of_hidT e, Nat.le_of_eq (hidT_size _ _), trivial, fun b z => absurd (show b ∈ ([] : List Addr) from z) (by simp), hok, .of_eq ng⟩
  have call : SpD K 1 g [.ref a] H (fun v _ => v = .bl true) fun _ _ _ => False := by
    refine ⟨H, [.list (ns.map .int)], _, Same.refl H, rfl, .cons (.lst seq (dp_ints ns)) .nil, hg, ?_⟩
    rintro r rfl v F' H' _ z
    cases z
    rfl
  refine codeAny_mono ((F _ inK (ns' nm) ⟨md, ns' d1, d2⟩).run callerA [] s H ⟨[.ref a], []⟩ [.ref a] [.ref a] _ _ rfl room e0 (hb s (.ref a)) (.cons rfl .nil) call) ?_
  intro r s' h
  match r, h with
  | .error e, h => exact h.elim
  | .ok (.ret u), h =>
    obtain ⟨v, H', os, bare, un, hok', ru, qv⟩ := h
    obtain rfl : v = V.bl true := qv
    obtain rfl : u = Value.bool true := ru
    refine ⟨rfl, .of_keep fun b o e => ?_, os, bare⟩
    rcases only b with z | ⟨ob, xs, z⟩
    · exact un.keep b o e z (fun q => nomatch (show b ∈ ([] : List Addr) from q)) (by simp)
    · have old := (hok b _ z).1
      obtain rfl := Option.some.inj (old.symm.trans e)
      exact (hok' b _ (un.frzs b ob _ z)).1
theorem walk_G {l : PySem.W.OpenLaw} {n k : Nat} {q : Program} {loose : List Str} {XP : (Str → Option Value) → Heap → Prop} {YP : World → Heap → Prop} {d : DefRec} {K : Params → Frag} {g : FD} {x : Str}
    (hn : l.most = some n) (hn2 : n ≤ sizeLine) (hdf : d.params.defaults = []) (room : Room k callerA) (hY : ∀ (w : World) (h : Heap), YP w h → (K w.params).In h)
    (F : ∀ (w : World) (mg : Str → Option Value) (fa : Addr) (h : Heap), (K w.params).In h → h.Ns mainGlobals mg → mg d.name = some (.ref fa) →
      ∃ fd : FuncData, (∀ (s : Shared) (u : Value), BindsTo s fd ⟨[u], []⟩ [(x, u)]) ∧ ∀ base : Heap, (K w.params).In base → base.Ns mainGlobals mg → base.NoDigits → FnG l.prog w (K w.params) mg base k fa fd [x] (SpD (K w.params) 1 g))
    (hg : ∀ ns : List Int, ns.length ≤ n → (∀ i ∈ ns, Builtin.Int.intBits i ≤ 1048576) → g [.list (ns.map .int)] fun r => r = .val (.bool true)) :
    PySem.W.WalkO q loose XP YP l.row.toRowW d [] (fun f vs => PySem.call f vs) := by
  refine Att.attach_callB hn hdf fun w s₀ s₁ mg mb fa o pm cd doc a vs ns G Y ho hd hcd hmg hobj hints hlen hbits hng => ?_
  obtain ⟨fd, b1, b2⟩ := F w mg fa _ (hY w _ Y) G.T.g hmg
  exact law_callG (hY w _ Y) G.T.g G.T.b G.T.builtins G.T.nolimit G.T.nodigits hng hobj hints (Nat.le_trans hlen hn2) room b2 b1 (hg ns hlen hbits)
end DL

namespace DL
open PySem PySem.Spec PyProof.Rows L2 Builtin.Int

/-! ### rules for bodies -/
theorem sq_i {t u : RS} {DD : DEnds} {ρ : Rho} (h : ∀ k, k = u DD → t { DD with nx := k } ρ) : sSeq t u DD ρ := by rw [sSeq_c]; exact h _ rfl
theorem if_in {c : RT} {t u : RS} {DD : DEnds} {ρ : Rho} (h : ∀ T U : Prop, T = t DD ρ → U = u DD ρ → c ρ fun b => (b = true → T) ∧ (b = false → U)) : sIf c t u DD ρ := h _ _ rfl rfl
theorem if_n {c : RT} {t : RS} {DD : DEnds} {ρ : Rho} (h : ∀ T : Prop, T = t DD ρ → c ρ fun b => (b = true → T) ∧ (b = false → DD.nx ρ)) : sIf c t sNext DD ρ := h _ rfl
theorem for_in {di : RL} {g : RG} {b : RS} {DD : DEnds} {ρ : Rho} (h : ∀ (W : List D → Prop), (W = fun items => forD g b DD items ρ) → di ρ W) : sFor di g b DD ρ := h _ rfl
/-- a for: P i tells the names' values before the item at i -/
theorem for_ix {g : RG} {body : RS} {DD : DEnds} (P : Nat → Rho → Prop) (xs : List D) {ρ : Rho} (h0 : P 0 ρ) (hn : ∀ ρ, P xs.length ρ → DD.nx ρ)
    (hs : ∀ (i : Nat) (d : D) (ρ : Rho), xs[i]? = some d → P i ρ → ∀ k : Rho → Prop, (∀ ρ', P (i + 1) ρ' → k ρ') → g d ρ fun ρ1 => body { DD with nx := k, ct := k, bk := DD.nx } ρ1) : forD g body DD xs ρ := by
  have : ∀ (r : List D) (i : Nat) (ρ : Rho), xs.drop i = r → i ≤ xs.length → P i ρ → forD g body DD r ρ := by
    intro r
    induction r with
    | nil =>
      intro i ρ e hi h
      have : i = xs.length := by
        have := congrArg List.length e
        simp at this
        omega
      subst this
      exact hn ρ h
    | cons d r ih =>
      intro i ρ e hi h
      have hlt : i < xs.length := by
        have := congrArg List.length e
        simp at this
        omega
      have e2 := (List.drop_eq_getElem_cons hlt).symm.trans e
      obtain ⟨e3, e4⟩ := List.cons.inj e2
      refine hs i d ρ (by rw [List.getElem?_eq_getElem hlt, e3]) h _ fun ρ' h' => ?_
      exact ih (i + 1) ρ' e4 hlt h'
  exact this xs 0 ρ rfl (Nat.zero_le _) h0
/-- over what remains: xs.map emb -/
theorem for_map {α : Type} {emb : α → D} {g : RG} {body : RS} {DD : DEnds} (P : List α → Rho → Prop) (xs : List α) {ρ : Rho} (h0 : P xs ρ) (hn : ∀ ρ, P [] ρ → DD.nx ρ)
    (hs : ∀ (a : α) (r : List α) (ρ : Rho), P (a :: r) ρ → ∀ k : Rho → Prop, (∀ ρ', P r ρ' → k ρ') → g (emb a) ρ fun ρ1 => body { DD with nx := k, ct := k, bk := DD.nx } ρ1) : forD g body DD (xs.map emb) ρ := by
  induction xs generalizing ρ with
  | nil => exact hn ρ h0
  | cons a r ih => exact hs a r ρ h0 _ fun ρ' h' => ih h'
/-- over range -/
theorem for_up {g : RG} {body : RS} {DD : DEnds} (P : Nat → Rho → Prop) (lo : Int) (n : Nat) {ρ : Rho} (h0 : P 0 ρ) (hn : ∀ ρ, P n ρ → DD.nx ρ)
    (hs : ∀ (i : Nat) (ρ : Rho), i < n → P i ρ → ∀ k : Rho → Prop, (∀ ρ', P (i + 1) ρ' → k ρ') → g (.int (lo + i)) ρ fun ρ1 => body { DD with nx := k, ct := k, bk := DD.nx } ρ1) : forD g body DD (upTo lo n) ρ := by
  refine for_ix P _ h0 (fun ρ h => hn ρ (by rwa [upTo_length] at h)) fun i d ρ e h k hk => ?_
  have hi : i < n := by
    have := (List.getElem?_eq_some_iff.mp e).1
    rwa [upTo_length] at this
  rw [upTo_get lo n i hi] at e
  cases e
  exact hs i ρ hi h k hk
/-- a while: P m tells the names' values, m falls -/
theorem while_m {c : RT} {body : RS} {DD : DEnds} {ρ : Rho} (P : Nat → Rho → Prop) (m0 : Nat) (h0 : P m0 ρ)
    (hs : ∀ m ρ, P m ρ → c ρ fun b => (b = true → ∀ k : Rho → Prop, (∀ m' ρ', m' < m → P m' ρ' → k ρ') → body { DD with nx := k, ct := k, bk := DD.nx } ρ) ∧ (b = false → DD.nx ρ))
    (mono : ∀ (ρ : Rho) (q q' : Bool → Prop), (∀ b, q b → q' b) → c ρ q → c ρ q') : sWhile c body DD ρ :=
  ⟨P, ⟨m0, h0⟩, fun m ρ h => mono ρ _ _ (fun b hb => ⟨fun e => hb.1 e _ fun m' ρ' h1 h2 => ⟨m', h1, h2⟩, hb.2⟩) (hs m ρ h)⟩
theorem while_i {c : RT} {body : RS} {DD : DEnds} {ρ : Rho} (P : Nat → Rho → Prop) (m0 : Nat) (h0 : P m0 ρ)
    (hs : ∀ m ρ, P m ρ → ∀ k : Rho → Prop, k = (fun ρ' => ∃ m', m' < m ∧ P m' ρ') → c ρ fun b => (b = true → body { DD with nx := k, ct := k, bk := DD.nx } ρ) ∧ (b = false → DD.nx ρ)) : sWhile c body DD ρ :=
  ⟨P, ⟨m0, h0⟩, fun m ρ h => hs m ρ h _ rfl⟩
/-- a comprehension without test -/
theorem lc_map {g : RG} {tt : RT} {de : RE} {vs : List Nat} {ρ : Rho} {q : List D → Prop} {α : Type} {emb : α → D} {P : α → D → Prop} (xs : List α)
    (hs : ∀ a ∈ xs, ∀ q : D → Prop, (∀ d, P a d → q d) → g (emb a) (wipeD ρ vs) fun ρ1 => tt ρ1 fun b => b = true ∧ de ρ1 q)
    (hq : ∀ ys : List D, ys.length = xs.length → (∀ (i : Nat) a d, xs[i]? = some a → ys[i]? = some d → P a d) → q ys)
    (mono : ∀ (d : D) (ρ : Rho) (q q' : Rho → Prop), (∀ ρ, q ρ → q' ρ) → g d ρ q → g d ρ q') (monot : ∀ (ρ : Rho) (q q' : Bool → Prop), (∀ b, q b → q' b) → tt ρ q → tt ρ q') : lcD g tt de vs (xs.map emb) ρ q := by
  induction xs generalizing q with
  | nil => exact hq [] rfl (by simp)
  | cons a r ih =>
    refine mono _ _ _ _ (fun ρ1 z => monot _ _ _ (fun b z => ⟨fun _ => z.2, fun e => absurd z.1 (by rw [e]; decide)⟩) z) (hs a List.mem_cons_self _ fun d hd => ?_)
    refine ih (fun a ha => hs a (List.mem_cons_of_mem _ ha)) fun ys h1 h2 => hq _ (by simp [h1]) fun i a' d' e1 e2 => ?_
    cases i with
    | zero => cases e1; cases e2; exact hd
    | succ i => exact h2 i a' d' (by simpa using e1) (by simpa using e2)

instance {i j : Int} : Decidable (PowOk i j) := decidable_of_iff (0 ≤ j ∧ j ≤ 1000000 ∧ i.natAbs < 2 ^ 64) ⟨fun h => ⟨h⟩, fun h => h.ok⟩
instance {i j : Int} : Decidable (ShlOk i j) := decidable_of_iff (0 ≤ j ∧ (Builtin.Int.intBits i : Int) + j ≤ 2 ^ 27) ⟨fun h => ⟨h⟩, fun h => h.ok⟩
theorem isTy_none_int : isTy .none "int" = false := by simp [isTy, tyD]
theorem isTy_none_bool : isTy .none "bool" = false := by simp [isTy, tyD]
theorem isTy_none_str : isTy .none "str" = false := by simp [isTy, tyD]
theorem isTy_none_list : isTy .none "list" = false := by simp [isTy, tyD]
theorem isTy_none_tuple : isTy .none "tuple" = false := by simp [isTy, tyD]
theorem isTy_bool_int {x : Bool} : isTy (.bool x) "int" = true := by simp [isTy, tyD]
theorem isTy_bool_bool {x : Bool} : isTy (.bool x) "bool" = true := by simp [isTy, tyD]
theorem isTy_bool_str {x : Bool} : isTy (.bool x) "str" = false := by simp [isTy, tyD]
theorem isTy_bool_list {x : Bool} : isTy (.bool x) "list" = false := by simp [isTy, tyD]
theorem isTy_bool_tuple {x : Bool} : isTy (.bool x) "tuple" = false := by simp [isTy, tyD]
theorem isTy_int_int {x : Int} : isTy (.int x) "int" = true := by simp [isTy, tyD]
theorem isTy_int_bool {x : Int} : isTy (.int x) "bool" = false := by simp [isTy, tyD]
theorem isTy_int_str {x : Int} : isTy (.int x) "str" = false := by simp [isTy, tyD]
theorem isTy_int_list {x : Int} : isTy (.int x) "list" = false := by simp [isTy, tyD]
theorem isTy_int_tuple {x : Int} : isTy (.int x) "tuple" = false := by simp [isTy, tyD]
theorem isTy_str_int {x : Str} : isTy (.str x) "int" = false := by simp [isTy, tyD]
theorem isTy_str_bool {x : Str} : isTy (.str x) "bool" = false := by simp [isTy, tyD]
theorem isTy_str_str {x : Str} : isTy (.str x) "str" = true := by simp [isTy, tyD]
theorem isTy_str_list {x : Str} : isTy (.str x) "list" = false := by simp [isTy, tyD]
theorem isTy_str_tuple {x : Str} : isTy (.str x) "tuple" = false := by simp [isTy, tyD]
theorem isTy_list_int {x : List D} : isTy (.list x) "int" = false := by simp [isTy, tyD]
theorem isTy_list_bool {x : List D} : isTy (.list x) "bool" = false := by simp [isTy, tyD]
theorem isTy_list_str {x : List D} : isTy (.list x) "str" = false := by simp [isTy, tyD]
theorem isTy_list_list {x : List D} : isTy (.list x) "list" = true := by simp [isTy, tyD]
theorem isTy_list_tuple {x : List D} : isTy (.list x) "tuple" = false := by simp [isTy, tyD]
theorem isTy_tuple_int {x : List D} : isTy (.tuple x) "int" = false := by simp [isTy, tyD]
theorem isTy_tuple_bool {x : List D} : isTy (.tuple x) "bool" = false := by simp [isTy, tyD]
theorem isTy_tuple_str {x : List D} : isTy (.tuple x) "str" = false := by simp [isTy, tyD]
theorem isTy_tuple_list {x : List D} : isTy (.tuple x) "list" = false := by simp [isTy, tyD]
theorem isTy_tuple_tuple {x : List D} : isTy (.tuple x) "tuple" = true := by simp [isTy, tyD]
theorem ix2_0 : ixN 2 0 = some 0 := rfl
theorem ix2_1 : ixN 2 1 = some 1 := rfl
/-! ### items of a list -/
theorem gIx_P {xs : List D} {i : Int} {q : D → Prop} (P : D → Prop) (h0 : 0 ≤ i) (h1 : i < xs.length) (hP : ∀ d, xs[i.toNat]? = some d → P d) (hq : ∀ d, P d → q d) : gIx (.list xs) (.int i) q := by
  obtain ⟨j, rfl⟩ : ∃ j : Nat, i = (j : Int) := ⟨i.toNat, by omega⟩
  have hj : j < xs.length := by omega
  simp only [Int.toNat_natCast] at hP
  have e : atI xs (j : Int) = some xs[j] := atI_nat (List.getElem?_eq_getElem hj)
  show (match atI xs (j : Int) with | some d => q d | none => False)
  rw [e]
  exact hq _ (hP _ (List.getElem?_eq_getElem hj))
theorem gIx_T {xs : List D} {i : Int} {q : D → Prop} (P : D → Prop) (h0 : 0 ≤ i) (h1 : i < xs.length) (hP : ∀ d, xs[i.toNat]? = some d → P d) (hq : ∀ d, P d → q d) : gIx (.tuple xs) (.int i) q := gIx_P P h0 h1 hP hq
theorem gIx_N {xs : List D} {j : Nat} {d : D} {q : D → Prop} (h : xs[j]? = some d) (hq : q d) : gIx (.list xs) (.int (j : Nat)) q := by
  show (match atI xs (j : Nat) with | some d => q d | none => False)
  rw [atI_nat h]
  exact hq
theorem gIx_NT {xs : List D} {j : Nat} {d : D} {q : D → Prop} (h : xs[j]? = some d) (hq : q d) : gIx (.tuple xs) (.int (j : Nat)) q := gIx_N (xs := xs) h hq
/-- a list of whole numbers -/
theorem gIx_ints {ns : List Int} {i : Int} {q : D → Prop} (P : Int → Prop) (h0 : 0 ≤ i) (h1 : i < ns.length) (hP : ∀ n, ns[i.toNat]? = some n → P n) (hq : ∀ n, P n → q (.int n)) : gIx (.list (ns.map .int)) (.int i) q := by
  refine gIx_P (fun d => ∃ n, d = .int n ∧ P n) h0 (by simpa using h1) (fun d e => ?_) fun d ⟨n, e, p⟩ => by rw [e]; exact hq n p
  rw [List.getElem?_map] at e
  cases h : ns[i.toNat]? with
  | none => rw [h] at e; cases e
  | some n => rw [h] at e; cases e; exact ⟨n, rfl, hP n h⟩

/-! items at written places -/
theorem gIx_l0 {x0 : D} {r : List D} {q : D → Prop} : gIx (.list (x0 :: r)) (.int 0) q = q x0 := by
  show (match atI (x0 :: r) ((0 : Nat) : Int) with | some d => q d | none => False) = _
  rw [atI_nat (j := 0) (v := x0) rfl]
theorem gIx_l1 {x0 x1 : D} {r : List D} {q : D → Prop} : gIx (.list (x0 :: x1 :: r)) (.int 1) q = q x1 := by
  show (match atI (x0 :: x1 :: r) ((1 : Nat) : Int) with | some d => q d | none => False) = _
  rw [atI_nat (j := 1) (v := x1) rfl]
theorem gIx_l2 {x0 x1 x2 : D} {r : List D} {q : D → Prop} : gIx (.list (x0 :: x1 :: x2 :: r)) (.int 2) q = q x2 := by
  show (match atI (x0 :: x1 :: x2 :: r) ((2 : Nat) : Int) with | some d => q d | none => False) = _
  rw [atI_nat (j := 2) (v := x2) rfl]
theorem gIx_l3 {x0 x1 x2 x3 : D} {r : List D} {q : D → Prop} : gIx (.list (x0 :: x1 :: x2 :: x3 :: r)) (.int 3) q = q x3 := by
  show (match atI (x0 :: x1 :: x2 :: x3 :: r) ((3 : Nat) : Int) with | some d => q d | none => False) = _
  rw [atI_nat (j := 3) (v := x3) rfl]
theorem gIx_l4 {x0 x1 x2 x3 x4 : D} {r : List D} {q : D → Prop} : gIx (.list (x0 :: x1 :: x2 :: x3 :: x4 :: r)) (.int 4) q = q x4 := by
  show (match atI (x0 :: x1 :: x2 :: x3 :: x4 :: r) ((4 : Nat) : Int) with | some d => q d | none => False) = _
  rw [atI_nat (j := 4) (v := x4) rfl]
theorem gIx_l5 {x0 x1 x2 x3 x4 x5 : D} {r : List D} {q : D → Prop} : gIx (.list (x0 :: x1 :: x2 :: x3 :: x4 :: x5 :: r)) (.int 5) q = q x5 := by
  show (match atI (x0 :: x1 :: x2 :: x3 :: x4 :: x5 :: r) ((5 : Nat) : Int) with | some d => q d | none => False) = _
  rw [atI_nat (j := 5) (v := x5) rfl]
theorem gIx_l6 {x0 x1 x2 x3 x4 x5 x6 : D} {r : List D} {q : D → Prop} : gIx (.list (x0 :: x1 :: x2 :: x3 :: x4 :: x5 :: x6 :: r)) (.int 6) q = q x6 := by
  show (match atI (x0 :: x1 :: x2 :: x3 :: x4 :: x5 :: x6 :: r) ((6 : Nat) : Int) with | some d => q d | none => False) = _
  rw [atI_nat (j := 6) (v := x6) rfl]
theorem gIx_l7 {x0 x1 x2 x3 x4 x5 x6 x7 : D} {r : List D} {q : D → Prop} : gIx (.list (x0 :: x1 :: x2 :: x3 :: x4 :: x5 :: x6 :: x7 :: r)) (.int 7) q = q x7 := by
  show (match atI (x0 :: x1 :: x2 :: x3 :: x4 :: x5 :: x6 :: x7 :: r) ((7 : Nat) : Int) with | some d => q d | none => False) = _
  rw [atI_nat (j := 7) (v := x7) rfl]
theorem gIx_l8 {x0 x1 x2 x3 x4 x5 x6 x7 x8 : D} {r : List D} {q : D → Prop} : gIx (.list (x0 :: x1 :: x2 :: x3 :: x4 :: x5 :: x6 :: x7 :: x8 :: r)) (.int 8) q = q x8 := by
  show (match atI (x0 :: x1 :: x2 :: x3 :: x4 :: x5 :: x6 :: x7 :: x8 :: r) ((8 : Nat) : Int) with | some d => q d | none => False) = _
  rw [atI_nat (j := 8) (v := x8) rfl]
theorem gIx_l9 {x0 x1 x2 x3 x4 x5 x6 x7 x8 x9 : D} {r : List D} {q : D → Prop} : gIx (.list (x0 :: x1 :: x2 :: x3 :: x4 :: x5 :: x6 :: x7 :: x8 :: x9 :: r)) (.int 9) q = q x9 := by
  show (match atI (x0 :: x1 :: x2 :: x3 :: x4 :: x5 :: x6 :: x7 :: x8 :: x9 :: r) ((9 : Nat) : Int) with | some d => q d | none => False) = _
  rw [atI_nat (j := 9) (v := x9) rfl]
theorem gIx_l10 {x0 x1 x2 x3 x4 x5 x6 x7 x8 x9 x10 : D} {r : List D} {q : D → Prop} : gIx (.list (x0 :: x1 :: x2 :: x3 :: x4 :: x5 :: x6 :: x7 :: x8 :: x9 :: x10 :: r)) (.int 10) q = q x10 := by
  show (match atI (x0 :: x1 :: x2 :: x3 :: x4 :: x5 :: x6 :: x7 :: x8 :: x9 :: x10 :: r) ((10 : Nat) : Int) with | some d => q d | none => False) = _
  rw [atI_nat (j := 10) (v := x10) rfl]
theorem gIx_l11 {x0 x1 x2 x3 x4 x5 x6 x7 x8 x9 x10 x11 : D} {r : List D} {q : D → Prop} : gIx (.list (x0 :: x1 :: x2 :: x3 :: x4 :: x5 :: x6 :: x7 :: x8 :: x9 :: x10 :: x11 :: r)) (.int 11) q = q x11 := by
  show (match atI (x0 :: x1 :: x2 :: x3 :: x4 :: x5 :: x6 :: x7 :: x8 :: x9 :: x10 :: x11 :: r) ((11 : Nat) : Int) with | some d => q d | none => False) = _
  rw [atI_nat (j := 11) (v := x11) rfl]
theorem gIx_l12 {x0 x1 x2 x3 x4 x5 x6 x7 x8 x9 x10 x11 x12 : D} {r : List D} {q : D → Prop} : gIx (.list (x0 :: x1 :: x2 :: x3 :: x4 :: x5 :: x6 :: x7 :: x8 :: x9 :: x10 :: x11 :: x12 :: r)) (.int 12) q = q x12 := by
  show (match atI (x0 :: x1 :: x2 :: x3 :: x4 :: x5 :: x6 :: x7 :: x8 :: x9 :: x10 :: x11 :: x12 :: r) ((12 : Nat) : Int) with | some d => q d | none => False) = _
  rw [atI_nat (j := 12) (v := x12) rfl]
theorem gIx_l13 {x0 x1 x2 x3 x4 x5 x6 x7 x8 x9 x10 x11 x12 x13 : D} {r : List D} {q : D → Prop} : gIx (.list (x0 :: x1 :: x2 :: x3 :: x4 :: x5 :: x6 :: x7 :: x8 :: x9 :: x10 :: x11 :: x12 :: x13 :: r)) (.int 13) q = q x13 := by
  show (match atI (x0 :: x1 :: x2 :: x3 :: x4 :: x5 :: x6 :: x7 :: x8 :: x9 :: x10 :: x11 :: x12 :: x13 :: r) ((13 : Nat) : Int) with | some d => q d | none => False) = _
  rw [atI_nat (j := 13) (v := x13) rfl]
theorem gIx_l14 {x0 x1 x2 x3 x4 x5 x6 x7 x8 x9 x10 x11 x12 x13 x14 : D} {r : List D} {q : D → Prop} : gIx (.list (x0 :: x1 :: x2 :: x3 :: x4 :: x5 :: x6 :: x7 :: x8 :: x9 :: x10 :: x11 :: x12 :: x13 :: x14 :: r)) (.int 14) q = q x14 := by
  show (match atI (x0 :: x1 :: x2 :: x3 :: x4 :: x5 :: x6 :: x7 :: x8 :: x9 :: x10 :: x11 :: x12 :: x13 :: x14 :: r) ((14 : Nat) : Int) with | some d => q d | none => False) = _
  rw [atI_nat (j := 14) (v := x14) rfl]
theorem gIx_l15 {x0 x1 x2 x3 x4 x5 x6 x7 x8 x9 x10 x11 x12 x13 x14 x15 : D} {r : List D} {q : D → Prop} : gIx (.list (x0 :: x1 :: x2 :: x3 :: x4 :: x5 :: x6 :: x7 :: x8 :: x9 :: x10 :: x11 :: x12 :: x13 :: x14 :: x15 :: r)) (.int 15) q = q x15 := by
  show (match atI (x0 :: x1 :: x2 :: x3 :: x4 :: x5 :: x6 :: x7 :: x8 :: x9 :: x10 :: x11 :: x12 :: x13 :: x14 :: x15 :: r) ((15 : Nat) : Int) with | some d => q d | none => False) = _
  rw [atI_nat (j := 15) (v := x15) rfl]
theorem gIx_t0 {x0 : D} {r : List D} {q : D → Prop} : gIx (.tuple (x0 :: r)) (.int 0) q = q x0 := by
  show (match atI (x0 :: r) ((0 : Nat) : Int) with | some d => q d | none => False) = _
  rw [atI_nat (j := 0) (v := x0) rfl]
theorem gIx_t1 {x0 x1 : D} {r : List D} {q : D → Prop} : gIx (.tuple (x0 :: x1 :: r)) (.int 1) q = q x1 := by
  show (match atI (x0 :: x1 :: r) ((1 : Nat) : Int) with | some d => q d | none => False) = _
  rw [atI_nat (j := 1) (v := x1) rfl]
theorem gIx_t2 {x0 x1 x2 : D} {r : List D} {q : D → Prop} : gIx (.tuple (x0 :: x1 :: x2 :: r)) (.int 2) q = q x2 := by
  show (match atI (x0 :: x1 :: x2 :: r) ((2 : Nat) : Int) with | some d => q d | none => False) = _
  rw [atI_nat (j := 2) (v := x2) rfl]
theorem gIx_t3 {x0 x1 x2 x3 : D} {r : List D} {q : D → Prop} : gIx (.tuple (x0 :: x1 :: x2 :: x3 :: r)) (.int 3) q = q x3 := by
  show (match atI (x0 :: x1 :: x2 :: x3 :: r) ((3 : Nat) : Int) with | some d => q d | none => False) = _
  rw [atI_nat (j := 3) (v := x3) rfl]
theorem gIx_t4 {x0 x1 x2 x3 x4 : D} {r : List D} {q : D → Prop} : gIx (.tuple (x0 :: x1 :: x2 :: x3 :: x4 :: r)) (.int 4) q = q x4 := by
  show (match atI (x0 :: x1 :: x2 :: x3 :: x4 :: r) ((4 : Nat) : Int) with | some d => q d | none => False) = _
  rw [atI_nat (j := 4) (v := x4) rfl]
theorem gIx_t5 {x0 x1 x2 x3 x4 x5 : D} {r : List D} {q : D → Prop} : gIx (.tuple (x0 :: x1 :: x2 :: x3 :: x4 :: x5 :: r)) (.int 5) q = q x5 := by
  show (match atI (x0 :: x1 :: x2 :: x3 :: x4 :: x5 :: r) ((5 : Nat) : Int) with | some d => q d | none => False) = _
  rw [atI_nat (j := 5) (v := x5) rfl]
theorem gIx_t6 {x0 x1 x2 x3 x4 x5 x6 : D} {r : List D} {q : D → Prop} : gIx (.tuple (x0 :: x1 :: x2 :: x3 :: x4 :: x5 :: x6 :: r)) (.int 6) q = q x6 := by
  show (match atI (x0 :: x1 :: x2 :: x3 :: x4 :: x5 :: x6 :: r) ((6 : Nat) : Int) with | some d => q d | none => False) = _
  rw [atI_nat (j := 6) (v := x6) rfl]
theorem gIx_t7 {x0 x1 x2 x3 x4 x5 x6 x7 : D} {r : List D} {q : D → Prop} : gIx (.tuple (x0 :: x1 :: x2 :: x3 :: x4 :: x5 :: x6 :: x7 :: r)) (.int 7) q = q x7 := by
  show (match atI (x0 :: x1 :: x2 :: x3 :: x4 :: x5 :: x6 :: x7 :: r) ((7 : Nat) : Int) with | some d => q d | none => False) = _
  rw [atI_nat (j := 7) (v := x7) rfl]
theorem gIx_t8 {x0 x1 x2 x3 x4 x5 x6 x7 x8 : D} {r : List D} {q : D → Prop} : gIx (.tuple (x0 :: x1 :: x2 :: x3 :: x4 :: x5 :: x6 :: x7 :: x8 :: r)) (.int 8) q = q x8 := by
  show (match atI (x0 :: x1 :: x2 :: x3 :: x4 :: x5 :: x6 :: x7 :: x8 :: r) ((8 : Nat) : Int) with | some d => q d | none => False) = _
  rw [atI_nat (j := 8) (v := x8) rfl]
theorem gIx_t9 {x0 x1 x2 x3 x4 x5 x6 x7 x8 x9 : D} {r : List D} {q : D → Prop} : gIx (.tuple (x0 :: x1 :: x2 :: x3 :: x4 :: x5 :: x6 :: x7 :: x8 :: x9 :: r)) (.int 9) q = q x9 := by
  show (match atI (x0 :: x1 :: x2 :: x3 :: x4 :: x5 :: x6 :: x7 :: x8 :: x9 :: r) ((9 : Nat) : Int) with | some d => q d | none => False) = _
  rw [atI_nat (j := 9) (v := x9) rfl]
theorem gIx_t10 {x0 x1 x2 x3 x4 x5 x6 x7 x8 x9 x10 : D} {r : List D} {q : D → Prop} : gIx (.tuple (x0 :: x1 :: x2 :: x3 :: x4 :: x5 :: x6 :: x7 :: x8 :: x9 :: x10 :: r)) (.int 10) q = q x10 := by
  show (match atI (x0 :: x1 :: x2 :: x3 :: x4 :: x5 :: x6 :: x7 :: x8 :: x9 :: x10 :: r) ((10 : Nat) : Int) with | some d => q d | none => False) = _
  rw [atI_nat (j := 10) (v := x10) rfl]
theorem gIx_t11 {x0 x1 x2 x3 x4 x5 x6 x7 x8 x9 x10 x11 : D} {r : List D} {q : D → Prop} : gIx (.tuple (x0 :: x1 :: x2 :: x3 :: x4 :: x5 :: x6 :: x7 :: x8 :: x9 :: x10 :: x11 :: r)) (.int 11) q = q x11 := by
  show (match atI (x0 :: x1 :: x2 :: x3 :: x4 :: x5 :: x6 :: x7 :: x8 :: x9 :: x10 :: x11 :: r) ((11 : Nat) : Int) with | some d => q d | none => False) = _
  rw [atI_nat (j := 11) (v := x11) rfl]
theorem gIx_t12 {x0 x1 x2 x3 x4 x5 x6 x7 x8 x9 x10 x11 x12 : D} {r : List D} {q : D → Prop} : gIx (.tuple (x0 :: x1 :: x2 :: x3 :: x4 :: x5 :: x6 :: x7 :: x8 :: x9 :: x10 :: x11 :: x12 :: r)) (.int 12) q = q x12 := by
  show (match atI (x0 :: x1 :: x2 :: x3 :: x4 :: x5 :: x6 :: x7 :: x8 :: x9 :: x10 :: x11 :: x12 :: r) ((12 : Nat) : Int) with | some d => q d | none => False) = _
  rw [atI_nat (j := 12) (v := x12) rfl]
theorem gIx_t13 {x0 x1 x2 x3 x4 x5 x6 x7 x8 x9 x10 x11 x12 x13 : D} {r : List D} {q : D → Prop} : gIx (.tuple (x0 :: x1 :: x2 :: x3 :: x4 :: x5 :: x6 :: x7 :: x8 :: x9 :: x10 :: x11 :: x12 :: x13 :: r)) (.int 13) q = q x13 := by
  show (match atI (x0 :: x1 :: x2 :: x3 :: x4 :: x5 :: x6 :: x7 :: x8 :: x9 :: x10 :: x11 :: x12 :: x13 :: r) ((13 : Nat) : Int) with | some d => q d | none => False) = _
  rw [atI_nat (j := 13) (v := x13) rfl]
theorem gIx_t14 {x0 x1 x2 x3 x4 x5 x6 x7 x8 x9 x10 x11 x12 x13 x14 : D} {r : List D} {q : D → Prop} : gIx (.tuple (x0 :: x1 :: x2 :: x3 :: x4 :: x5 :: x6 :: x7 :: x8 :: x9 :: x10 :: x11 :: x12 :: x13 :: x14 :: r)) (.int 14) q = q x14 := by
  show (match atI (x0 :: x1 :: x2 :: x3 :: x4 :: x5 :: x6 :: x7 :: x8 :: x9 :: x10 :: x11 :: x12 :: x13 :: x14 :: r) ((14 : Nat) : Int) with | some d => q d | none => False) = _
  rw [atI_nat (j := 14) (v := x14) rfl]
theorem gIx_t15 {x0 x1 x2 x3 x4 x5 x6 x7 x8 x9 x10 x11 x12 x13 x14 x15 : D} {r : List D} {q : D → Prop} : gIx (.tuple (x0 :: x1 :: x2 :: x3 :: x4 :: x5 :: x6 :: x7 :: x8 :: x9 :: x10 :: x11 :: x12 :: x13 :: x14 :: x15 :: r)) (.int 15) q = q x15 := by
  show (match atI (x0 :: x1 :: x2 :: x3 :: x4 :: x5 :: x6 :: x7 :: x8 :: x9 :: x10 :: x11 :: x12 :: x13 :: x14 :: x15 :: r) ((15 : Nat) : Int) with | some d => q d | none => False) = _
  rw [atI_nat (j := 15) (v := x15) rfl]
/-! ### plain facts of readings -/
theorem eqv_int (i j : Int) : PyData.eqv (.int i) (.int j) = (i == j) := by simp [PyData.eqv]
theorem eqv_str (i j : Str) : PyData.eqv (.str i) (.str j) = (i == j) := by simp [PyData.eqv]
theorem eqv_bool (i j : Bool) : PyData.eqv (.bool i) (.bool j) = (i == j) := by simp [PyData.eqv]

/-! ### repr of plain data -/
theorem log2_lt_of {n k : Nat} (h : n < 2 ^ k) (hk : 0 < k) : n.log2 < k := by
  by_cases h0 : n = 0
  · subst h0
    have : Nat.log2 0 = 0 := by decide
    omega
  · exact (Nat.log2_lt h0).mpr h
theorem rpAll_ints : ∀ ns : List Int, (∀ n ∈ ns, n.natAbs < bigLine) → rpAll (ns.map .int) = true
  | [], _ => by simp [rpAll]
  | n :: r, h => by
    simp only [List.map_cons, rpAll, rpD, Bool.and_eq_true, decide_eq_true_eq]
    exact ⟨h n List.mem_cons_self, rpAll_ints r fun m hm => h m (List.mem_cons_of_mem _ hm)⟩
theorem cellsAll_ints : ∀ ns : List Int, cellsAll (ns.map .int) = ns.length
  | [] => by simp [cellsAll]
  | n :: r => by
    simp only [List.map_cons, cellsAll, cells, cellsAll_ints r, List.length_cons]
    omega
theorem depthAll_ints : ∀ ns : List Int, PyData.depthAll (ns.map .int) = 0
  | [] => by simp [PyData.depthAll]
  | n :: r => by simp [PyData.depthAll, PyData.depth, depthAll_ints r]
theorem gRepr_ints {ns : List Int} {q : D → Prop} (h : ∀ n ∈ ns, n.natAbs < bigLine) (hl : ns.length ≤ 4000) (hq : q (.str (PyData.shown (.list (ns.map .int))))) : gRepr [.list (ns.map .int)] q :=
  ⟨⟨rfl, by simp only [rpD]; exact rpAll_ints ns h, by simp only [cells, cellsAll_ints]; omega, by simp [PyData.depth, depthAll_ints]⟩, hq⟩
theorem big_bits {n : Int} {k : Nat} (h : intBits n ≤ k) (hk : k ≤ 12000) : n.natAbs < bigLine := Nat.lt_of_lt_of_le (intBits_le_iff.mp h) (Nat.pow_le_pow_right (by decide) hk)
end DL

namespace DL
open PySem

/-! ### whole square roots -/
theorem sq4 (a b : Nat) : 4 * (a * b) ≤ (a + b) * (a + b) := by
  have key : ∀ a d : Nat, 4 * (a * (a + d)) ≤ (a + (a + d)) * (a + (a + d)) := by
    intro a d
    have e : (a + (a + d)) * (a + (a + d)) = 4 * (a * (a + d)) + d * d := by
      simp only [Nat.add_mul, Nat.mul_add, Nat.mul_comm d a]; omega
    omega
  rcases Nat.le_total a b with h | h
  · obtain ⟨d, rfl⟩ := Nat.le.dest h
    exact key a d
  · obtain ⟨d, rfl⟩ := Nat.le.dest h
    rw [Nat.mul_comm (b + d) b, Nat.add_comm (b + d) b]
    exact key b d
/-- a turn of Newton's stays above -/
theorem newton_up {n x : Nat} (hx : 0 < x) : n < ((x + n / x) / 2 + 1) * ((x + n / x) / 2 + 1) := by
  have h1 : n < (n / x + 1) * x := by
    have := Nat.lt_succ_self (n / x)
    rw [Nat.mul_comm]
    exact Nat.lt_mul_div_succ n hx
  have h2 := sq4 (n / x + 1) x
  have h3 : n / x + 1 + x ≤ 2 * ((x + n / x) / 2 + 1) := by omega
  have h4 : (n / x + 1 + x) * (n / x + 1 + x) ≤ (2 * ((x + n / x) / 2 + 1)) * (2 * ((x + n / x) / 2 + 1)) := Nat.mul_le_mul h3 h3
  have h5 : ∀ y : Nat, (2 * y) * (2 * y) = 4 * (y * y) := fun y => by
    rw [Nat.mul_mul_mul_comm]
  rw [h5] at h4
  omega
/-- r is the whole root of n -/
def IsRoot (n r : Nat) : Prop := r * r ≤ n ∧ n < (r + 1) * (r + 1)
theorem lt_of_sq {a b : Nat} (h : a * a < b * b) : a < b := by
  apply Classical.byContradiction
  intro q
  have := Nat.mul_le_mul (Nat.le_of_not_lt q) (Nat.le_of_not_lt q)
  omega
theorem IsRoot.uniq {n r s : Nat} (h : IsRoot n r) (g : IsRoot n s) : r = s := by
  have h1 : r < s + 1 := lt_of_sq (Nat.lt_of_le_of_lt h.1 g.2)
  have h2 : s < r + 1 := lt_of_sq (Nat.lt_of_le_of_lt g.1 h.2)
  omega
theorem root_step {n r k : Nat} (h8 : 8 ≤ n) (hk : k = (n.log2 + 1) / 4) (hr : IsRoot (n / 4 ^ k) r) :
    IsRoot n (let x := (r + 1) * 2 ^ k; let y := (x + n / x) / 2; if y * y > n then y - 1 else y) := by
  have p4 : (4 : Nat) ^ k = 2 ^ k * 2 ^ k := by rw [← Nat.mul_pow]
  have hb : 0 < 2 ^ k := Nat.two_pow_pos k
  have p4' : 0 < (4 : Nat) ^ k := Nat.pow_pos (by decide)
  obtain ⟨r1, r2⟩ := hr
  generalize hx : (r + 1) * 2 ^ k = x
  have xx : n < x * x := by
    have e : x * x = (r + 1) * (r + 1) * 4 ^ k := by rw [← hx, p4, Nat.mul_mul_mul_comm]
    rw [e]
    exact (Nat.div_lt_iff_lt_mul p4').mp r2
  have aa : (r * 2 ^ k) * (r * 2 ^ k) ≤ n := by
    rw [Nat.mul_mul_mul_comm, ← p4]
    exact (Nat.le_div_iff_mul_le p4').mp r1
  have hxp : 0 < x := by
    rw [← hx]
    exact Nat.mul_pos (by omega) hb
  have ll : 2 ^ n.log2 ≤ n := Nat.log2_self_le (by omega)
  have bb : 2 ^ k * 2 ^ k ≤ 2 * x := by
    apply Classical.byContradiction
    intro q
    have q : 2 * x < 4 ^ k := by rw [p4]; omega
    have q2 := Nat.mul_lt_mul'' q q
    have e1 : (4 : Nat) ^ k * 4 ^ k = 2 ^ (4 * k) := by
      rw [p4, ← Nat.pow_add, ← Nat.pow_add]; congr 1; omega
    have e2 : (2 : Nat) ^ (4 * k) ≤ 2 ^ (n.log2 + 1) := Nat.pow_le_pow_right (by decide) (by omega)
    rw [Nat.pow_succ] at e2
    have e3 : (2 * x) * (2 * x) = 4 * (x * x) := by rw [Nat.mul_mul_mul_comm]
    omega
  show IsRoot n (if (x + n / x) / 2 * ((x + n / x) / 2) > n then (x + n / x) / 2 - 1 else (x + n / x) / 2)
  have up := newton_up (n := n) hxp
  generalize hy : (x + n / x) / 2 = y at up ⊢
  by_cases h : y * y > n
  · rw [if_pos h]
    have y1 : 0 < y := by
      rcases Nat.eq_zero_or_pos y with z | z
      · rw [z] at h; omega
      · exact z
    obtain ⟨z, rfl⟩ : ∃ z, y = z + 1 := ⟨y - 1, by omega⟩
    refine ⟨?_, h⟩
    show z * z ≤ n
    apply Classical.byContradiction
    intro q
    have q : n < z * z := Nat.lt_of_not_le q
    have za : r * 2 ^ k < z := lt_of_sq (Nat.lt_of_le_of_lt aa q)
    have qx : n / x * x ≤ n := Nat.div_mul_le_self n x
    have nx : n / x < x := (Nat.div_lt_iff_lt_mul hxp).mpr xx
    have zx : z < x := by omega
    obtain ⟨d, rfl⟩ := Nat.le.dest (Nat.le_of_lt zx)
    have hd : d < 2 ^ k := by
      have : z + d = r * 2 ^ k + 2 ^ k := by rw [← hx, Nat.add_mul, Nat.one_mul]
      omega
    have dd : d * d < 2 ^ k * 2 ^ k := Nat.mul_lt_mul'' hd hd
    -- 2 (z + 1) ≤ x + n / x, so 2 (z + 1) x ≤ x x + n < x x + z z
    have t1 : 2 * (z + 1) ≤ z + d + n / (z + d) := by omega
    have t2 : 2 * (z + 1) * (z + d) ≤ (z + d + n / (z + d)) * (z + d) := Nat.mul_le_mul_right _ t1
    rw [Nat.add_mul] at t2
    have t3 : 2 * (z + 1) * (z + d) < (z + d) * (z + d) + z * z := by omega
    have e1 : 2 * (z + 1) * (z + d) = 2 * (z * z) + 2 * (z * d) + 2 * (z + d) := by
      simp only [Nat.add_mul, Nat.mul_add, Nat.mul_assoc]; omega
    have e2 : (z + d) * (z + d) = z * z + 2 * (z * d) + d * d := by
      simp only [Nat.add_mul, Nat.mul_add, Nat.mul_comm d z]; omega
    omega
  · rw [if_neg h]
    exact ⟨by omega, up⟩
theorem below8 {n : Nat} (h : n < 8) : IsRoot n (Float64.rootBelow8 n) := by
  have : n = 0 ∨ n = 1 ∨ n = 2 ∨ n = 3 ∨ n = 4 ∨ n = 5 ∨ n = 6 ∨ n = 7 := by omega
  rcases this with rfl | rfl | rfl | rfl | rfl | rfl | rfl | rfl <;> exact ⟨by decide, by decide⟩
theorem root_halves : ∀ (l n : Nat), n < 2 ^ (l + 1) → IsRoot n (Float64.rootByHalves l n)
  | 0, n, h => below8 (by omega)
  | l + 1, n, h => by
    unfold Float64.rootByHalves
    by_cases h8 : n < 8
    · rw [if_pos h8]
      exact below8 h8
    · rw [if_neg h8]
      have h3 : 3 ≤ n.log2 := (Nat.le_log2 (by omega)).mpr (by omega)
      refine root_step (by omega) rfl (root_halves l _ ?_)
      have k1 : 1 ≤ (n.log2 + 1) / 4 := by omega
      generalize (n.log2 + 1) / 4 = k at k1
      have : 4 ≤ 4 ^ k := by
        have := Nat.pow_le_pow_right (n := 4) (by decide) k1
        omega
      refine Nat.lt_of_le_of_lt (Nat.div_le_div_left this (by decide)) ?_
      have e : 2 ^ (l + 1 + 1) = 2 ^ (l + 1) * 2 := Nat.pow_succ ..
      omega
theorem isqrt_root (n : Nat) : IsRoot n (Float64.isqrt n) := by
  by_cases h : n = 0
  · subst h
    exact ⟨by decide, by decide⟩
  · exact root_halves _ _ (Nat.lt_log2_self)
end DL

namespace K02
open PySem PySem.Spec PyProof.Rows L2 DL Builtin.Int
def topS (i : Nat) : Stmt := PySem.Challenge.pw_leastnest_k02_simplest_between_whole.main.body.getD i (.Pass ⟨0, 0, 0, 0⟩)
local macro_rules | `(tactic| walk_at "rd") => `(tactic| simp -failIfUnchanged only [sSet, sSetL, sRet, sRetL, sRetO, sRetN, sNext, sBreak, sCont, sDrop, sApp, sAug, sAsg, sPar, sSetI, sPop, sRev, sFrz, frz1, iSeq, iRevD, iRange1, iRange2, iRangeD, rName, rTup, rCons, rNil,
  dLst, dView, tView, lView, view, look, dVar, bVar, dC, d2, d1, l2, tBool, dNil, dCons, dTup, gI, gSubI, gMulI, gFdiv, gMod, gPow, gShl, gShr, gAnd, gXor, gLt, gLe, gGt, gGe, gAdd, gEq, gNe, isNone, gIs, gIsNot, gNeg, lCat, gLen, gInt, gAbs, gMax2, gMin2, gTuple, lList, gGcd, gIsqrt, dCall, lCall, dIsi, dIsi2,
  tAndD, tOrD, tNotD, tTru, truD, dAndV, dOrV, dNotV, dIf, dBits, oNone, oSome, dSl, lSl, dFn, lFn, valD, tYesD, eqOk_ii, eqOk_bb, eqOk_ss, eqv_int, eqv_str, eqv_bool, noLst, noLstAll, List.map_cons, List.map_nil, Option.map_some, Option.map_none,
  List.getElem?_cons_zero, List.getElem?_cons_succ, List.set_cons_zero, List.set_cons_succ, true_and, and_true, decide_eq_true_eq, decide_eq_false_iff_not, Bool.not_eq_true', Bool.not_eq_false', beq_iff_eq, beq_eq_false_iff_ne, Bool.true_eq_false, Bool.false_eq_true, false_imp_iff, true_imp_iff, forall_const, reduceCtorEq, ne_eq, not_true_eq_false, not_false_eq_true, Bool.not_true, Bool.not_false, Bool.true_and, Bool.and_true, Bool.false_and, Bool.and_false, Int.reduceToNat, Int.cast_ofNat_Int, eq_self, isTy_none_int, isTy_none_bool, isTy_none_str, isTy_none_list, isTy_none_tuple, isTy_bool_int, isTy_bool_bool, isTy_bool_str, isTy_bool_list, isTy_bool_tuple, isTy_int_int, isTy_int_bool, isTy_int_str, isTy_int_list, isTy_int_tuple, isTy_str_int, isTy_str_bool, isTy_str_str, isTy_str_list, isTy_str_tuple, isTy_list_int, isTy_list_bool, isTy_list_str, isTy_list_list, isTy_list_tuple, isTy_tuple_int, isTy_tuple_bool, isTy_tuple_str, isTy_tuple_list, isTy_tuple_tuple, List.length_cons, List.length_nil, Nat.reduceAdd, Nat.zero_add, ix2_0, ix2_1,
  gIx_l0, gIx_t0, gIx_l1, gIx_t1, gIx_l2, gIx_t2, gIx_l3, gIx_t3, gIx_l4, gIx_t4, gIx_l5, gIx_t5, gIx_l6, gIx_t6, gIx_l7, gIx_t7, gIx_l8, gIx_t8, gIx_l9, gIx_t9, gIx_l10, gIx_t10, gIx_l11, gIx_t11, gIx_l12, gIx_t12, gIx_l13, gIx_t13, gIx_l14, gIx_t14, gIx_l15, gIx_t15])
section
variable {P : Program} {w : World} {K : Frag} {mg : Str → Option Value} {base : Heap}
def wholeD : D → Bool
  | .int _ => true
  | _ => false
theorem toNat_lt {n : Int} {k : Nat} (h : intBits n ≤ k) : n.toNat < 2 ^ k := by
  have := intBits_le_iff.mp h
  omega
theorem bits_nat {n k : Nat} (h : n < 2 ^ k) : intBits (n : Int) ≤ k := intBits_le_iff.mpr (by simpa using h)
theorem fmod_pos {a b : Int} (h : 0 < b) : 0 ≤ a.fmod b ∧ a.fmod b < b := ⟨Int.fmod_nonneg_of_pos a h, Int.fmod_lt_of_pos a h⟩
theorem mul_r {a : Int} {b : Int} (h1 : -(2 ^ 64) < b) (h2 : b < 2 ^ 64) : MulOk a b := ⟨IntMulOk.of_right (intBits_le_64 h1 h2)⟩
theorem mul_l {a : Int} {b : Int} (h1 : -(2 ^ 64) < a) (h2 : a < 2 ^ 64) : MulOk a b := ⟨IntMulOk.of_left (intBits_le_64 h1 h2)⟩
theorem div_small {a b : Int} (h0 : 0 < b) (h1 : b < 2 ^ 30) : CDivZ a b := ⟨by omega, PyProof.noPylong_small (by omega)⟩
/-- drawn places: each below its size -/
def InR : List Int → List Int → Prop
  | [], [] => True
  | r :: rs, s :: ss => (0 ≤ r ∧ r < s) ∧ InR rs ss
  | _, _ => False
theorem InR.length : ∀ {rs ss : List Int}, InR rs ss → rs.length = ss.length
  | [], [], _ => rfl
  | r :: rs, s :: ss, h => by simp [InR.length h.2]
  | [], _ :: _, h => h.elim
  | _ :: _, [], h => h.elim
theorem InR.snoc : ∀ {rs ss : List Int} {r s : Int}, InR rs ss → 0 ≤ r → r < s → InR (rs ++ [r]) (ss ++ [s])
  | [], [], _, _, _, h1, h2 => ⟨⟨h1, h2⟩, trivial⟩
  | r :: rs, s :: ss, _, _, h, h1, h2 => ⟨h.1, InR.snoc h.2 h1 h2⟩
  | [], _ :: _, _, _, h, _, _ => h.elim
  | _ :: _, [], _, _, h, _, _ => h.elim
theorem InR.cons {rs ss : List Int} {s : Int} (h : InR rs (s :: ss)) : ∃ r rs', rs = r :: rs' ∧ (0 ≤ r ∧ r < s) ∧ InR rs' ss := by
  cases rs with
  | nil => exact h.elim
  | cons r rs => exact ⟨r, rs, rfl, h.1, h.2⟩
theorem InR.nil {rs : List Int} (h : InR rs []) : rs = [] := by
  cases rs with
  | nil => rfl
  | cons r rs => exact h.elim
theorem bits_lt {n : Int} {k : Nat} (h : -(2 ^ k) < n) (h' : n < 2 ^ k) : intBits n ≤ k := by
  refine intBits_le_iff.mpr ?_
  have e : (2 : Int) ^ k = ((2 ^ k : Nat) : Int) := by simp
  rw [e] at h h'
  omega
abbrev s__law_whole : Stmt := topS 10
theorem sc__law_whole : FnScope ["value"] ["value"] (defScope s__law_whole) := ⟨rfl, rfl, rfl, by decide +kernel, rfl, by decide +kernel, by decide +kernel⟩
def f__law_whole : FD := fun ds q => ∃ d, ds = [d] ∧ q (.val (.bool (wholeD d)))
theorem ok__law_whole {f fd} {k : Nat} (F : Fun K "_law_whole" "_law_whole" s__law_whole f fd) (hdg : base.NoDigits) (m_bool : mg "bool" = none) (m_int : mg "int" = none) (m_isinstance : mg "isinstance" = none) : FnG P w K mg base (k + 1) f fd ["value"] (SpD K 1 f__law_whole) := by
  refine fnD F sc__law_whole fun cdv A outer s H E gA hr => ?_
  have hu := hr.units
  have nd := sc__law_whole.nd
  refine ⟨_, (ss_one (st_ret (de_and (de_isi ty_int m_isinstance m_int (bv 0)) (de_one (de_not (de_isi ty_bool m_isinstance m_bool (bv 0))))))), ?_⟩
  clear F nd hu hr gA E H s outer A cdv hdg m_bool m_int m_isinstance
  intro ds q hl hg
  obtain ⟨d, rfl, hq⟩ := hg
  show sRet _ _ [some (.val d)]
  cases d <;> (walk_at "rd"; simpa [isTy, tyD, wholeD] using hq)
abbrev s__law_cell : Stmt := topS 11
theorem sc__law_cell : FnScope ["script", "k", "seed", "cell"] ["script", "k"] (defScope s__law_cell) := ⟨rfl, rfl, rfl, by decide +kernel, rfl, by decide +kernel, by decide +kernel⟩
def f__law_cell : FD := fun ds q => ∃ (ns : List Int) (k : Int), ds = [.list (ns.map .int), .int k] ∧ 0 ≤ k ∧ (∀ i ∈ ns, intBits i ≤ 1048576) ∧ ∀ v, intBits v ≤ 1048576 → q (.val (.int v))
theorem ok__law_cell {f fd} {k : Nat} (F : Fun K "_law_cell" "_law_cell" s__law_cell f fd) (hdg : base.NoDigits) (m_int : mg "int" = none) (m_len : mg "len" = none) : FnG P w K mg base (k + 1) f fd ["script", "k"] (SpD K 2 f__law_cell) := by
  refine fnD F sc__law_cell fun cdv A outer s H E gA hr => ?_
  have hu := hr.units
  have nd := sc__law_cell.nd
  refine ⟨_, (ss_cons (st_if (dt_cmp o_lt (bv 1) (DE.toB (de_B c_len m_len (ab_cons (bv 0) ab_nil)))) (ss_one (st_ret (de_T c_int m_int (ab_cons (DE.toB (de_ix x_ix (bv 0) (bv 1))) ab_nil)))) ss_nil)
    (ss_cons (st_set (i := 2) nd de_int)
    (ss_cons (st_for (i_seq (dv 0)) (tg_name (i := 3) nd) (ss_one (st_set (i := 2) nd (de_op o_mod (DE.toB (de_T c_int m_int (ab_cons (DE.toB (de_op o_add (DE.toB (de_op o_mul (bv 2) (DE.toB de_int))) (DE.toB (de_op o_mod (DE.toB (de_T c_int m_int (ab_cons (bv 3) ab_nil))) (DE.toB de_int))))) ab_nil))) (DE.toB de_int)))))
    (ss_one (st_ret (de_op o_mod (DE.toB (de_T c_int m_int (ab_cons (DE.toB (de_op o_mul (DE.toB (de_op o_mul (DE.toB (de_op o_add (bv 2) (DE.toB de_int))) (DE.toB (de_op o_add (bv 1) (DE.toB de_int))))) (DE.toB de_int))) ab_nil))) (DE.toB de_int))))))), ?_⟩
  clear F nd hu hr gA E H s outer A cdv hdg m_int m_len
  intro ds q hl hg
  obtain ⟨ns, k0, rfl, h0, hb, hq⟩ := hg
  show sSeq _ _ _ [some (.val (.list (ns.map .int))), some (.val (.int k0)), none, none]
  refine sq_i fun k hk => if_n fun T hT => ?_
  walk_at "rd"
  refine ⟨fun h => ?_, fun h => ?_⟩
  · subst hT
    walk_at "rd"
    have h' : k0 < ns.length := by simpa using h
    refine gIx_ints (fun n => n ∈ ns) h0 h' (fun n e => List.mem_of_getElem? e) fun n hn => ?_
    walk_at "rd"
    exact hq n (hb n hn)
  · subst hk
    refine sq_i fun k hk => ?_
    walk_at "rd"
    subst hk
    refine sq_i fun k hk => for_in fun W hW => ?_
    walk_at "rd"
    subst hW
    refine for_map (fun _ ρ => ∃ (s : Int) (y : Option DV), ρ = [some (.val (.list (ns.map .int))), some (.val (.int k0)), some (.val (.int s)), y] ∧ 0 ≤ s ∧ s < 1000003) ns ⟨17, none, rfl, by decide, by decide⟩ ?_ ?_
    · rintro _ ⟨s, y, rfl, h1, h2⟩
      subst hk
      walk_at "rd"
      refine ⟨mul_l (by omega) (by omega), mul_r (by decide) (by decide), by decide, hq _ ?_⟩
      have := fmod_pos (a := (s + 7) * (k0 + 3) * 69621) (b := 2147483647) (by decide)
      exact intBits_le_iff.mpr (Nat.lt_of_lt_of_le (m := 2 ^ 31) (by omega) (Nat.pow_le_pow_right (by decide) (by decide)))
    · rintro a r _ ⟨s, y, rfl, h1, h2⟩ k1 hk1
      walk_at "rd"
      refine ⟨mul_r (by decide) (by decide), by decide, by decide, hk1 _ ⟨_, _, rfl, ?_⟩⟩
      exact fmod_pos (by decide)
theorem len63 {n : Nat} (h : n ≤ 1000) : Fit (n + 1) := Fit.of (by omega)
abbrev s__law_digits : Stmt := topS 12
theorem sc__law_digits : FnScope ["cell", "sizes", "total", "size", "row", "seed", "k", "rest", "twice"] ["cell", "sizes"] (defScope s__law_digits) := ⟨rfl, rfl, rfl, by decide +kernel, rfl, by decide +kernel, by decide +kernel⟩
def f__law_digits : FD := fun ds q => ∃ (c : Int) (ss : List Int), ds = [.int c, .list (ss.map .int)] ∧ ss.length ≤ 100 ∧ (∀ s ∈ ss, 0 < s ∧ s < 2 ^ 30) ∧ ∀ rs : List Int, InR rs ss → q (.own (rs.map .int))
theorem ok__law_digits {f fd} {k : Nat} (F : Fun K "_law_digits" "_law_digits" s__law_digits f fd) (hdg : base.NoDigits) (m_int : mg "int" = none) (m_len : mg "len" = none) (m_range : mg "range" = none) : FnG P w K mg base (k + 1) f fd ["cell", "sizes"] (SpD K 2 f__law_digits) := by
  refine fnD F sc__law_digits fun cdv A outer s H E gA hr => ?_
  have hu := hr.units
  have nd := sc__law_digits.nd
  refine ⟨_, (ss_cons (st_set (i := 2) nd de_int)
    (ss_cons (st_for (i_seq (dv 1)) (tg_name (i := 3) nd) (ss_one (st_set (i := 2) nd (de_op o_mul (bv 2) (bv 3)))))
    (ss_cons (st_setL (i := 4) nd (dl_lst da_nil))
    (ss_cons (st_if (dt_cmp o_ge (DE.toB (de_T c_int m_int (ab_cons (bv 0) ab_nil))) (DE.toB (de_op o_pow (DE.toB de_int) (DE.toB de_int)))) (ss_cons (st_set (i := 7) nd (de_op o_mod (DE.toB (de_T c_int m_int (ab_cons (DE.toB (de_op o_sub (DE.toB (de_T c_int m_int (ab_cons (bv 0) ab_nil))) (DE.toB (de_op o_pow (DE.toB de_int) (DE.toB de_int))))) ab_nil))) (bv 2)))
    (ss_cons (st_for (i_seq (dv 1)) (tg_name (i := 3) nd) (ss_cons (st_app (i := 4) (de_op o_mod (DE.toB (de_T c_int m_int (ab_cons (bv 7) ab_nil))) (bv 3)))
    (ss_one (st_set (i := 7) nd (de_op o_fdiv (DE.toB (de_T c_int m_int (ab_cons (bv 7) ab_nil))) (bv 3))))))
    (ss_one (st_retO 4)))) ss_nil)
    (ss_cons (st_set (i := 5) nd (de_op o_mod (DE.toB (de_T c_int m_int (ab_cons (bv 0) ab_nil))) (DE.toB de_int)))
    (ss_cons (st_for (i_range1 (de_B c_len m_len (ab_cons (bv 1) ab_nil)) m_range) (tg_name (i := 6) nd) (ss_cons (st_set (i := 5) nd (de_op o_mod (DE.toB (de_T c_int m_int (ab_cons (DE.toB (de_op o_add (DE.toB (de_op o_add (DE.toB (de_op o_mul (bv 5) (DE.toB de_int))) (DE.toB (de_op o_mul (DE.toB de_int) (bv 6))))) (DE.toB de_int))) ab_nil))) (DE.toB de_int)))
    (ss_cons (st_set (i := 8) nd (de_op o_mod (DE.toB (de_T c_int m_int (ab_cons (DE.toB (de_op o_mul (bv 5) (DE.toB (de_op o_add (DE.toB (de_op o_fdiv (bv 5) (DE.toB de_int))) (DE.toB de_int))))) ab_nil))) (DE.toB de_int)))
    (ss_one (st_app (i := 4) (de_op o_mod (DE.toB (de_T c_int m_int (ab_cons (DE.toB (de_op o_fdiv (bv 8) (DE.toB de_int))) ab_nil))) (DE.toB (de_ix x_ix (bv 1) (bv 6)))))))))
    (ss_one (st_retO 4)))))))), ?_⟩
  clear F nd hu hr gA E H s outer A cdv hdg m_int m_len m_range
  intro ds q hl hg
  obtain ⟨c, ss, rfl, hlen, hs, hq⟩ := hg
  show sSeq _ _ _ [some (.val (.int c)), some (.val (.list (ss.map .int))), none, none, none, none, none, none, none]
  refine sq_i fun k hk => ?_
  walk_at "rd"
  subst hk
  refine sq_i fun k hk => for_in fun W hW => ?_
  walk_at "rd"
  subst hW
  refine for_map (fun r ρ => (∀ s ∈ r, 0 < s ∧ s < 2 ^ 30) ∧ ∃ (t : Int) (y : Option DV), ρ = [some (.val (.int c)), some (.val (.list (ss.map .int))), some (.val (.int t)), y, none, none, none, none, none] ∧ 0 < t) ss ⟨hs, 1, none, rfl, by decide⟩ ?_ ?_
  · rintro _ ⟨-, t, y, rfl, h1⟩
    subst hk
    refine sq_i fun k hk => ?_
    walk_at "rd"
    subst hk
    refine sq_i fun k hk => if_n fun T hT => ?_
    walk_at "rd"
    refine ⟨by decide, fun h => ?_, fun h => ?_⟩
    · subst hT
      refine sq_i fun k hk => ?_
      walk_at "rd"
      refine ⟨by decide, by omega, ?_⟩
      subst hk
      refine sq_i fun k hk => for_in fun W hW => ?_
      walk_at "rd"
      subst hW
      refine for_map (fun r ρ => ∃ (rs done : List Int) (z : Int) (y : Option DV), ρ = [some (.val (.int c)), some (.val (.list (ss.map .int))), some (.val (.int t)), y, some (.own (rs.map .int)), none, none, some (.val (.int z)), none] ∧ ss = done ++ r ∧ InR rs done) ss ⟨[], [], _, y, rfl, rfl, trivial⟩ ?_ ?_
      · rintro _ ⟨rs, done, z, y, rfl, e, hr⟩
        subst hk
        walk_at "rd"
        rw [List.append_nil] at e
        subst e
        exact hq rs hr
      · rintro a r _ ⟨rs, done, z, y, rfl, e, hr⟩ k1 hk1
        have ha := hs a (by rw [e]; simp)
        refine sq_i fun k2 hk2 => ?_
        walk_at "rd"
        have := hr.length
        have h3 : done.length + (r.length + 1) = ss.length := by rw [e]; simp
        refine ⟨by rw [List.length_map]; exact len63 (by omega), by omega, ?_⟩
        subst hk2
        walk_at "rd"
        refine ⟨div_small ha.1 ha.2, hk1 _ ⟨rs ++ [z.fmod a], done ++ [a], z.fdiv a, _, by simp only [List.map_append, List.map_cons, List.map_nil]; rfl, by rw [e]; simp, hr.snoc (fmod_pos ha.1).1 (fmod_pos ha.1).2⟩⟩
    · subst hk
      refine sq_i fun k hk => ?_
      walk_at "rd"
      refine ⟨by decide, ?_⟩
      subst hk
      refine sq_i fun k hk => for_in fun W hW => ?_
      walk_at "rd"
      refine ⟨Rng.of (by omega) (by simp; omega), ?_⟩
      subst hW
      simp only [List.length_map, Int.toNat_natCast]
      refine for_up (fun i ρ => ∃ (rs : List Int) (z : Int) (y y2 y3 : Option DV), ρ = [some (.val (.int c)), some (.val (.list (ss.map .int))), some (.val (.int t)), y, some (.own (rs.map .int)), some (.val (.int z)), y2, none, y3] ∧ InR rs (ss.take i) ∧ 0 ≤ z ∧ z < 2147483648) 0 ss.length ⟨[], _, _, none, none, rfl, by simp [InR], (fmod_pos (by decide)).1, Int.lt_trans (fmod_pos (by decide)).2 (by decide)⟩ ?_ ?_
      · rintro _ ⟨rs, z, y, y2, y3, rfl, hr, h3, h4⟩
        subst hk
        walk_at "rd"
        rw [List.take_length] at hr
        exact hq rs hr
      · rintro i _ hi ⟨rs, z, y, y2, y3, rfl, hr, h3, h4⟩ k1 hk1
        walk_at "rd"
        simp only [Int.zero_add]
        refine sq_i fun k2 hk2 => ?_
        walk_at "rd"
        refine ⟨mul_r (by decide) (by decide), mul_r (by omega) (by omega), by decide, ?_⟩
        have hz := fmod_pos (a := z * 48271 + 974711 * (i : Int) + 12345) (b := 2147483647) (by decide)
        generalize (z * 48271 + 974711 * (i : Int) + 12345).fmod 2147483647 = z' at hz ⊢
        subst hk2
        refine sq_i fun k2 hk2 => ?_
        walk_at "rd"
        have hd : z'.fdiv 65537 = z' / 65537 := Int.fdiv_eq_ediv_of_nonneg _ (by decide)
        refine ⟨div_small (by decide) (by decide), ?_⟩
        rw [hd]
        refine ⟨mul_r (by omega) (by omega), by decide, ?_⟩
        subst hk2
        walk_at "rd"
        have hs' := List.getElem?_eq_getElem hi
        have hm := hs _ (List.getElem_mem hi)
        have := hr.length
        rw [List.length_take] at this
        refine ⟨by rw [List.length_map]; exact len63 (by omega), div_small (by decide) (by decide), ?_⟩
        refine gIx_N (d := .int ss[i]) (by rw [List.getElem?_map, hs']; rfl) ?_
        walk_at "rd"
        refine ⟨by omega, hk1 _ ⟨rs ++ [_], z', _, _, _, by simp only [List.map_append, List.map_cons, List.map_nil]; rfl, ?_, hz.1, by omega⟩⟩
        rw [List.take_add_one, hs']
        exact hr.snoc (fmod_pos hm.1).1 (fmod_pos hm.1).2
  · rintro a r _ ⟨h0, t, y, rfl, h1⟩ k1 hk1
    have ha := h0 a List.mem_cons_self
    walk_at "rd"
    exact ⟨mul_r (by omega) (by omega), hk1 _ ⟨fun s hs => h0 s (List.mem_cons_of_mem _ hs), _, _, rfl, Int.mul_pos h1 ha.1⟩⟩
abbrev s__law_gcd : Stmt := topS 13
theorem sc__law_gcd : FnScope ["one", "two", "left", "right", "rest"] ["one", "two"] (defScope s__law_gcd) := ⟨rfl, rfl, rfl, by decide +kernel, rfl, by decide +kernel, by decide +kernel⟩
def f__law_gcd : FD := fun ds q => ∃ a b : Int, ds = [.int a, .int b] ∧ q (.val (.int (Nat.gcd a.natAbs b.natAbs : Nat)))
theorem ok__law_gcd {f fd} {k : Nat} (F : Fun K "_law_gcd" "_law_gcd" s__law_gcd f fd) (hdg : base.NoDigits) (m_abs : mg "abs" = none) (m_int : mg "int" = none) : FnG P w K mg base (k + 1) f fd ["one", "two"] (SpD K 2 f__law_gcd) := by
  refine fnD F sc__law_gcd fun cdv A outer s H E gA hr => ?_
  have hu := hr.units
  have nd := sc__law_gcd.nd
  refine ⟨_, (ss_cons (st_set (i := 2) nd (de_B c_abs m_abs (ab_cons (bv 0) ab_nil)))
    (ss_cons (st_set (i := 3) nd (de_B c_abs m_abs (ab_cons (bv 1) ab_nil)))
    (ss_cons (st_while (dt_cmp (o_ne hu) (bv 3) (DE.toB de_int)) (ss_cons (st_set (i := 4) nd (de_op o_mod (DE.toB (de_T c_int m_int (ab_cons (bv 2) ab_nil))) (bv 3)))
    (ss_cons (st_set (i := 2) nd (dv 3))
    (ss_one (st_set (i := 3) nd (dv 4))))))
    (ss_one (st_ret (dv 2)))))), ?_⟩
  clear F nd hu hr gA E H s outer A cdv hdg m_abs m_int
  intro ds q hl hg
  obtain ⟨a, b, rfl, hq⟩ := hg
  have ab : ∀ x : Int, (if x < 0 then -x else x) = (x.natAbs : Int) := fun x => by omega
  show sSeq _ _ _ [some (.val (.int a)), some (.val (.int b)), none, none, none]
  refine sq_i fun k hk => ?_
  walk_at "rd"
  subst hk
  refine sq_i fun k hk => ?_
  walk_at "rd"
  rw [ab, ab]
  subst hk
  refine sq_i fun k hk => while_i (fun m ρ => ∃ (x y : Nat) (z : Option DV), ρ = [some (.val (.int a)), some (.val (.int b)), some (.val (.int x)), some (.val (.int y)), z] ∧ y = m ∧ Nat.gcd x y = Nat.gcd a.natAbs b.natAbs) b.natAbs ⟨_, _, none, rfl, rfl, rfl⟩ ?_
  rintro _ _ ⟨x, y, z, rfl, rfl, e⟩ k1 hk1
  walk_at "rd"
  refine ⟨fun h => ?_, fun h => ?_⟩
  · refine sq_i fun k2 hk2 => ?_
    walk_at "rd"
    refine ⟨h, ?_⟩
    subst hk2
    refine sq_i fun k2 hk2 => ?_
    walk_at "rd"
    subst hk2
    walk_at "rd"
    subst hk1
    have hm : (x : Int).fmod (y : Int) = ((x % y : Nat) : Int) := by rw [Int.fmod_eq_emod_of_nonneg _ (by omega)]; rfl
    rw [hm]
    have h' : 0 < y := by omega
    refine ⟨x % y, Nat.mod_lt _ h', y, x % y, _, rfl, rfl, ?_⟩
    rw [← e, Nat.gcd_comm x y, Nat.gcd_rec y x, Nat.gcd_comm]
  · subst hk
    walk_at "rd"
    have h' : y = 0 := by omega
    subst h'
    rw [Nat.gcd_zero_right] at e
    rw [e]
    exact hq

/-- the whole root, or None -/
def rootD (n : Int) : D := if n < 0 then .none else if (Float64.isqrt n.toNat : Int) * (Float64.isqrt n.toNat : Int) = n then .int (Float64.isqrt n.toNat : Nat) else .none
theorem root_le {n r : Nat} (h : IsRoot n r) : r ≤ n := by
  rcases Nat.eq_zero_or_pos r with z | z
  · omega
  · exact Nat.le_trans (Nat.le_mul_of_pos_right r z) h.1
def sgnD (n : Int) : Int := if 0 < n then 1 else if n < 0 then -1 else 0
/-- t/u is top/bot in lowest terms -/
def IsRat (t u top bot : Int) : Prop := 1 ≤ u ∧ t * bot = top * u ∧ Int.gcd t u = 1
def Pr (x : D) (t u : Int) : Prop := x = .tuple [.int t, .int u] ∨ x = .list [.int t, .int u]
theorem dvd_cop {k m n : Int} (hd : k ∣ m * n) (h : Int.gcd k m = 1) : k ∣ n := by
  have h' : Nat.Coprime k.natAbs m.natAbs := h
  have := Int.natAbs_dvd_natAbs.mpr hd
  rw [Int.natAbs_mul] at this
  exact Int.natAbs_dvd_natAbs.mp (h'.dvd_of_dvd_mul_left this)
theorem IsRat.congr {t u top bot top' bot' : Int} (h : IsRat t u top bot) (e : top * bot' = top' * bot) (hb : bot ≠ 0) : IsRat t u top' bot' := by
  obtain ⟨h1, h2, h3⟩ := h
  refine ⟨h1, ?_, h3⟩
  have : bot * (t * bot') = bot * (top' * u) := by grind
  exact Int.eq_of_mul_eq_mul_left hb this
theorem IsRat.dvd {t u top bot : Int} (h : IsRat t u top bot) : u ∣ bot := by
  obtain ⟨h1, h2, h3⟩ := h
  have : u ∣ t * bot := ⟨top, by rw [h2, Int.mul_comm]⟩
  exact dvd_cop this (by rw [Int.gcd_comm]; exact h3)
theorem IsRat.uniq {t u t' u' top bot : Int} (h : IsRat t u top bot) (g : IsRat t' u' top bot) (hb : bot ≠ 0) : t = t' ∧ u = u' := by
  have e : t * u' = t' * u := by
    have h2 := h.2.1
    have g2 := g.2.1
    have : bot * (t * u') = bot * (t' * u) := by grind
    exact Int.eq_of_mul_eq_mul_left hb this
  have d1 : u ∣ u' := dvd_cop (k := u) (m := t) ⟨t', by rw [e, Int.mul_comm]⟩ (by rw [Int.gcd_comm]; exact h.2.2)
  have d2 : u' ∣ u := dvd_cop (k := u') (m := t') ⟨t, by rw [← e, Int.mul_comm]⟩ (by rw [Int.gcd_comm]; exact g.2.2)
  have hu := h.1
  have hu' := g.1
  have l1 := Int.le_of_dvd (by omega) d1
  have l2 := Int.le_of_dvd (by omega) d2
  have eu : u = u' := by omega
  subst eu
  refine ⟨?_, rfl⟩
  have : u * t = u * t' := by grind
  exact Int.eq_of_mul_eq_mul_left (by omega) this
theorem IsRat.le {t u top bot : Int} (h : IsRat t u top bot) (hb : bot ≠ 0) : t.natAbs ≤ top.natAbs ∧ u.natAbs ≤ bot.natAbs := by
  obtain ⟨c, hc⟩ := h.dvd
  have hu := h.1
  have h2 := h.2.1
  have hc0 : c ≠ 0 := fun z => hb (by rw [hc, z, Int.mul_zero])
  have ht : t * c = top := by
    have : u * (t * c) = u * top := by grind
    exact Int.eq_of_mul_eq_mul_left (by omega) this
  refine ⟨?_, ?_⟩
  · rw [← ht, Int.natAbs_mul]
    exact Nat.le_mul_of_pos_right _ (by omega)
  · rw [hc, Int.natAbs_mul]
    exact Nat.le_mul_of_pos_right _ (by omega)
theorem IsRat.bits {t u top bot : Int} {m n : Nat} (h : IsRat t u top bot) (hb : bot ≠ 0) (h1 : intBits top ≤ m) (h2 : intBits bot ≤ n) : intBits t ≤ m ∧ intBits u ≤ n := by
  obtain ⟨a, b⟩ := h.le hb
  exact ⟨intBits_le_iff.mpr (Nat.lt_of_le_of_lt a (intBits_le_iff.mp h1)), intBits_le_iff.mpr (Nat.lt_of_le_of_lt b (intBits_le_iff.mp h2))⟩
theorem natAbs_fdiv' {n g : Int} (hg : g ≠ 0) (h : g.natAbs ∣ n.natAbs) : n = n.fdiv g * g := by
  have : g ∣ n := Int.natAbs_dvd_natAbs.mp h
  obtain ⟨c, rfl⟩ := this
  rw [Int.mul_comm g c, Int.mul_fdiv_cancel _ hg]
theorem ratio_ok {top bot g : Int} (hb : bot ≠ 0) (hg : g.natAbs = Nat.gcd top.natAbs bot.natAbs) (hs : 0 < bot ↔ 0 < g) : IsRat (top.fdiv g) (bot.fdiv g) top bot := by
  have g0 : 0 < Nat.gcd top.natAbs bot.natAbs := Nat.gcd_pos_of_pos_right _ (by omega)
  have hg0 : g ≠ 0 := by omega
  have e1 := natAbs_fdiv' (n := top) hg0 (by rw [hg]; exact Nat.gcd_dvd_left _ _)
  have e2 := natAbs_fdiv' (n := bot) hg0 (by rw [hg]; exact Nat.gcd_dvd_right _ _)
  generalize top.fdiv g = t at e1 ⊢
  generalize bot.fdiv g = u at e2 ⊢
  refine ⟨?_, by rw [e1, e2]; grind, ?_⟩
  · rcases Int.lt_or_gt_of_ne hg0 with h | h
    · have : ¬ 0 < bot := fun z => by have := hs.mp z; omega
      apply Classical.byContradiction
      intro q
      have : 0 ≤ u * g := Int.mul_nonneg_of_nonpos_of_nonpos (by omega) (by omega)
      omega
    · have : 0 < bot := hs.mpr h
      apply Classical.byContradiction
      intro q
      have : u * g ≤ 0 := Int.mul_nonpos_of_nonpos_of_nonneg (by omega) (by omega)
      omega
  · have : Nat.gcd (t.natAbs * g.natAbs) (u.natAbs * g.natAbs) = g.natAbs := by
      rw [← Int.natAbs_mul, ← Int.natAbs_mul, ← e1, ← e2, hg]
    rw [Nat.gcd_mul_right] at this
    show Nat.gcd t.natAbs u.natAbs = 1
    have h1 : Nat.gcd t.natAbs u.natAbs * g.natAbs = 1 * g.natAbs := by omega
    exact Nat.eq_of_mul_eq_mul_right (by omega) h1
abbrev s_whole_sign : Stmt := topS 1
theorem sc_whole_sign : FnScope ["number"] ["number"] (defScope s_whole_sign) := ⟨rfl, rfl, rfl, by decide +kernel, rfl, by decide +kernel, by decide +kernel⟩
def f_whole_sign : FD := fun ds q => ∃ n : Int, ds = [.int n] ∧ q (.val (.int (sgnD n)))
theorem ok_whole_sign {f fd} {k : Nat} (F : Fun K "whole_sign" "whole_sign" s_whole_sign f fd) (hdg : base.NoDigits) : FnG P w K mg base (k + 1) f fd ["number"] (SpD K 1 f_whole_sign) := by
  refine fnD F sc_whole_sign fun cdv A outer s H E gA hr => ?_
  have hu := hr.units
  have nd := sc_whole_sign.nd
  refine ⟨_, (ss_cons (st_if (dt_cmp o_gt (bv 0) (DE.toB de_int)) (ss_one (st_ret de_int)) ss_nil)
    (ss_cons (st_if (dt_cmp o_lt (bv 0) (DE.toB de_int)) (ss_one (st_ret (de_un u_neg (DE.toB de_int)))) ss_nil)
    (ss_one (st_ret de_int)))), ?_⟩
  clear F nd hu hr gA E H s outer A cdv hdg 
  intro ds q hl hg
  obtain ⟨n, rfl, hq⟩ := hg
  show sSeq _ _ _ [some (.val (.int n))]
  refine sq_i fun k hk => if_n fun T hT => ?_
  walk_at "rd"
  refine ⟨fun h => ?_, fun h => ?_⟩
  · subst hT
    walk_at "rd"
    simpa [sgnD, h] using hq
  · subst hk
    refine sq_i fun k hk => if_n fun T hT => ?_
    walk_at "rd"
    refine ⟨fun h2 => ?_, fun h2 => ?_⟩
    · subst hT
      walk_at "rd"
      simpa [sgnD, h, h2] using hq
    · subst hk
      walk_at "rd"
      simpa [sgnD, h, h2] using hq
abbrev s_compare_ratios : Stmt := topS 3
theorem sc_compare_ratios : FnScope ["one", "two"] ["one", "two"] (defScope s_compare_ratios) := ⟨rfl, rfl, rfl, by decide +kernel, rfl, by decide +kernel, by decide +kernel⟩
def f_compare_ratios : FD := fun ds q => ∃ (x y : D) (a b c d : Int), ds = [x, y] ∧ Pr x a b ∧ Pr y c d ∧ intBits a ≤ 4000 ∧ intBits b ≤ 4000 ∧ intBits c ≤ 4000 ∧ intBits d ≤ 4000 ∧ q (.val (.int (sgnD (a * d - c * b))))
theorem ok_compare_ratios {f fd} {k : Nat} (F : Fun K "compare_ratios" "compare_ratios" s_compare_ratios f fd) (hdg : base.NoDigits) (r_whole_sign : Ready P w K mg base "whole_sign" 1 k f_whole_sign) : FnG P w K mg base (k + 1) f fd ["one", "two"] (SpD K 2 f_compare_ratios) := by
  refine fnD F sc_compare_ratios fun cdv A outer s H E gA hr => ?_
  have hu := hr.units
  have nd := sc_compare_ratios.nd
  refine ⟨_, (ss_one (st_ret (r_whole_sign.toE gA hr (da_cons (de_op o_sub (DE.toB (de_op o_mul (DE.toB (de_ix x_ix (bv 0) (DE.toB de_int))) (DE.toB (de_ix x_ix (bv 1) (DE.toB de_int))))) (DE.toB (de_op o_mul (DE.toB (de_ix x_ix (bv 1) (DE.toB de_int))) (DE.toB (de_ix x_ix (bv 0) (DE.toB de_int)))))) da_nil)))), ?_⟩
  clear F nd hu hr gA E H s outer A cdv hdg r_whole_sign
  intro ds q hl hg
  obtain ⟨x, y, a, b, c, d, rfl, hx, hy, ba, bb, bc, bd, hq⟩ := hg
  show sRet _ _ [some (.val x), some (.val y)]
  have mk : ∀ x y : Int, intBits x ≤ 4000 → intBits y ≤ 4000 → MulOk x y := fun x y h h' => MulOk.of_le h h' (by decide)
  rcases hx with rfl | rfl <;> rcases hy with rfl | rfl <;> (walk_at "rd"; exact ⟨mk _ _ ba bd, mk _ _ bc bb, _, rfl, hq⟩)

def rrD (a b : Int) : D := match rootD a, rootD b with
  | .int t, .int u => .tuple [.int t, .int u]
  | _, _ => .none
theorem rootD_cases (n : Int) : rootD n = .none ∨ ∃ r : Nat, rootD n = .int r ∧ (r * r : Nat) = n := by
  unfold rootD
  split
  · exact .inl rfl
  · split
    · rename_i h
      exact .inr ⟨_, rfl, by simpa using h⟩
    · exact .inl rfl
/-! the simplest fraction between two: p/q above a/b, below the end R (none: without end), its parents outside -/
def Above (p q : Int) : Option (Int × Int) → Prop
  | none => True
  | some (c, d) => p * d < c * q
def ParR (rt rb : Int) : Option (Int × Int) → Prop
  | none => rb = 0
  | some (c, d) => c * rb ≤ rt * d
def Best (p q a b : Int) (R : Option (Int × Int)) : Prop := ∃ lt lb rt rb : Int, p = lt + rt ∧ q = lb + rb ∧ p * lb - lt * q = 1 ∧ 0 ≤ lt ∧ 0 ≤ lb ∧ 0 ≤ rt ∧ 0 ≤ rb ∧ 1 ≤ q ∧ a * q < p * b ∧ Above p q R ∧ lt * b ≤ a * lb ∧ ParR rt rb R
theorem lt_of_sub {x y z w : Int} (e : x - y = z - w) (h : w < z) : y < x := by omega
theorem le_of_sub {x y z w : Int} (e : x - y = z - w) (h : w ≤ z) : y ≤ x := by omega
def PosR : Option (Int × Int) → Prop
  | none => True
  | some (c, d) => 0 < c ∧ 0 < d
theorem best_base {a b : Int} {R : Option (Int × Int)} (ha : 0 ≤ a) (hb : 0 < b) (hP : PosR R) (hR : Above (a / b + 1) 1 R) : Best (a / b + 1) 1 a b R := by
  have e := Int.mul_ediv_add_emod a b
  have h1 := Int.emod_nonneg a (by omega : b ≠ 0)
  have h2 := Int.emod_lt_of_pos a hb
  have h0 : 0 ≤ a / b := Int.ediv_nonneg ha (by omega)
  refine ⟨a / b, 1, 1, 0, rfl, rfl, by omega, h0, by omega, by omega, by omega, by omega, ?_, hR, ?_, ?_⟩
  · rw [Int.add_mul, Int.mul_comm (a / b) b]; omega
  · rw [Int.mul_comm (a / b) b]; omega
  · cases R with
    | none => rfl
    | some r =>
      obtain ⟨c, d⟩ := r
      obtain ⟨_, h⟩ : 0 < c ∧ 0 < d := hP
      show c * 0 ≤ 1 * d
      omega
theorem best_step {p q a b c d w r s : Int} (hw : 0 ≤ w) (ha : a = w * b + r) (hc : c = w * d + s) (hb : 0 < b) (hd : 0 < d) (hr0 : 0 ≤ r) (hs : 0 < s) (R' : Option (Int × Int)) (hR : (0 < r ∧ R' = some (b, r)) ∨ (r = 0 ∧ R' = none)) (h : Best p q d s R') : Best (w * p + q) p a b (some (c, d)) := by
  obtain ⟨lt, lb, rt, rb, e1, e2, e3, n1, n2, n3, n4, n5, l1, l2, l3, l4⟩ := h
  have hp : 1 ≤ p := by
    apply Classical.byContradiction
    intro z
    have : p * s ≤ 0 := Int.mul_nonpos_of_nonpos_of_nonneg (by omega) (by omega)
    have : 0 ≤ d * q := Int.mul_nonneg (by omega) (by omega)
    omega
  have g1 : r * p < q * b := by
    rcases hR with ⟨_, rfl⟩ | ⟨rfl, rfl⟩
    · have l2 : p * r < b * q := l2
      rw [Int.mul_comm r p, Int.mul_comm q b]; exact l2
    · have : 0 < q * b := Int.mul_pos (by omega) hb
      omega
  have g2 : rb * b ≤ rt * r := by
    rcases hR with ⟨_, rfl⟩ | ⟨rfl, rfl⟩
    · have l4 : b * rb ≤ rt * r := l4
      rw [Int.mul_comm rb b]; exact l4
    · have l4 : rb = 0 := l4
      rw [l4]; omega
  refine ⟨w * rt + rb, rt, w * lt + lb, lt, by grind, by omega, by grind, ?_, n3, ?_, n1, hp, ?_, ?_, ?_, ?_⟩
  · have := Int.mul_nonneg hw n3; omega
  · have := Int.mul_nonneg hw n1; omega
  · exact lt_of_sub (z := q * b) (w := r * p) (by grind) g1
  · exact lt_of_sub (z := p * s) (w := d * q) (by grind) l1
  · exact le_of_sub (z := rt * r) (w := rb * b) (by grind) g2
  · exact le_of_sub (z := d * lb) (w := lt * s) (by grind) l3
/-- how great it is -/
theorem best_le {p q a b c d : Int} (hb : 0 < b) (hd : 0 < d) (h : Best p q a b (some (c, d))) : q ≤ b + d := by
  obtain ⟨lt, lb, rt, rb, e1, e2, e3, n1, n2, n3, n4, n5, l1, l2, l3, l4⟩ := h
  have l2 : p * d < c * q := l2
  have l4 : c * rb ≤ rt * d := l4
  have i1 : b = lb * (p * b - a * q) + q * (a * lb - lt * b) := by grind
  have i2 : d = rb * (c * q - p * d) + q * (rt * d - c * rb) := by grind
  have j1 := Int.mul_nonneg n2 (show 0 ≤ p * b - a * q - 1 by omega)
  have j2 := Int.mul_nonneg (show 0 ≤ q by omega) (show 0 ≤ a * lb - lt * b by omega)
  have j3 := Int.mul_nonneg n4 (show 0 ≤ c * q - p * d - 1 by omega)
  have j4 := Int.mul_nonneg (show 0 ≤ q by omega) (show 0 ≤ rt * d - c * rb by omega)
  rw [Int.mul_sub, Int.mul_one] at j1 j3
  omega
def foldW (ws : List Int) (t : Int × Int) : Int × Int := ws.foldr (fun w t => (w * t.1 + t.2, t.1)) t
theorem foldW_snoc (ws : List Int) (w : Int) (t : Int × Int) : foldW (ws ++ [w]) t = foldW ws (w * t.1 + t.2, t.1) := by simp [foldW]
/-- the end, as data -/
def optD : Option (Int × Int) → D
  | none => .none
  | some (c, d) => .tuple [.int c, .int d]
abbrev s_whole_fits : Stmt := topS 7
theorem sc_whole_fits : FnScope ["left", "right"] ["left", "right"] (defScope s_whole_fits) := ⟨rfl, rfl, rfl, by decide +kernel, rfl, by decide +kernel, by decide +kernel⟩
def f_whole_fits : FD := fun ds q => ∃ (a b : Int) (R : Option (Int × Int)), ds = [.tuple [.int a, .int b], optD R] ∧ 0 ≤ a ∧ 0 < b ∧ PosR R ∧ intBits a ≤ 1500 ∧ intBits b ≤ 1500 ∧ (∀ c d, R = some (c, d) → intBits c ≤ 1500 ∧ intBits d ≤ 1500) ∧ ∀ t : Bool, (t = true ↔ Above (a / b + 1) 1 R) → q (.val (.bool t))
theorem ok_whole_fits {f fd} {k : Nat} (F : Fun K "whole_fits" "whole_fits" s_whole_fits f fd) (hdg : base.NoDigits) (r_compare_ratios : Ready P w K mg base "compare_ratios" 2 k f_compare_ratios) : FnG P w K mg base (k + 1) f fd ["left", "right"] (SpD K 2 f_whole_fits) := by
  refine fnD F sc_whole_fits fun cdv A outer s H E gA hr => ?_
  have hu := hr.units
  have nd := sc_whole_fits.nd
  refine ⟨_, (ss_cons (st_if (dt_cmp o_is (bv 1) (DE.toB de_non)) (ss_one (st_ret de_bl)) ss_nil)
    (ss_one (st_ret (de_cmp o_lt (DE.toB (r_compare_ratios.toE gA hr (da_cons (de_tup (da_cons (de_op o_add (DE.toB (de_op o_fdiv (DE.toB (de_ix x_ix (bv 0) (DE.toB de_int))) (DE.toB (de_ix x_ix (bv 0) (DE.toB de_int))))) (DE.toB de_int)) (da_cons de_int da_nil))) (da_cons (dv 1) da_nil)))) (DE.toB de_int))))), ?_⟩
  clear F nd hu hr gA E H s outer A cdv hdg r_compare_ratios
  intro ds q hl hg
  obtain ⟨a, b, R, rfl, ha, hb, hP, ba, bb, hR, hq⟩ := hg
  show sSeq _ _ _ [some (.val (.tuple [.int a, .int b])), some (.val (optD R))]
  refine sq_i fun k hk => if_n fun T hT => ?_
  cases R with
  | none =>
    simp only [optD] at hT ⊢
    walk_at "rd"
    subst hT
    walk_at "rd"
    exact hq true (by simp [Above])
  | some r =>
    obtain ⟨c, d⟩ := r
    obtain ⟨bc, bd⟩ := hR c d rfl
    simp only [optD] at hT ⊢
    walk_at "rd"
    subst hk
    walk_at "rd"
    have hf : a.fdiv b = a / b := Int.fdiv_eq_ediv_of_nonneg _ (by omega)
    have bq : intBits (a / b + 1) ≤ 1501 := by
      rw [← hf]
      exact Nat.le_trans (intBits_add_le (intBits_fdiv_le ba) (n := 1) (by decide)) (by decide)
    refine ⟨⟨by omega, PyProof.noPylong_of_log2 (Nat.lt_trans (log2_lt_of (intBits_le_iff.mp bb) (by decide)) (by decide))⟩, ?_⟩
    rw [hf]
    refine ⟨_, _, _, _, _, _, rfl, .inl rfl, .inl rfl, Nat.le_trans bq (by decide), by decide, Nat.le_trans bc (by decide), Nat.le_trans bd (by decide), ?_⟩
    walk_at "rd"
    refine hq _ ?_
    rw [decide_eq_true_iff]
    show _ ↔ (a / b + 1) * d < c * 1
    generalize (a / b + 1) * d = x
    unfold sgnD
    constructor
    · intro h
      split at h
      · omega
      · split at h
        · omega
        · omega
    · intro h
      rw [if_neg (by omega), if_pos (by omega)]
      decide
abbrev s_fold_wholes : Stmt := topS 8
theorem sc_fold_wholes : FnScope ["wholes", "last", "top", "bottom", "whole"] ["wholes", "last"] (defScope s_fold_wholes) := ⟨rfl, rfl, rfl, by decide +kernel, rfl, by decide +kernel, by decide +kernel⟩
def f_fold_wholes : FD := fun ds q => ∃ (ws : List Int) (l : Int), ds = [.list (ws.map .int), .int l] ∧ (∀ w ∈ ws, intBits w ≤ 1600) ∧ (∀ vs us : List Int, ws = vs ++ us → intBits (foldW us (l, 1)).1 ≤ 4000) ∧ q (.val (.tuple [.int (foldW ws (l, 1)).1, .int (foldW ws (l, 1)).2]))
theorem ok_fold_wholes {f fd} {k : Nat} (F : Fun K "fold_wholes" "fold_wholes" s_fold_wholes f fd) (hdg : base.NoDigits) (m_reversed : mg "reversed" = none) : FnG P w K mg base (k + 1) f fd ["wholes", "last"] (SpD K 2 f_fold_wholes) := by
  refine fnD F sc_fold_wholes fun cdv A outer s H E gA hr => ?_
  have hu := hr.units
  have nd := sc_fold_wholes.nd
  refine ⟨_, (ss_cons (st_par (i := 2) (j := 3) nd (dv 1) de_int)
    (ss_cons (st_for (i_rev (dv 0) m_reversed) (tg_name (i := 4) nd) (ss_one (st_par (i := 2) (j := 3) nd (de_op o_add (DE.toB (de_op o_mul (bv 4) (bv 2))) (bv 3)) (dv 2))))
    (ss_one (st_ret (de_tup (da_cons (dv 2) (da_cons (dv 3) da_nil))))))), ?_⟩
  clear F nd hu hr gA E H s outer A cdv hdg m_reversed
  intro ds q hl hg
  obtain ⟨ws, l, rfl, hw, hf, hq⟩ := hg
  show sSeq _ _ _ [some (.val (.list (ws.map .int))), some (.val (.int l)), none, none, none]
  refine sq_i fun k hk => ?_
  walk_at "rd"
  subst hk
  refine sq_i fun k hk => for_in fun W hW => ?_
  walk_at "rd"
  subst hW
  rw [← List.map_reverse]
  refine for_map (fun r ρ => ∃ (us : List Int) (y : Option DV), ρ = [some (.val (.list (ws.map .int))), some (.val (.int l)), some (.val (.int (foldW us (l, 1)).1)), some (.val (.int (foldW us (l, 1)).2)), y] ∧ ws = r.reverse ++ us) ws.reverse ⟨[], none, rfl, by simp⟩ ?_ ?_
  · rintro _ ⟨us, y, rfl, e⟩
    subst hk
    walk_at "rd"
    have e : ws = us := by simpa using e
    rw [← e]
    exact hq
  · rintro w r _ ⟨us, y, rfl, e⟩ k1 hk1
    have e' : ws = r.reverse ++ (w :: us) := by rw [e]; simp
    have h1 := hf (r.reverse ++ [w]) us (by rw [e']; simp)
    have h2 := hw w (by rw [e']; simp)
    walk_at "rd"
    exact ⟨MulOk.of_le h2 h1 (by decide), hk1 _ ⟨w :: us, _, rfl, e'⟩⟩
theorem foldW_append (vs us : List Int) (t : Int × Int) : foldW (vs ++ us) t = foldW vs (foldW us t) := by simp [foldW]
theorem foldW_nn : ∀ (vs : List Int) (t : Int × Int), (∀ w ∈ vs, 0 ≤ w) → 0 ≤ t.1 → 0 ≤ t.2 → 0 ≤ (foldW vs t).1 ∧ 0 ≤ (foldW vs t).2 ∧ max t.1 t.2 ≤ max (foldW vs t).1 (foldW vs t).2
  | [], t, _, h1, h2 => ⟨h1, h2, Int.le_refl _⟩
  | v :: vs, t, hv, h1, h2 => by
    obtain ⟨i1, i2, i3⟩ := foldW_nn vs t (fun w hw => hv w (List.mem_cons_of_mem _ hw)) h1 h2
    have hv0 := hv v List.mem_cons_self
    show 0 ≤ v * (foldW vs t).1 + (foldW vs t).2 ∧ 0 ≤ (foldW vs t).1 ∧ max t.1 t.2 ≤ max (v * (foldW vs t).1 + (foldW vs t).2) (foldW vs t).1
    have := Int.mul_nonneg hv0 i1
    omega
theorem bits_of_le {x m : Int} {k : Nat} (h0 : 0 ≤ x) (h : x ≤ m) (hm : intBits m ≤ k) : intBits x ≤ k := intBits_le_of_natAbs (by omega) hm
theorem half_prod {a b c d r s : Int} (hb : 0 < b) (hd : 0 < d) (hr : 0 ≤ r) (hs : 0 < s) (h1 : 2 * r ≤ a) (h2 : s ≤ c) : 2 * (d * s * (b * r)) ≤ a * b * (c * d) := by
  have m1 : 2 * r * s ≤ a * c := Int.mul_le_mul h1 h2 (by omega) (by omega)
  have m2 := Int.mul_le_mul_of_nonneg_left m1 (Int.le_of_lt (Int.mul_pos hb hd))
  exact le_of_sub (z := b * d * (a * c)) (w := b * d * (2 * r * s)) (by grind) m2
theorem two_pp (p : Nat) : 0 < (2 : Int) ^ p := Int.pow_pos (by decide)
theorem len_bound {n : Nat} {X M : Int} (hX : 1 ≤ X) (h : (2 : Int) ^ n * X ≤ 2 * (M * M * (M * M))) (hM : intBits M ≤ 703) : n ≤ 4000 := by
  apply Classical.byContradiction
  intro q
  have p0 := two_pp n
  have h1 : (2 : Int) ^ n * 1 ≤ (2 : Int) ^ n * X := Int.mul_le_mul_of_nonneg_left hX (by omega)
  have b1 : intBits (2 * (M * M * (M * M))) ≤ 2 + (703 + 703 + (703 + 703)) := intBits_mul_le (by decide) (intBits_mul_le (intBits_mul_le hM hM) (intBits_mul_le hM hM))
  have b2 := intBits_le_iff.mp b1
  have e : (2 : Int) ^ n = ((2 ^ n : Nat) : Int) := by simp
  rw [e] at h1 h p0
  have h3 : 2 ^ n < 2 ^ (2 + (703 + 703 + (703 + 703))) := by omega
  have := (Nat.pow_lt_pow_iff_right (by decide)).mp h3
  omega
def denR : Option (Int × Int) → Nat
  | none => 0
  | some (_, d) => d.toNat
abbrev s_simplest_positive : Stmt := topS 6
theorem sc_simplest_positive : FnScope ["low", "high", "left", "right", "wholes", "whole", "rest", "after"] ["low", "high"] (defScope s_simplest_positive) := ⟨rfl, rfl, rfl, by decide +kernel, rfl, by decide +kernel, by decide +kernel⟩
def f_simplest_positive : FD := fun ds q => ∃ (x y : D) (a b c d : Int), ds = [x, y] ∧ Pr x a b ∧ Pr y c d ∧ 0 ≤ a ∧ 0 < b ∧ 0 < c ∧ 0 < d ∧ a * d < c * b ∧ intBits a ≤ 700 ∧ intBits b ≤ 700 ∧ intBits c ≤ 700 ∧ intBits d ≤ 700 ∧ ∀ p q', Best p q' a b (some (c, d)) → q (.val (.tuple [.int p, .int q']))
theorem ok_simplest_positive {f fd} {k : Nat} (F : Fun K "simplest_positive" "simplest_positive" s_simplest_positive f fd) (hdg : base.NoDigits) (r_whole_fits : Ready P w K mg base "whole_fits" 2 k f_whole_fits) (r_fold_wholes : Ready P w K mg base "fold_wholes" 2 k f_fold_wholes) : FnG P w K mg base (k + 1) f fd ["low", "high"] (SpD K 2 f_simplest_positive) := by
  refine fnD F sc_simplest_positive fun cdv A outer s H E gA hr => ?_
  have hu := hr.units
  have nd := sc_simplest_positive.nd
  refine ⟨_, (ss_cons (st_par (i := 2) (j := 3) nd (de_tup (da_cons (de_ix x_ix (bv 0) (DE.toB de_int)) (da_cons (de_ix x_ix (bv 0) (DE.toB de_int)) da_nil))) (de_tup (da_cons (de_ix x_ix (bv 1) (DE.toB de_int)) (da_cons (de_ix x_ix (bv 1) (DE.toB de_int)) da_nil))))
    (ss_cons (st_setL (i := 4) nd (dl_lst da_nil))
    (ss_cons (st_while (dt_not (dt_val (r_whole_fits.toE gA hr (da_cons (dv 2) (da_cons (dv 3) da_nil))))) (ss_cons (st_set (i := 5) nd (de_op o_fdiv (DE.toB (de_ix x_ix (bv 2) (DE.toB de_int))) (DE.toB (de_ix x_ix (bv 2) (DE.toB de_int)))))
    (ss_cons (st_app (i := 4) (dv 5))
    (ss_cons (st_set (i := 6) nd (de_op o_sub (DE.toB (de_ix x_ix (bv 2) (DE.toB de_int))) (DE.toB (de_op o_mul (bv 5) (DE.toB (de_ix x_ix (bv 2) (DE.toB de_int)))))))
    (ss_cons (st_set (i := 7) nd de_non)
    (ss_cons (st_if (dt_cmp o_gt (bv 6) (DE.toB de_int)) (ss_one (st_set (i := 7) nd (de_tup (da_cons (de_ix x_ix (bv 2) (DE.toB de_int)) (da_cons (dv 6) da_nil))))) ss_nil)
    (ss_one (st_par (i := 2) (j := 3) nd (de_tup (da_cons (de_ix x_ix (bv 3) (DE.toB de_int)) (da_cons (de_op o_sub (DE.toB (de_ix x_ix (bv 3) (DE.toB de_int))) (DE.toB (de_op o_mul (bv 5) (DE.toB (de_ix x_ix (bv 3) (DE.toB de_int)))))) da_nil))) (dv 7)))))))))
    (ss_one (st_ret (DE.vw (r_fold_wholes.toE gA hr (da_cons (dv 4) (da_cons (de_op o_add (DE.toB (de_op o_fdiv (DE.toB (de_ix x_ix (bv 2) (DE.toB de_int))) (DE.toB (de_ix x_ix (bv 2) (DE.toB de_int))))) (DE.toB de_int)) da_nil))))))))), ?_⟩
  clear F nd hu hr gA E H s outer A cdv hdg r_whole_fits r_fold_wholes
  intro ds q hl hg
  obtain ⟨x, y, a, b, c, d, rfl, hx, hy, ha, hb, hc, hd, hlt, ba, bb, bc, bd, hq⟩ := hg
  obtain ⟨M, hM⟩ : ∃ M, M = a + b + (c + d) := ⟨_, rfl⟩
  have bM : intBits M ≤ 703 := by
    rw [hM]
    exact Nat.le_trans (intBits_add_le (intBits_add_le ba bb) (intBits_add_le bc bd)) (by decide)
  have up : ∀ x : Int, 0 ≤ x → x ≤ M → intBits x ≤ 703 := fun x h h' => bits_of_le h h' bM
  show sSeq _ _ _ [some (.val x), some (.val y), none, none, none, none, none, none]
  refine sq_i fun k hk => ?_
  have fin : k [some (.val x), some (.val y), some (.val (.tuple [.int a, .int b])), some (.val (.tuple [.int c, .int d])), none, none, none, none] := by
    subst hk
    refine sq_i fun k hk => ?_
    walk_at "rd"
    subst hk
    refine sq_i fun k hk => while_i (fun m ρ => ∃ (a1 b1 : Int) (R : Option (Int × Int)) (ws : List Int) (y5 y6 y7 : Option DV), ρ = [some (.val x), some (.val y), some (.val (.tuple [.int a1, .int b1])), some (.val (optD R)), some (.own (ws.map .int)), y5, y6, y7] ∧
      b1.toNat + denR R = m ∧ 0 ≤ a1 ∧ a1 ≤ M ∧ 0 < b1 ∧ b1 ≤ M ∧ PosR R ∧ (∀ c1 d1, R = some (c1, d1) → c1 ≤ M ∧ d1 ≤ M ∧ a1 * d1 < c1 * b1) ∧ (∀ w ∈ ws, 0 ≤ w ∧ w ≤ M) ∧
      (ws = [] ∨ (b1 ≤ a1 ∧ ∀ c1 d1, R = some (c1, d1) → (2 : Int) ^ ws.length * (a1 * b1 * (c1 * d1)) ≤ 2 * (M * M * (M * M)))) ∧
      ∀ p q', Best p q' a1 b1 R → Best (foldW ws (p, q')).1 (foldW ws (p, q')).2 a b (some (c, d))) _ ⟨a, b, some (c, d), [], none, none, none, rfl, rfl, ha, by omega, hb, by omega, ⟨hc, hd⟩, ?_, by simp, .inl rfl, fun p q' h => h⟩ ?_
    · rintro _ _ e
      cases e
      exact ⟨by omega, by omega, hlt⟩
    rintro _ _ ⟨a1, b1, R, ws, y5, y6, y7, rfl, rfl, h1, h2, h3, h4, hP, hR, hw, hlen, hbest⟩ k1 hk1
    have ba1 := up a1 h1 h2
    have bb1 := up b1 (by omega) h4
    have hf : a1.fdiv b1 = a1 / b1 := Int.fdiv_eq_ediv_of_nonneg _ (by omega)
    have cdz : CDivZ a1 b1 := ⟨by omega, PyProof.noPylong_of_log2 (Nat.lt_trans (log2_lt_of (intBits_le_iff.mp bb1) (by decide)) (by decide))⟩
    walk_at "rd"
    refine ⟨a1, b1, R, rfl, h1, h3, hP, Nat.le_trans ba1 (by decide), Nat.le_trans bb1 (by decide), ?_, fun t ht => ?_⟩
    · rintro c1 d1 rfl
      obtain ⟨z1, z2, _⟩ := hR c1 d1 rfl
      have hP : 0 < c1 ∧ 0 < d1 := hP
      exact ⟨Nat.le_trans (up c1 (by omega) z1) (by decide), Nat.le_trans (up d1 (by omega) z2) (by decide)⟩
    walk_at "rd"
    refine ⟨fun h => ?_, fun h => ?_⟩
    · -- a turn
      subst h
      cases R with
      | none => exact absurd (ht.mpr trivial) (by decide)
      | some r =>
        obtain ⟨c1, d1⟩ := r
        obtain ⟨z1, z2, z3⟩ := hR c1 d1 rfl
        have hP : 0 < c1 ∧ 0 < d1 := hP
        have nf : ¬ (a1 / b1 + 1) * d1 < c1 * 1 := fun z => absurd (ht.mpr z) (by decide)
        have e := Int.mul_ediv_add_emod a1 b1
        have m1 := Int.emod_nonneg a1 (by omega : b1 ≠ 0)
        have m2 := Int.emod_lt_of_pos a1 h3
        have w0 : 0 ≤ a1 / b1 := Int.ediv_nonneg h1 (by omega)
        simp only [optD] at *
        refine sq_i fun k2 hk2 => ?_
        walk_at "rd"
        refine ⟨cdz, ?_⟩
        rw [hf]
        generalize hwd : a1 / b1 = w at e w0 nf ⊢
        generalize hrd : a1 % b1 = r at e m1 m2
        have ea : a1 = w * b1 + r := by rw [Int.mul_comm w b1]; omega
        obtain ⟨s, hs⟩ : ∃ s, s = c1 - w * d1 := ⟨_, rfl⟩
        have ec : c1 = w * d1 + s := by omega
        have wb : w ≤ M := by
          have : w * 1 ≤ w * b1 := Int.mul_le_mul_of_nonneg_left (by omega) w0
          omega
        have s0 : 0 < s := by
          apply Classical.byContradiction
          intro z
          have i1 : s * b1 ≤ 0 := Int.mul_nonpos_of_nonpos_of_nonneg (by omega) (by omega)
          have i2 : 0 ≤ r * d1 := Int.mul_nonneg m1 (by omega)
          have i3 : a1 * d1 - c1 * b1 = r * d1 - s * b1 := by rw [ea, ec]; grind
          omega
        have sd : s ≤ d1 := by rw [Int.add_mul] at nf; omega
        have bw := up w w0 wb
        have bd1 := up d1 (by omega) z2
        have lenF : ws.length ≤ 4000 := by
          rcases hlen with rfl | ⟨l1, l2⟩
          · simp
          · refine len_bound ?_ (l2 c1 d1 rfl) bM
            have := Int.mul_pos (Int.mul_pos (show 0 < a1 by omega) h3) (Int.mul_pos hP.1 hP.2)
            omega
        subst hk2
        refine sq_i fun k2 hk2 => ?_
        walk_at "rd"
        refine ⟨Fit.of (by simp; omega), ?_⟩
        subst hk2
        refine sq_i fun k2 hk2 => ?_
        walk_at "rd"
        refine ⟨MulOk.of_le bw bb1 (by decide), ?_⟩
        have er : a1 - w * b1 = r := by omega
        rw [er]
        subst hk2
        refine sq_i fun k2 hk2 => ?_
        walk_at "rd"
        subst hk2
        refine sq_i fun k2 hk2 => if_n fun T hT => ?_
        have go : ∀ R' : Option (Int × Int), ((0 < r ∧ R' = some (b1, r)) ∨ (r = 0 ∧ R' = none)) → k2 [some (.val x), some (.val y), some (.val (.tuple [.int a1, .int b1])), some (.val (.tuple [.int c1, .int d1])), some (.own (ws.map .int ++ [.int w])), some (.val (.int w)), some (.val (.int r)), some (.val (optD R'))] := by
          intro R' hR'
          clear hT T
          subst hk2
          walk_at "rd"
          refine ⟨MulOk.of_le bw bd1 (by decide), ?_⟩
          rw [← hs]
          subst hk1
          refine ⟨_, ?_, d1, s, R', ws ++ [w], _, _, _, by simp only [List.map_append, List.map_cons, List.map_nil]; rfl, rfl, by omega, z2, s0, by omega, ?_, ?_, ?_, .inr ⟨sd, ?_⟩, ?_⟩
          · rcases hR' with ⟨q1, rfl⟩ | ⟨q1, rfl⟩
            · simp only [denR]; omega
            · simp only [denR]; omega
          · rcases hR' with ⟨q1, rfl⟩ | ⟨q1, rfl⟩
            · exact ⟨h3, q1⟩
            · trivial
          · rcases hR' with ⟨q1, rfl⟩ | ⟨q1, rfl⟩
            · rintro _ _ e2
              cases e2
              refine ⟨h4, by omega, ?_⟩
              have i3 : c1 * b1 - a1 * d1 = b1 * s - d1 * r := by rw [ea, ec]; grind
              omega
            · rintro _ _ e2
              cases e2
          · intro w' hw'
            rcases List.mem_append.mp hw' with h | h
            · exact hw w' h
            · rw [List.mem_singleton.mp h]; exact ⟨w0, wb⟩
          · rcases hR' with ⟨q1, rfl⟩ | ⟨q1, rfl⟩
            · rintro _ _ e2
              cases e2
              rw [List.length_append, List.length_singleton, Int.pow_succ]
              rcases hlen with rfl | ⟨l1, l2⟩
              · have i1 : d1 * s ≤ M * M := Int.mul_le_mul z2 (by omega) (by omega) (by omega)
                have i2 : b1 * r ≤ M * M := Int.mul_le_mul h4 (by omega) m1 (by omega)
                have i3 := Int.mul_le_mul i1 i2 (Int.mul_nonneg (by omega) m1) (Int.mul_nonneg (by omega) (by omega))
                simp only [List.length_nil, Int.pow_zero, Int.one_mul]
                omega
              · have w1 : 1 ≤ w := by
                  apply Classical.byContradiction
                  intro z
                  have : w = 0 := by omega
                  rw [this] at ea
                  omega
                have r2 : 2 * r ≤ a1 := by
                  have : 1 * b1 ≤ w * b1 := Int.mul_le_mul_of_nonneg_right w1 (by omega)
                  omega
                have sc : s ≤ c1 := by
                  have : 0 ≤ w * d1 := Int.mul_nonneg w0 (by omega)
                  omega
                have hp := half_prod h3 hP.2 m1 s0 r2 sc
                have p0 := two_pp ws.length
                have i4 := Int.mul_le_mul_of_nonneg_left hp (Int.le_of_lt p0)
                have i5 := l2 c1 d1 rfl
                have i6 : (2 : Int) ^ ws.length * 2 * (d1 * s * (b1 * r)) = (2 : Int) ^ ws.length * (2 * (d1 * s * (b1 * r))) := by rw [Int.mul_assoc]
                omega
            · rintro _ _ e2
              cases e2
          · intro p q' hB
            rw [foldW_snoc]
            exact hbest _ _ (best_step w0 ea ec h3 hP.2 m1 s0 R' hR' hB)
        walk_at "rd"
        refine ⟨fun h => ?_, fun h => go none (.inr ⟨by omega, rfl⟩)⟩
        subst hT
        walk_at "rd"
        exact go (some (b1, r)) (.inl ⟨h, rfl⟩)
    · subst h hk
      have hfit := ht.mp rfl
      have B := hbest _ _ (best_base h1 h3 hP hfit)
      have w0 : 0 ≤ a1 / b1 := Int.ediv_nonneg h1 (by omega)
      walk_at "rd"
      refine ⟨cdz, ?_⟩
      rw [hf]
      have hl := best_le hb hd B
      have hn : ∀ w ∈ ws, 0 ≤ w := fun w h => (hw w h).1
      obtain ⟨f1, f2, f3⟩ := foldW_nn ws (a1 / b1 + 1, 1) hn (by show 0 ≤ a1 / b1 + 1; omega) (by show (0 : Int) ≤ 1; decide)
      obtain ⟨_, _, _, _, _, _, _, _, _, _, _, _, _, hA, _, _⟩ := id B
      have hA : (foldW ws (a1 / b1 + 1, 1)).1 * d < c * (foldW ws (a1 / b1 + 1, 1)).2 := hA
      refine ⟨ws, a1 / b1 + 1, rfl, fun w h => Nat.le_trans (up w (hw w h).1 (hw w h).2) (by decide), ?_, ?_⟩
      · intro vs us e
        have hus : ∀ w ∈ us, 0 ≤ w := fun w h => hn w (by rw [e]; exact List.mem_append_right _ h)
        have hvs : ∀ w ∈ vs, 0 ≤ w := fun w h => hn w (by rw [e]; exact List.mem_append_left _ h)
        obtain ⟨g1, g2, _⟩ := foldW_nn us (a1 / b1 + 1, 1) hus (by show 0 ≤ a1 / b1 + 1; omega) (by show (0 : Int) ≤ 1; decide)
        obtain ⟨_, _, g3⟩ := foldW_nn vs (foldW us (a1 / b1 + 1, 1)) hvs g1 g2
        rw [← foldW_append, ← e] at g3
        have i1 : (foldW ws (a1 / b1 + 1, 1)).1 * 1 ≤ (foldW ws (a1 / b1 + 1, 1)).1 * d := Int.mul_le_mul_of_nonneg_left (by omega) f1
        have i2 : c * (foldW ws (a1 / b1 + 1, 1)).2 ≤ c * (b + d) := Int.mul_le_mul_of_nonneg_left hl (by omega)
        have i3 : b + d ≤ c * (b + d) := by
          have := Int.mul_le_mul_of_nonneg_right (show 1 ≤ c by omega) (show 0 ≤ b + d by omega)
          omega
        exact bits_of_le (m := c * (b + d)) g1 (by omega) (Nat.le_trans (intBits_mul_le bc (intBits_add_le bb bd)) (by decide))
      · walk_at "rd"
        exact hq _ _ B
  rcases hx with rfl | rfl <;> rcases hy with rfl | rfl <;> (walk_at "rd"; exact fin)
theorem best_between {x y lt lb rt rb p q : Int} (hp : p = lt + rt) (hq : q = lb + rb) (hd : p * lb - lt * q = 1) (n1 : 0 ≤ lt) (n2 : 0 ≤ lb) (n3 : 0 ≤ rt) (n4 : 0 ≤ rb) (h1 : lt * y < x * lb) (h2 : x * rb < rt * y) : q ≤ y ∧ p ≤ x := by
  have i1 : y = lb * (rt * y - x * rb) + rb * (x * lb - lt * y) := by grind
  have i2 : x = lt * (rt * y - x * rb) + rt * (x * lb - lt * y) := by grind
  have j1 := Int.mul_nonneg n2 (show 0 ≤ rt * y - x * rb - 1 by omega)
  have j2 := Int.mul_nonneg n4 (show 0 ≤ x * lb - lt * y - 1 by omega)
  have j3 := Int.mul_nonneg n1 (show 0 ≤ rt * y - x * rb - 1 by omega)
  have j4 := Int.mul_nonneg n3 (show 0 ≤ x * lb - lt * y - 1 by omega)
  rw [Int.mul_sub, Int.mul_one] at j1 j2 j3 j4
  omega
/-- a fraction between lies between the parents -/
theorem in_parents {a b c d lt lb rt rb x y : Int} (hb : 0 < b) (hd : 0 < d) (hy : 0 < y) (n2 : 0 ≤ lb) (n4 : 0 ≤ rb) (hdet : rt * lb - lt * rb = 1) (l1 : a * y < x * b) (l2 : x * d < c * y) (l3 : lt * b ≤ a * lb) (l4 : c * rb ≤ rt * d) : lt * y < x * lb ∧ x * rb < rt * y := by
  constructor
  · apply Classical.byContradiction
    intro z
    have z : x * lb ≤ lt * y := by omega
    rcases Int.lt_or_eq_of_le n2 with q | q
    · have e1 := Int.mul_lt_mul_of_pos_right l1 q
      have e2 := Int.mul_le_mul_of_nonneg_right z (Int.le_of_lt hb)
      have e3 := Int.mul_le_mul_of_nonneg_right l3 (Int.le_of_lt hy)
      have i1 : x * b * lb = x * lb * b := by grind
      have i2 : lt * y * b = lt * b * y := by grind
      have i3 : a * y * lb = a * lb * y := by grind
      omega
    · subst q
      have : lt * rb = -1 := by omega
      have hl : lt * b ≤ 0 := by omega
      have z' : 0 ≤ lt * y := by omega
      have : 0 ≤ lt := by
        apply Classical.byContradiction
        intro w
        have := Int.mul_neg_of_neg_of_pos (show lt < 0 by omega) hy
        omega
      have := Int.mul_nonneg this n4
      omega
  · apply Classical.byContradiction
    intro z
    have z : rt * y ≤ x * rb := by omega
    rcases Int.lt_or_eq_of_le n4 with q | q
    · have e1 := Int.mul_lt_mul_of_pos_right l2 q
      have e2 := Int.mul_le_mul_of_nonneg_right z (Int.le_of_lt hd)
      have e3 := Int.mul_le_mul_of_nonneg_right l4 (Int.le_of_lt hy)
      have i1 : x * d * rb = x * rb * d := by grind
      have i2 : rt * y * d = rt * d * y := by grind
      have i3 : c * y * rb = c * rb * y := by grind
      omega
    · subst q
      have h1 : rt * lb = 1 := by omega
      have : 0 ≤ rt := by
        apply Classical.byContradiction
        intro w
        have := Int.mul_nonpos_of_nonpos_of_nonneg (show rt ≤ 0 by omega) n2
        omega
      have : rt ≠ 0 := fun w => by rw [w] at h1; omega
      have := Int.mul_pos (show 0 < rt by omega) hy
      omega
theorem best_uniq {p q p' q' a b c d : Int} (hb : 0 < b) (hd : 0 < d) (h : Best p q a b (some (c, d))) (g : Best p' q' a b (some (c, d))) : p = p' ∧ q = q' := by
  have key : ∀ {p q p' q' : Int}, Best p q a b (some (c, d)) → Best p' q' a b (some (c, d)) → q ≤ q' ∧ p ≤ p' := by
    intro p q p' q' h g
    obtain ⟨lt, lb, rt, rb, e1, e2, e3, n1, n2, n3, n4, n5, l1, l2, l3, l4⟩ := h
    obtain ⟨_, _, _, _, _, _, _, _, _, _, _, m5, k1, k2, _, _⟩ := g
    obtain ⟨w1, w2⟩ := in_parents hb hd (show 0 < q' by omega) n2 n4 (by grind) k1 k2 l3 l4
    exact best_between e1 e2 e3 n1 n2 n3 n4 w1 w2
  have k1 := key h g
  have k2 := key g h
  omega
/-- what simplest_between answers -/
def Simp (a b c d p q : Int) : Prop := (a < 0 ∧ 0 < c ∧ p = 0 ∧ q = 1) ∨ (0 ≤ a ∧ 0 < c ∧ Best p q a b (some (c, d))) ∨ (c ≤ 0 ∧ Best (-p) q (-c) d (some (-a, b)))
theorem simp_uniq {a b c d p q p' q' : Int} (hb : 0 < b) (hd : 0 < d) (h : Simp a b c d p q) (g : Simp a b c d p' q') : p = p' ∧ q = q' := by
  rcases h with ⟨h1, h2, rfl, rfl⟩ | ⟨h1, h2, h3⟩ | ⟨h1, h2⟩ <;> rcases g with ⟨g1, g2, rfl, rfl⟩ | ⟨g1, g2, g3⟩ | ⟨g1, g2⟩ <;> first | omega | exact ⟨rfl, rfl⟩ | exact best_uniq hb hd h3 g3 | (have := best_uniq hd hb h2 g2; omega)
abbrev s_simplest_between : Stmt := topS 5
theorem sc_simplest_between : FnScope ["low", "high", "opposite"] ["low", "high"] (defScope s_simplest_between) := ⟨rfl, rfl, rfl, by decide +kernel, rfl, by decide +kernel, by decide +kernel⟩
def f_simplest_between : FD := fun ds q => ∃ (x y : D) (a b c d : Int), ds = [x, y] ∧ Pr x a b ∧ Pr y c d ∧ 0 < b ∧ 0 < d ∧ a * d < c * b ∧ intBits a ≤ 700 ∧ intBits b ≤ 700 ∧ intBits c ≤ 700 ∧ intBits d ≤ 700 ∧ ∀ p q', Simp a b c d p q' → q (.val (.tuple [.int p, .int q']))
theorem ok_simplest_between {f fd} {k : Nat} (F : Fun K "simplest_between" "simplest_between" s_simplest_between f fd) (hdg : base.NoDigits) (r_simplest_positive : Ready P w K mg base "simplest_positive" 2 k f_simplest_positive) : FnG P w K mg base (k + 1) f fd ["low", "high"] (SpD K 2 f_simplest_between) := by
  refine fnD F sc_simplest_between fun cdv A outer s H E gA hr => ?_
  have hu := hr.units
  have nd := sc_simplest_between.nd
  refine ⟨_, (ss_cons (st_if (DW.pt (dw_and (dt_cmp o_lt (DE.toB (de_ix x_ix (bv 0) (DE.toB de_int))) (DE.toB de_int)) (dw_and1 (dt_cmp o_gt (DE.toB (de_ix x_ix (bv 1) (DE.toB de_int))) (DE.toB de_int))))) (ss_one (st_ret (de_tup (da_cons de_int (da_cons de_int da_nil))))) ss_nil)
    (ss_cons (st_if (dt_cmp o_le (DE.toB (de_ix x_ix (bv 1) (DE.toB de_int))) (DE.toB de_int)) (ss_cons (st_set (i := 2) nd (r_simplest_positive.toE gA hr (da_cons (de_tup (da_cons (de_un u_neg (DE.toB (de_ix x_ix (bv 1) (DE.toB de_int)))) (da_cons (de_ix x_ix (bv 1) (DE.toB de_int)) da_nil))) (da_cons (de_tup (da_cons (de_un u_neg (DE.toB (de_ix x_ix (bv 0) (DE.toB de_int)))) (da_cons (de_ix x_ix (bv 0) (DE.toB de_int)) da_nil))) da_nil))))
    (ss_one (st_ret (de_tup (da_cons (de_un u_neg (DE.toB (de_ix x_ix (bv 2) (DE.toB de_int)))) (da_cons (de_ix x_ix (bv 2) (DE.toB de_int)) da_nil)))))) ss_nil)
    (ss_one (st_ret (r_simplest_positive.toE gA hr (da_cons (dv 0) (da_cons (dv 1) da_nil))))))), ?_⟩
  clear F nd hu hr gA E H s outer A cdv hdg r_simplest_positive
  intro ds q hl hg
  obtain ⟨x, y, a, b, c, d, rfl, hx, hy, hb, hd, hlt, ba, bb, bc, bd, hq⟩ := hg
  show sSeq _ _ _ [some (.val x), some (.val y), none]
  refine sq_i fun k hk => if_n fun T hT => ?_
  have e1 : a < 0 → 0 < c → T := by
    intro h1 h2
    subst hT
    walk_at "rd"
    exact hq _ _ (.inl ⟨h1, h2, rfl, rfl⟩)
  have e2 : ¬ (a < 0 ∧ 0 < c) → k [some (.val x), some (.val y), none] := by
    intro h1
    clear hT e1 T
    subst hk
    refine sq_i fun k hk => if_n fun T hT => ?_
    have e3 : c ≤ 0 → T := by
      intro h2
      have a0 : a < 0 := by
        apply Classical.byContradiction
        intro z
        have i1 : 0 ≤ a * d := Int.mul_nonneg (by omega) (by omega)
        have i2 : c * b ≤ 0 := Int.mul_nonpos_of_nonpos_of_nonneg h2 (by omega)
        omega
      subst hT
      refine sq_i fun k2 hk2 => ?_
      have e4 : ∀ p q', Best p q' (-c) d (some (-a, b)) → k2 [some (.val x), some (.val y), some (.val (.tuple [.int p, .int q']))] := by
        intro p q' hB
        subst hk2
        walk_at "rd"
        exact hq _ _ (.inr (.inr ⟨h2, by rw [Int.neg_neg]; exact hB⟩))
      rcases hx with rfl | rfl <;> rcases hy with rfl | rfl <;>
        (walk_at "rd"; exact ⟨_, _, -c, d, -a, b, rfl, .inl rfl, .inl rfl, by omega, hd, by omega, hb, by rw [Int.neg_mul, Int.neg_mul]; omega, intBits_neg_le bc, bd, intBits_neg_le ba, bb, e4⟩)
    have e5 : ¬ c ≤ 0 → k [some (.val x), some (.val y), none] := by
      intro h2
      clear hT e3 T
      subst hk
      walk_at "rd"
      exact ⟨x, y, a, b, c, d, rfl, hx, hy, by omega, hb, by omega, hd, hlt, ba, bb, bc, bd, fun p q' hB => hq p q' (.inr (.inl ⟨by omega, by omega, hB⟩))⟩
    rcases hy with rfl | rfl <;> (walk_at "rd"; exact ⟨e3, e5⟩)
  rcases hx with rfl | rfl <;> rcases hy with rfl | rfl <;> (walk_at "rd"; exact ⟨fun h => ⟨fun h' => e1 h h', fun h' => e2 fun z => h' z.2⟩, fun h => e2 fun z => h z.1⟩)

abbrev s__law_ratio : Stmt := topS 14
theorem sc__law_ratio : FnScope ["top", "bottom", "divisor"] ["top", "bottom"] (defScope s__law_ratio) := ⟨rfl, rfl, rfl, by decide +kernel, rfl, by decide +kernel, by decide +kernel⟩
def f__law_ratio : FD := fun ds q => ∃ top bot : Int, ds = [.int top, .int bot] ∧ bot ≠ 0 ∧ intBits bot ≤ 8000 ∧ ∀ t u, IsRat t u top bot → q (.val (.tuple [.int t, .int u]))
theorem ok__law_ratio {f fd} {k : Nat} (F : Fun K "_law_ratio" "_law_ratio" s__law_ratio f fd) (hdg : base.NoDigits) (r__law_gcd : Ready P w K mg base "_law_gcd" 2 k f__law_gcd) : FnG P w K mg base (k + 1) f fd ["top", "bottom"] (SpD K 2 f__law_ratio) := by
  refine fnD F sc__law_ratio fun cdv A outer s H E gA hr => ?_
  have hu := hr.units
  have nd := sc__law_ratio.nd
  refine ⟨_, (ss_cons (st_set (i := 2) nd (r__law_gcd.toE gA hr (da_cons (dv 0) (da_cons (dv 1) da_nil))))
    (ss_cons (st_if (dt_cmp o_lt (bv 1) (DE.toB de_int)) (ss_one (st_set (i := 2) nd (de_un u_neg (bv 2)))) ss_nil)
    (ss_one (st_ret (de_tup (da_cons (de_op o_fdiv (bv 0) (bv 2)) (da_cons (de_op o_fdiv (bv 1) (bv 2)) da_nil))))))), ?_⟩
  clear F nd hu hr gA E H s outer A cdv hdg r__law_gcd
  intro ds q hl hg
  obtain ⟨top, bot, rfl, hb, hbits, hq⟩ := hg
  show sSeq _ _ _ [some (.val (.int top)), some (.val (.int bot)), none]
  refine sq_i fun k hk => ?_
  walk_at "rd"
  refine ⟨_, _, rfl, ?_⟩
  walk_at "rd"
  subst hk
  have g0 : 0 < Nat.gcd top.natAbs bot.natAbs := Nat.gcd_pos_of_pos_right _ (by omega)
  have gle : Nat.gcd top.natAbs bot.natAbs ≤ bot.natAbs := Nat.le_of_dvd (by omega) (Nat.gcd_dvd_right _ _)
  generalize hG : Nat.gcd top.natAbs bot.natAbs = G at g0 gle ⊢
  have hbl := intBits_le_iff.mp hbits
  have fin : ∀ g : Int, g.natAbs = G → (0 < bot ↔ 0 < g) → CDivZ top g ∧ CDivZ bot g ∧ q (.val (.tuple [.int (top.fdiv g), .int (bot.fdiv g)])) := by
    intro g h1 h2
    have hl : g.natAbs.log2 < 9000 := Nat.lt_trans (log2_lt_of (k := 8000) (by omega) (by decide)) (by decide)
    exact ⟨⟨by omega, PyProof.noPylong_of_log2 hl⟩, ⟨by omega, PyProof.noPylong_of_log2 hl⟩, hq _ _ (ratio_ok hb (by rw [h1, hG]) h2)⟩
  refine sq_i fun k hk => if_n fun T hT => ?_
  walk_at "rd"
  refine ⟨fun h => ?_, fun h => ?_⟩
  · subst hT
    walk_at "rd"
    subst hk
    walk_at "rd"
    exact fin _ (by omega) (by omega)
  · subst hk
    walk_at "rd"
    exact fin _ (by omega) (by omega)
def wbD (a b c d : Int) : D := if a < 0 ∧ 0 < c then .int 0 else if 0 ≤ a then (if (a.fdiv b + 1) * d < c then .int (a.fdiv b + 1) else .none) else if a < -((-c).fdiv d + 1) * b then .int (-((-c).fdiv d + 1)) else .none
abbrev s__law_whole_between : Stmt := topS 15
theorem sc__law_whole_between : FnScope ["low", "high", "first"] ["low", "high"] (defScope s__law_whole_between) := ⟨rfl, rfl, rfl, by decide +kernel, rfl, by decide +kernel, by decide +kernel⟩
def f__law_whole_between : FD := fun ds q => ∃ a b c d : Int, ds = [.tuple [.int a, .int b], .tuple [.int c, .int d]] ∧ 0 < b ∧ 0 < d ∧ intBits a ≤ 700 ∧ intBits b ≤ 700 ∧ intBits c ≤ 700 ∧ intBits d ≤ 700 ∧ q (.val (wbD a b c d))
theorem ok__law_whole_between {f fd} {k : Nat} (F : Fun K "_law_whole_between" "_law_whole_between" s__law_whole_between f fd) (hdg : base.NoDigits) : FnG P w K mg base (k + 1) f fd ["low", "high"] (SpD K 2 f__law_whole_between) := by
  refine fnD F sc__law_whole_between fun cdv A outer s H E gA hr => ?_
  have hu := hr.units
  have nd := sc__law_whole_between.nd
  refine ⟨_, (ss_cons (st_if (DW.pt (dw_and (dt_cmp o_lt (DE.toB (de_ix x_ix (bv 0) (DE.toB de_int))) (DE.toB de_int)) (dw_and1 (dt_cmp o_gt (DE.toB (de_ix x_ix (bv 1) (DE.toB de_int))) (DE.toB de_int))))) (ss_one (st_ret de_int)) ss_nil)
    (ss_cons (st_if (dt_cmp o_ge (DE.toB (de_ix x_ix (bv 0) (DE.toB de_int))) (DE.toB de_int)) (ss_cons (st_set (i := 2) nd (de_op o_add (DE.toB (de_op o_fdiv (DE.toB (de_ix x_ix (bv 0) (DE.toB de_int))) (DE.toB (de_ix x_ix (bv 0) (DE.toB de_int))))) (DE.toB de_int)))
    (ss_cons (st_if (dt_cmp o_lt (DE.toB (de_op o_mul (bv 2) (DE.toB (de_ix x_ix (bv 1) (DE.toB de_int))))) (DE.toB (de_ix x_ix (bv 1) (DE.toB de_int)))) (ss_one (st_ret (dv 2))) ss_nil)
    (ss_one (st_ret de_non)))) ss_nil)
    (ss_cons (st_set (i := 2) nd (de_un u_neg (DE.toB (de_op o_add (DE.toB (de_op o_fdiv (DE.toB (de_un u_neg (DE.toB (de_ix x_ix (bv 1) (DE.toB de_int))))) (DE.toB (de_ix x_ix (bv 1) (DE.toB de_int))))) (DE.toB de_int)))))
    (ss_cons (st_if (dt_cmp o_gt (DE.toB (de_op o_mul (bv 2) (DE.toB (de_ix x_ix (bv 0) (DE.toB de_int))))) (DE.toB (de_ix x_ix (bv 0) (DE.toB de_int)))) (ss_one (st_ret (dv 2))) ss_nil)
    (ss_one (st_ret de_non)))))), ?_⟩
  clear F nd hu hr gA E H s outer A cdv hdg 
  intro ds q hl hg
  obtain ⟨a, b, c, d, rfl, hb, hd, ba, bb, bc, bd, hq⟩ := hg
  have cd : ∀ x y : Int, 0 < y → intBits y ≤ 700 → CDivZ x y := fun x y h h' => ⟨by omega, PyProof.noPylong_of_log2 (Nat.lt_trans (log2_lt_of (intBits_le_iff.mp h') (by decide)) (by decide))⟩
  have fb : ∀ x y : Int, intBits x ≤ 700 → intBits (x.fdiv y + 1) ≤ 701 := fun x y h => Nat.le_trans (intBits_add_le (intBits_fdiv_le h) (n := 1) (by decide)) (by decide)
  show sSeq _ _ _ [some (.val (.tuple [.int a, .int b])), some (.val (.tuple [.int c, .int d])), none]
  refine sq_i fun k hk => if_n fun T hT => ?_
  have e2 : ¬ (a < 0 ∧ 0 < c) → k [some (.val (.tuple [.int a, .int b])), some (.val (.tuple [.int c, .int d])), none] := by
    intro h1
    clear hT T
    subst hk
    refine sq_i fun k hk => if_n fun T hT => ?_
    walk_at "rd"
    refine ⟨fun h => ?_, fun h => ?_⟩
    · subst hT
      refine sq_i fun k2 hk2 => ?_
      walk_at "rd"
      refine ⟨cd _ _ hb bb, ?_⟩
      subst hk2
      refine sq_i fun k2 hk2 => if_n fun T hT => ?_
      walk_at "rd"
      refine ⟨MulOk.of_le (fb _ _ ba) bd (by decide), fun h2 => ?_, fun h2 => ?_⟩
      · subst hT
        walk_at "rd"
        simpa [wbD, h1, h, h2] using hq
      · subst hk2
        walk_at "rd"
        simpa [wbD, h1, h, h2] using hq
    · subst hk
      refine sq_i fun k2 hk2 => ?_
      walk_at "rd"
      refine ⟨cd _ _ hd bd, ?_⟩
      subst hk2
      refine sq_i fun k2 hk2 => if_n fun T hT => ?_
      walk_at "rd"
      refine ⟨MulOk.of_le (intBits_neg_le (fb _ _ (intBits_neg_le bc))) bb (by decide), fun h2 => ?_, fun h2 => ?_⟩
      · subst hT
        walk_at "rd"
        unfold wbD at hq
        rw [if_neg h1, if_neg h, if_pos h2] at hq
        exact hq
      · subst hk2
        walk_at "rd"
        unfold wbD at hq
        rw [if_neg h1, if_neg h, if_neg h2] at hq
        exact hq
  walk_at "rd"
  refine ⟨fun h => ⟨fun h' => ?_, fun h' => e2 fun z => h' z.2⟩, fun h => e2 fun z => h z.1⟩
  subst hT
  walk_at "rd"
  simpa [wbD, h, h'] using hq
theorem gcd_emod' (a b : Int) : Int.gcd (a % b) b = Int.gcd a b := by
  have h : a % b = a + b * (-(a / b)) := by
    have := Int.mul_ediv_add_emod a b
    rw [Int.mul_neg]; omega
  rw [h]
  simp
theorem absmul_bits {x y m : Int} {k : Nat} (h : x.natAbs * y.natAbs ≤ m.natAbs) (hm : intBits m ≤ k) (hy : y ≠ 0) : intBits x ≤ k :=
  intBits_le_of_natAbs (Nat.le_trans (Nat.le_mul_of_pos_right _ (by omega)) h) hm
abbrev s__law_partner : Stmt := topS 16
theorem sc__law_partner : FnScope ["top", "bottom", "a", "b", "x", "y", "quotient", "rest", "swap"] ["top", "bottom"] (defScope s__law_partner) := ⟨rfl, rfl, rfl, by decide +kernel, rfl, by decide +kernel, by decide +kernel⟩
def f__law_partner : FD := fun ds q => ∃ p m : Int, ds = [.int p, .int m] ∧ 1 ≤ m ∧ Int.gcd p m = 1 ∧ intBits p ≤ 2000 ∧ intBits m ≤ 2000 ∧ ∀ x, 0 ≤ x → x < m → m ∣ p * x - 1 → q (.val (.int x))
theorem ok__law_partner {f fd} {k : Nat} (F : Fun K "_law_partner" "_law_partner" s__law_partner f fd) (hdg : base.NoDigits) (m_int : mg "int" = none) : FnG P w K mg base (k + 1) f fd ["top", "bottom"] (SpD K 2 f__law_partner) := by
  refine fnD F sc__law_partner fun cdv A outer s H E gA hr => ?_
  have hu := hr.units
  have nd := sc__law_partner.nd
  refine ⟨_, (ss_cons (st_set (i := 2) nd (de_op o_mod (DE.toB (de_T c_int m_int (ab_cons (bv 0) ab_nil))) (bv 1)))
    (ss_cons (st_set (i := 3) nd (dv 1))
    (ss_cons (st_set (i := 4) nd de_int)
    (ss_cons (st_set (i := 5) nd de_int)
    (ss_cons (st_while (dt_cmp (o_ne hu) (bv 3) (DE.toB de_int)) (ss_cons (st_set (i := 6) nd (de_op o_fdiv (bv 2) (bv 3)))
    (ss_cons (st_set (i := 7) nd (de_op o_mod (DE.toB (de_T c_int m_int (ab_cons (bv 2) ab_nil))) (bv 3)))
    (ss_cons (st_set (i := 2) nd (dv 3))
    (ss_cons (st_set (i := 3) nd (dv 7))
    (ss_cons (st_set (i := 8) nd (de_op o_sub (bv 4) (DE.toB (de_op o_mul (bv 6) (bv 5)))))
    (ss_cons (st_set (i := 4) nd (dv 5))
    (ss_one (st_set (i := 5) nd (dv 8))))))))))
    (ss_one (st_ret (de_op o_mod (DE.toB (de_T c_int m_int (ab_cons (bv 4) ab_nil))) (bv 1))))))))), ?_⟩
  clear F nd hu hr gA E H s outer A cdv hdg m_int
  intro ds q hl hg
  obtain ⟨p, m, rfl, hm, hg1, bp, bm, hq⟩ := hg
  show sSeq _ _ _ [some (.val (.int p)), some (.val (.int m)), none, none, none, none, none, none, none]
  refine sq_i fun k hk => ?_
  walk_at "rd"
  refine ⟨by omega, ?_⟩
  have h0 := fmod_pos (a := p) (b := m) (by omega)
  have dv : m ∣ p.fmod m - p := by
    rw [Int.fmod_eq_emod_of_nonneg _ (by omega)]
    exact Int.dvd_emod_sub_self
  have gc : Int.gcd (p.fmod m) m = 1 := by
    rw [Int.fmod_eq_emod_of_nonneg _ (by omega), gcd_emod']
    exact hg1
  generalize p.fmod m = a at h0 dv gc ⊢
  subst hk
  refine sq_i fun k hk => ?_
  walk_at "rd"
  subst hk
  refine sq_i fun k hk => ?_
  walk_at "rd"
  subst hk
  refine sq_i fun k hk => ?_
  walk_at "rd"
  subst hk
  refine sq_i fun k hk => while_i (fun n ρ => ∃ (a b x y : Int) (z6 z7 z8 : Option DV), ρ = [some (.val (.int p)), some (.val (.int m)), some (.val (.int a)), some (.val (.int b)), some (.val (.int x)), some (.val (.int y)), z6, z7, z8] ∧ b.toNat = n ∧ 0 ≤ a ∧ a ≤ m ∧ 0 ≤ b ∧ b ≤ m ∧ 0 < a + b ∧ Int.gcd a b = 1 ∧ m ∣ p * x - a ∧ m ∣ p * y - b ∧ x.natAbs * b.natAbs + y.natAbs * a.natAbs ≤ m.natAbs ∧ y.natAbs ≤ m.natAbs) _ ⟨a, m, 1, 0, none, none, none, rfl, rfl, h0.1, by omega, by omega, by omega, by omega, gc, ?_, ?_, ?_, by simp⟩ ?_
  · obtain ⟨t, ht⟩ := dv
    exact ⟨-t, by rw [Int.mul_one, Int.mul_neg]; omega⟩
  · exact ⟨-1, by omega⟩
  · simp
  rintro _ _ ⟨a, b, x, y, z6, z7, z8, rfl, rfl, a1, a2, b1, b2, ab, gc, d1, d2, hs, ym⟩ k1 hk1
  walk_at "rd"
  refine ⟨fun h => ?_, fun h => ?_⟩
  · have hb0 : 0 < b := by omega
    have ba : intBits a ≤ 2000 := bits_of_le a1 a2 bm
    have bb : intBits b ≤ 2000 := bits_of_le b1 b2 bm
    refine sq_i fun k2 hk2 => ?_
    walk_at "rd"
    refine ⟨⟨h, PyProof.noPylong_of_log2 (Nat.lt_trans (log2_lt_of (intBits_le_iff.mp bb) (by decide)) (by decide))⟩, ?_⟩
    have e := Int.mul_ediv_add_emod a b
    have m1 := Int.emod_nonneg a h
    have m2 := Int.emod_lt_of_pos a hb0
    have hf : a.fdiv b = a / b := Int.fdiv_eq_ediv_of_nonneg _ (by omega)
    have hf2 : a.fmod b = a % b := Int.fmod_eq_emod_of_nonneg _ (by omega)
    have w0 : 0 ≤ a / b := Int.ediv_nonneg a1 (by omega)
    have gr : Int.gcd b (a % b) = 1 := by rw [Int.gcd_comm, gcd_emod']; exact gc
    rw [hf]
    subst hk2
    refine sq_i fun k2 hk2 => ?_
    walk_at "rd"
    refine ⟨h, ?_⟩
    rw [hf2]
    have bw : intBits (a / b) ≤ 2000 := by rw [← hf]; exact intBits_fdiv_le ba
    generalize a / b = w at e w0 bw ⊢
    generalize a % b = r at e m1 m2 gr ⊢
    subst hk2
    refine sq_i fun k2 hk2 => ?_
    walk_at "rd"
    subst hk2
    refine sq_i fun k2 hk2 => ?_
    walk_at "rd"
    have by' : intBits y ≤ 2000 := intBits_le_of_natAbs ym bm
    subst hk2
    refine sq_i fun k2 hk2 => ?_
    walk_at "rd"
    refine ⟨MulOk.of_le bw by' (by decide), ?_⟩
    subst hk2
    refine sq_i fun k2 hk2 => ?_
    walk_at "rd"
    subst hk2
    walk_at "rd"
    subst hk1
    have new : y.natAbs * r.natAbs + (x - w * y).natAbs * b.natAbs ≤ m.natAbs := by
      have i1 : (x - w * y).natAbs ≤ x.natAbs + w.natAbs * y.natAbs := by
        rw [← Int.natAbs_mul]; omega
      have i2 := Nat.mul_le_mul_right b.natAbs i1
      have i3 : a.natAbs = b.natAbs * w.natAbs + r.natAbs := by
        rw [← Int.natAbs_mul]
        have : 0 ≤ b * w := Int.mul_nonneg b1 w0
        omega
      rw [i3, Nat.mul_add] at hs
      rw [Nat.add_mul] at i2
      have i4 : w.natAbs * y.natAbs * b.natAbs = y.natAbs * (b.natAbs * w.natAbs) := by
        rw [Nat.mul_comm w.natAbs y.natAbs, Nat.mul_assoc, Nat.mul_comm w.natAbs b.natAbs]
      omega
    refine ⟨_, ?_, b, r, y, x - w * y, _, _, _, rfl, rfl, b1, b2, m1, by omega, by omega, gr, d2, ?_, new, Nat.le_trans (Nat.le_mul_of_pos_right _ (by omega)) (Nat.le_trans (Nat.le_add_left _ _) new)⟩
    · omega
    · have : p * (x - w * y) - r = (p * x - a) - w * (p * y - b) := by
        have : a = b * w + r := by omega
        rw [this]; grind
      rw [this]
      exact Int.dvd_sub d1 (Int.dvd_trans d2 (Int.dvd_mul_left _ _))
  · subst hk h
    walk_at "rd"
    have a1' : a = 1 := by
      rw [Int.gcd_zero] at gc
      omega
    subst a1'
    refine ⟨by omega, ?_⟩
    have f := fmod_pos (a := x) (b := m) (by omega)
    refine hq _ f.1 f.2 ?_
    have dv2 : m ∣ x.fmod m - x := by
      rw [Int.fmod_eq_emod_of_nonneg _ (by omega)]
      exact Int.dvd_emod_sub_self
    have : p * x.fmod m - 1 = (p * x - 1) + p * (x.fmod m - x) := by grind
    rw [this]
    exact Int.dvd_add d1 (Int.dvd_trans dv2 (Int.dvd_mul_left _ _))
def Parents (p q a b c d : Int) : Prop := ∃ lt lb rt rb : Int, p = lt + rt ∧ q = lb + rb ∧ p * lb - lt * q = 1 ∧ 1 ≤ lb ∧ 1 ≤ rb ∧ lt * b ≤ a * lb ∧ c * rb ≤ rt * d
abbrev s__law_parents_outside : Stmt := topS 17
theorem sc__law_parents_outside : FnScope ["told", "low", "high", "top", "bottom", "left_bottom", "left_top", "right_top", "right_bottom"] ["told", "low", "high"] (defScope s__law_parents_outside) := ⟨rfl, rfl, rfl, by decide +kernel, rfl, by decide +kernel, by decide +kernel⟩
def f__law_parents_outside : FD := fun ds q => ∃ p m a b c d : Int, ds = [.tuple [.int p, .int m], .tuple [.int a, .int b], .tuple [.int c, .int d]] ∧ 2 ≤ m ∧ Parents p m a b c d ∧ intBits p ≤ 2000 ∧ intBits m ≤ 2000 ∧ intBits a ≤ 2000 ∧ intBits b ≤ 2000 ∧ intBits c ≤ 2000 ∧ intBits d ≤ 2000 ∧ q (.val (.bool true))
theorem ok__law_parents_outside {f fd} {k : Nat} (F : Fun K "_law_parents_outside" "_law_parents_outside" s__law_parents_outside f fd) (hdg : base.NoDigits) (r__law_partner : Ready P w K mg base "_law_partner" 2 k f__law_partner) : FnG P w K mg base (k + 1) f fd ["told", "low", "high"] (SpD K 3 f__law_parents_outside) := by
  refine fnD F sc__law_parents_outside fun cdv A outer s H E gA hr => ?_
  have hu := hr.units
  have nd := sc__law_parents_outside.nd
  refine ⟨_, (ss_cons (st_set (i := 3) nd (de_ix x_ix (bv 0) (DE.toB de_int)))
    (ss_cons (st_set (i := 4) nd (de_ix x_ix (bv 0) (DE.toB de_int)))
    (ss_cons (st_set (i := 5) nd (r__law_partner.toE gA hr (da_cons (dv 3) (da_cons (dv 4) da_nil))))
    (ss_cons (st_set (i := 6) nd (de_op o_fdiv (DE.toB (de_op o_sub (DE.toB (de_op o_mul (bv 3) (bv 5))) (DE.toB de_int))) (bv 4)))
    (ss_cons (st_set (i := 7) nd (de_op o_sub (bv 3) (bv 6)))
    (ss_cons (st_set (i := 8) nd (de_op o_sub (bv 4) (bv 5)))
    (ss_cons (st_if (DW.pt (dw_or (dt_cmp o_lt (bv 5) (DE.toB de_int)) (dw_or (dt_cmp o_lt (bv 8) (DE.toB de_int)) (dw_or1 (dt_cmp (o_ne hu) (DE.toB (de_op o_sub (DE.toB (de_op o_mul (bv 3) (bv 5))) (DE.toB (de_op o_mul (bv 6) (bv 4))))) (DE.toB de_int)))))) (ss_one (st_ret de_bl)) ss_nil)
    (ss_one (st_ret (de_and (de_cmp o_le (DE.toB (de_op o_mul (bv 6) (DE.toB (de_ix x_ix (bv 1) (DE.toB de_int))))) (DE.toB (de_op o_mul (DE.toB (de_ix x_ix (bv 1) (DE.toB de_int))) (bv 5)))) (de_one (de_cmp o_ge (DE.toB (de_op o_mul (bv 7) (DE.toB (de_ix x_ix (bv 2) (DE.toB de_int))))) (DE.toB (de_op o_mul (DE.toB (de_ix x_ix (bv 2) (DE.toB de_int))) (bv 8))))))))))))))), ?_⟩
  clear F nd hu hr gA E H s outer A cdv hdg r__law_partner
  intro ds q hl hg
  obtain ⟨p, m, a, b, c, d, rfl, hm, ⟨lt, lb, rt, rb, e1, e2, e3, n1, n2, l1, l2⟩, bp, bm, ba, bb, bc, bd, hq⟩ := hg
  have g1 : Int.gcd p m = 1 := by
    have h1 := Int.gcd_dvd_left (a := p) (b := m)
    have h2 := Int.gcd_dvd_right (a := p) (b := m)
    have h3 : ((Int.gcd p m : Nat) : Int) ∣ 1 := by
      rw [← e3]
      exact Int.dvd_sub (Int.dvd_trans h1 (Int.dvd_mul_right _ _)) (Int.dvd_trans h2 (Int.dvd_mul_left _ _))
    have := Int.le_of_dvd (by decide) h3
    have : Int.gcd p m ≠ 0 := fun z => by
      have := Int.eq_zero_of_gcd_eq_zero_right z
      omega
    omega
  show sSeq _ _ _ [some (.val (.tuple [.int p, .int m])), some (.val (.tuple [.int a, .int b])), some (.val (.tuple [.int c, .int d])), none, none, none, none, none, none]
  refine sq_i fun k hk => ?_
  walk_at "rd"
  subst hk
  refine sq_i fun k hk => ?_
  walk_at "rd"
  subst hk
  refine sq_i fun k hk => ?_
  walk_at "rd"
  refine ⟨p, m, rfl, by omega, g1, bp, bm, fun x x0 x1 hx => ?_⟩
  have ex : x = lb := by
    have d1 : m ∣ p * (x - lb) := by
      have : p * (x - lb) = (p * x - 1) - (p * lb - 1) := by grind
      rw [this]
      refine Int.dvd_sub hx ⟨lt, ?_⟩
      have := Int.mul_comm m lt
      omega
    obtain ⟨t, ht⟩ := dvd_cop d1 (by rw [Int.gcd_comm]; exact g1)
    rcases Int.lt_trichotomy t 0 with h | h | h
    · have := Int.mul_le_mul_of_nonneg_left (show t ≤ -1 by omega) (show 0 ≤ m by omega)
      omega
    · rw [h] at ht
      omega
    · have := Int.mul_le_mul_of_nonneg_left (show 1 ≤ t by omega) (show 0 ≤ m by omega)
      omega
  subst ex
  walk_at "rd"
  subst hk
  have mk : ∀ {x y : Int}, intBits x ≤ 5000 → intBits y ≤ 5000 → MulOk x y := fun h h' => MulOk.of_le h h' (by decide)
  have up : ∀ {x : Int}, intBits x ≤ 2000 → intBits x ≤ 5000 := fun h => Nat.le_trans h (by decide)
  have bx : intBits x ≤ 2000 := bits_of_le (by omega) (by omega) bm
  have brb : intBits rb ≤ 2000 := bits_of_le (by omega) (by omega) bm
  have elt : (p * x - 1).fdiv m = lt := by
    have : p * x - 1 = lt * m := by omega
    rw [this]
    exact Int.mul_fdiv_cancel _ (by omega)
  have bpx : intBits (p * x - 1) ≤ 4001 := Nat.le_trans (intBits_sub_le (intBits_mul_le bp bx) (n := 1) (by decide)) (by decide)
  have blt : intBits lt ≤ 4001 := by rw [← elt]; exact intBits_fdiv_le bpx
  have ert : p - lt = rt := by omega
  have erb : m - x = rb := by omega
  have brt : intBits rt ≤ 4002 := by rw [← ert]; exact Nat.le_trans (intBits_sub_le bp blt) (by decide)
  refine sq_i fun k hk => ?_
  walk_at "rd"
  refine ⟨mk (up bp) (up bx), ⟨by omega, PyProof.noPylong_of_log2 (Nat.lt_trans (log2_lt_of (intBits_le_iff.mp bm) (by decide)) (by decide))⟩, ?_⟩
  rw [elt]
  subst hk
  refine sq_i fun k hk => ?_
  walk_at "rd"
  rw [ert]
  subst hk
  refine sq_i fun k hk => ?_
  walk_at "rd"
  rw [erb]
  subst hk
  refine sq_i fun k hk => if_n fun T hT => ?_
  walk_at "rd"
  refine ⟨fun h => absurd h (by omega), fun _ => ⟨fun h => absurd h (by omega), fun _ => ⟨mk (up bp) (up bx), mk (Nat.le_trans blt (by decide)) (up bm), fun h => absurd e3 h, fun _ => ?_⟩⟩⟩
  subst hk
  walk_at "rd"
  refine ⟨mk (Nat.le_trans blt (by decide)) (up bb), mk (up ba) (up bx), fun _ => ⟨mk (Nat.le_trans brt (by decide)) (up bd), mk (up bc) (up brb), ?_⟩, fun h => absurd l1 h⟩
  rw [decide_eq_true l2]
  exact hq
theorem gcd_one_of {p m lb lt : Int} (hm : 1 ≤ m) (e3 : p * lb - lt * m = 1) : Int.gcd p m = 1 := by
  have h1 := Int.gcd_dvd_left (a := p) (b := m)
  have h2 := Int.gcd_dvd_right (a := p) (b := m)
  have h3 : ((Int.gcd p m : Nat) : Int) ∣ 1 := by
    rw [← e3]
    exact Int.dvd_sub (Int.dvd_trans h1 (Int.dvd_mul_right _ _)) (Int.dvd_trans h2 (Int.dvd_mul_left _ _))
  have := Int.le_of_dvd (by decide) h3
  have : Int.gcd p m ≠ 0 := fun z => by
    have := Int.eq_zero_of_gcd_eq_zero_right z
    omega
  omega
/-- a best fraction above a ≥ 0: whole where a whole number lies between -/
theorem best_facts {p q a b c d : Int} (ha : 0 ≤ a) (hb : 0 < b) (hd : 0 < d) (h : Best p q a b (some (c, d))) : 1 ≤ q ∧ Int.gcd p q = 1 ∧ a * q < p * b ∧ p * d < c * q ∧
    (((a.fdiv b + 1) * d < c ∧ p = a.fdiv b + 1 ∧ q = 1) ∨ (¬ (a.fdiv b + 1) * d < c ∧ 2 ≤ q ∧ Parents p q a b c d)) := by
  have hbest := h
  obtain ⟨lt, lb, rt, rb, e1, e2, e3, n1, n2, n3, n4, n5, l1, l2, l3, l4⟩ := h
  have l2 : p * d < c * q := l2
  have l4 : c * rb ≤ rt * d := l4
  refine ⟨n5, gcd_one_of n5 e3, l1, l2, ?_⟩
  have hf : a.fdiv b = a / b := Int.fdiv_eq_ediv_of_nonneg _ (by omega)
  rw [hf]
  have e := Int.mul_ediv_add_emod a b
  have m1 := Int.emod_nonneg a (by omega : b ≠ 0)
  have m2 := Int.emod_lt_of_pos a hb
  have lbp : 1 ≤ lb := by
    apply Classical.byContradiction
    intro z
    have z : lb = 0 := by omega
    rw [z] at e3 l3
    have : lt = 0 := by
      rcases Int.lt_or_eq_of_le n1 with y | y
      · have := Int.mul_pos y hb; omega
      · exact y.symm
    rw [this] at e3
    omega
  by_cases hw : (a / b + 1) * d < c
  · left
    have g := best_uniq hb hd hbest (best_base ha hb (R := some (c, d)) ⟨by
      have := Int.mul_pos (show 0 < a / b + 1 by have := Int.ediv_nonneg ha (Int.le_of_lt hb); omega) hd
      omega, hd⟩ (by show (a / b + 1) * d < c * 1; omega))
    exact ⟨hw, g.1, g.2⟩
  · right
    have q2 : 2 ≤ q := by
      apply Classical.byContradiction
      intro z
      have q1 : q = 1 := by omega
      rw [q1] at l1 l2
      apply hw
      have : a / b + 1 ≤ p := by
        apply Classical.byContradiction
        intro y
        have := Int.mul_le_mul_of_nonneg_right (show p ≤ a / b by omega) (Int.le_of_lt hb)
        have := Int.mul_comm b (a / b)
        omega
      have := Int.mul_le_mul_of_nonneg_right this (Int.le_of_lt hd)
      omega
    have rbp : 1 ≤ rb := by
      apply Classical.byContradiction
      intro z
      have z : rb = 0 := by omega
      have i : rt * lb = 1 := by rw [e1, e2, z] at e3; grind
      have : lb ∣ 1 := ⟨rt, by rw [← i, Int.mul_comm]⟩
      have := Int.le_of_dvd (by decide) this
      omega
    exact ⟨hw, q2, lt, lb, rt, rb, e1, e2, e3, lbp, rbp, l3, l4⟩
theorem simp_facts {p q a b c d : Int} (hb : 0 < b) (hd : 0 < d) (hlt : a * d < c * b) (h : Simp a b c d p q) : 1 ≤ q ∧ Int.gcd p q = 1 ∧ a * q < p * b ∧ p * d < c * q ∧
    ((wbD a b c d = .int p ∧ q = 1) ∨ (wbD a b c d = .none ∧ 2 ≤ q ∧ Parents p q a b c d)) := by
  rcases h with ⟨h1, h2, rfl, rfl⟩ | ⟨h1, h2, h3⟩ | ⟨h1, h3⟩
  · refine ⟨by decide, by decide, by omega, by omega, .inl ⟨?_, rfl⟩⟩
    unfold wbD
    rw [if_pos ⟨h1, h2⟩]
  · obtain ⟨f1, f2, f3, f4, f5⟩ := best_facts h1 hb hd h3
    refine ⟨f1, f2, f3, f4, ?_⟩
    unfold wbD
    rw [if_neg (by omega), if_pos h1]
    rcases f5 with ⟨g1, g2, g3⟩ | ⟨g1, g2, g3⟩
    · rw [if_pos g1, g2]; exact .inl ⟨rfl, g3⟩
    · rw [if_neg g1]; exact .inr ⟨rfl, g2, g3⟩
  · have a0 : a < 0 := by
      apply Classical.byContradiction
      intro z
      have i1 : 0 ≤ a * d := Int.mul_nonneg (by omega) (by omega)
      have i2 : c * b ≤ 0 := Int.mul_nonpos_of_nonpos_of_nonneg h1 (by omega)
      omega
    obtain ⟨f1, f2, f3, f4, f5⟩ := best_facts (show 0 ≤ -c by omega) hd hb h3
    rw [Int.neg_mul, Int.neg_mul] at f3 f4
    refine ⟨f1, by rwa [Int.neg_gcd] at f2, by omega, by omega, ?_⟩
    unfold wbD
    rw [if_neg (by omega), if_neg (by omega), Int.neg_mul]
    rcases f5 with ⟨g1, g2, g3⟩ | ⟨g1, g2, lt, lb, rt, rb, e1, e2, e3, n1, n2, l1, l2⟩
    · rw [if_pos (by omega)]
      exact .inl ⟨by congr 1; omega, g3⟩
    · rw [if_neg (by omega)]
      rw [Int.neg_mul] at l1 l2
      refine .inr ⟨rfl, g2, -rt, rb, -lt, lb, by omega, by omega, ?_, n2, n1, ?_, ?_⟩
      · have : p = -lt - rt := by omega
        rw [this, e2]
        rw [show -p = lt + rt from by omega, e2] at e3
        grind
      · rw [Int.neg_mul]; omega
      · rw [Int.neg_mul]; omega
theorem simp_bits {p q a b c d : Int} (hb : 0 < b) (hd : 0 < d) (hlt : a * d < c * b) (h : Simp a b c d p q) {n : Nat} (hn : 1 ≤ n) (ba : intBits a ≤ n) (bb : intBits b ≤ n) (bc : intBits c ≤ n) (bd : intBits d ≤ n) : intBits p ≤ 2 * n + 1 ∧ intBits q ≤ n + 1 := by
  have key : ∀ {p q a b c d : Int}, 0 ≤ a → 0 < b → 0 < d → Best p q a b (some (c, d)) → intBits a ≤ n → intBits b ≤ n → intBits c ≤ n → intBits d ≤ n → intBits p ≤ 2 * n + 1 ∧ intBits q ≤ n + 1 := by
    intro p q a b c d ha hb hd h ba bb bc bd
    have hl := best_le hb hd h
    obtain ⟨lt, lb, rt, rb, e1, e2, e3, n1, n2, n3, n4, n5, l1, l2, l3, l4⟩ := h
    have l2 : p * d < c * q := l2
    have bq : intBits q ≤ n + 1 := bits_of_le (by omega) hl (Nat.le_trans (intBits_add_le bb bd) (by omega))
    have i1 : p * 1 ≤ p * d := Int.mul_le_mul_of_nonneg_left (by omega) (by omega)
    exact ⟨bits_of_le (m := c * q) (by omega) (by omega) (Nat.le_trans (intBits_mul_le bc bq) (by omega)), bq⟩
  rcases h with ⟨h1, h2, rfl, rfl⟩ | ⟨h1, h2, h3⟩ | ⟨h1, h3⟩
  · have z0 : intBits 0 ≤ 1 := by decide
    have z1 : intBits 1 ≤ 1 := by decide
    omega
  · exact key h1 hb hd h3 ba bb bc bd
  · obtain ⟨x, y⟩ := key (show 0 ≤ -c by omega) hd hb h3 (intBits_neg_le bc) bd (intBits_neg_le ba) bb
    have := intBits_neg_le x
    rw [Int.neg_neg] at this
    exact ⟨this, y⟩
abbrev s__law_is_simplest : Stmt := topS 18
theorem sc__law_is_simplest : FnScope ["told", "low", "high", "whole"] ["told", "low", "high"] (defScope s__law_is_simplest) := ⟨rfl, rfl, rfl, by decide +kernel, rfl, by decide +kernel, by decide +kernel⟩
def f__law_is_simplest : FD := fun ds q => ∃ p m a b c d : Int, ds = [.tuple [.int p, .int m], .tuple [.int a, .int b], .tuple [.int c, .int d]] ∧ 0 < b ∧ 0 < d ∧ a * d < c * b ∧ Simp a b c d p m ∧ intBits a ≤ 700 ∧ intBits b ≤ 700 ∧ intBits c ≤ 700 ∧ intBits d ≤ 700 ∧ q (.val (.bool true))
theorem ok__law_is_simplest {f fd} {k : Nat} (F : Fun K "_law_is_simplest" "_law_is_simplest" s__law_is_simplest f fd) (hdg : base.NoDigits) (m_isinstance : mg "isinstance" = none) (m_len : mg "len" = none) (m_tuple : mg "tuple" = none) (r__law_whole : Ready P w K mg base "_law_whole" 1 k f__law_whole) (r__law_gcd : Ready P w K mg base "_law_gcd" 2 k f__law_gcd) (r__law_whole_between : Ready P w K mg base "_law_whole_between" 2 k f__law_whole_between) (r__law_parents_outside : Ready P w K mg base "_law_parents_outside" 3 k f__law_parents_outside) : FnG P w K mg base (k + 1) f fd ["told", "low", "high"] (SpD K 3 f__law_is_simplest) := by
  refine fnD F sc__law_is_simplest fun cdv A outer s H E gA hr => ?_
  have hu := hr.units
  have nd := sc__law_is_simplest.nd
  refine ⟨_, (ss_cons (st_if (DW.pt (dw_or (dt_not (dt_val (de_isi ty_tuple m_isinstance m_tuple (bv 0)))) (dw_or (dt_cmp (o_ne hu) (DE.toB (de_B c_len m_len (ab_cons (bv 0) ab_nil))) (DE.toB de_int)) (dw_or (dt_not (dt_val (r__law_whole.toE gA hr (da_cons (de_ix x_ix (bv 0) (DE.toB de_int)) da_nil)))) (dw_or1 (dt_not (dt_val (r__law_whole.toE gA hr (da_cons (de_ix x_ix (bv 0) (DE.toB de_int)) da_nil))))))))) (ss_one (st_ret de_bl)) ss_nil)
    (ss_cons (st_if (DW.pt (dw_or (dt_cmp o_lt (DE.toB (de_ix x_ix (bv 0) (DE.toB de_int))) (DE.toB de_int)) (dw_or1 (dt_cmp (o_ne hu) (DE.toB (r__law_gcd.toE gA hr (da_cons (de_ix x_ix (bv 0) (DE.toB de_int)) (da_cons (de_ix x_ix (bv 0) (DE.toB de_int)) da_nil)))) (DE.toB de_int))))) (ss_one (st_ret de_bl)) ss_nil)
    (ss_cons (st_if (dt_not (DW.pt (dw_and (dt_cmp o_lt (DE.toB (de_op o_mul (DE.toB (de_ix x_ix (bv 1) (DE.toB de_int))) (DE.toB (de_ix x_ix (bv 0) (DE.toB de_int))))) (DE.toB (de_op o_mul (DE.toB (de_ix x_ix (bv 0) (DE.toB de_int))) (DE.toB (de_ix x_ix (bv 1) (DE.toB de_int)))))) (dw_and1 (dt_cmp o_lt (DE.toB (de_op o_mul (DE.toB (de_ix x_ix (bv 0) (DE.toB de_int))) (DE.toB (de_ix x_ix (bv 2) (DE.toB de_int))))) (DE.toB (de_op o_mul (DE.toB (de_ix x_ix (bv 2) (DE.toB de_int))) (DE.toB (de_ix x_ix (bv 0) (DE.toB de_int)))))))))) (ss_one (st_ret de_bl)) ss_nil)
    (ss_cons (st_set (i := 3) nd (r__law_whole_between.toE gA hr (da_cons (dv 1) (da_cons (dv 2) da_nil))))
    (ss_cons (st_if (dt_cmp o_isNot (bv 3) (DE.toB de_non)) (ss_one (st_ret (de_cmp (o_eq hu) (bv 0) (DE.toB (de_tup (da_cons (dv 3) (da_cons de_int da_nil))))))) ss_nil)
    (ss_one (st_ret (de_and (de_cmp o_ge (DE.toB (de_ix x_ix (bv 0) (DE.toB de_int))) (DE.toB de_int)) (de_one (r__law_parents_outside.toE gA hr (da_cons (dv 0) (da_cons (dv 1) (da_cons (dv 2) da_nil))))))))))))), ?_⟩
  clear F nd hu hr gA E H s outer A cdv hdg m_isinstance m_len m_tuple r__law_whole r__law_gcd r__law_whole_between r__law_parents_outside
  intro ds q hl hg
  obtain ⟨p, m, a, b, c, d, rfl, hb, hd, hlt, hS, ba, bb, bc, bd, hq⟩ := hg
  obtain ⟨bp, bm⟩ := simp_bits hb hd hlt hS (by decide) ba bb bc bd
  obtain ⟨f1, f2, f3, f4, f5⟩ := simp_facts hb hd hlt hS
  show sSeq _ _ _ [some (.val (.tuple [.int p, .int m])), some (.val (.tuple [.int a, .int b])), some (.val (.tuple [.int c, .int d])), none]
  refine sq_i fun k hk => if_n fun T hT => ?_
  walk_at "rd"
  refine ⟨_, rfl, ?_⟩
  simp only [wholeD]
  walk_at "rd"
  refine ⟨_, rfl, ?_⟩
  simp only [wholeD]
  walk_at "rd"
  subst hk
  refine sq_i fun k hk => if_n fun T hT => ?_
  walk_at "rd"
  refine ⟨fun h => absurd h (by omega), fun _ => ⟨p, m, rfl, ?_⟩⟩
  walk_at "rd"
  have g1 : (Nat.gcd p.natAbs m.natAbs : Int) = 1 := by
    have f2 : Nat.gcd p.natAbs m.natAbs = 1 := f2
    omega
  refine ⟨fun h => absurd g1 h, fun _ => ?_⟩
  subst hk
  have mk : ∀ {x y : Int} {i j : Nat}, intBits x ≤ i → intBits y ≤ j → i + j ≤ 134217728 → MulOk x y := fun h h' l => MulOk.of_le h h' l
  refine sq_i fun k hk => if_n fun T hT => ?_
  walk_at "rd"
  refine ⟨mk ba bm (by decide), mk bp bb (by decide), fun _ => ⟨mk bp bd (by decide), mk bc bm (by decide), fun h => absurd f4 h, fun _ => ?_⟩, fun h => absurd f3 h⟩
  subst hk
  refine sq_i fun k hk => ?_
  walk_at "rd"
  refine ⟨a, b, c, d, rfl, hb, hd, ba, bb, bc, bd, ?_⟩
  walk_at "rd"
  subst hk
  refine sq_i fun k hk => if_n fun T hT => ?_
  rcases f5 with ⟨e, rfl⟩ | ⟨e, q2, hp⟩
  · rw [e] at hT ⊢
    walk_at "rd"
    subst hT
    walk_at "rd"
    refine ⟨by simp [eqOk, SeqAt.shaped, PyData.canLay0, PyData.canLayAll0, PyData.depth, PyData.depthAll], ?_⟩
    have : PyData.eqv (.tuple [.int p, .int 1]) (.tuple [.int p, .int 1]) = true := by simp [PyData.eqv, PyData.eqvAll]
    rw [this]
    exact hq
  · rw [e]
    walk_at "rd"
    subst hk
    walk_at "rd"
    have up : ∀ {x : Int} {i : Nat}, intBits x ≤ i → i ≤ 2000 → intBits x ≤ 2000 := fun h h' => Nat.le_trans h h'
    refine ⟨fun _ => ⟨p, m, a, b, c, d, rfl, q2, hp, up bp (by decide), up bm (by decide), up ba (by decide), up bb (by decide), up bc (by decide), up bd (by decide), hq⟩, fun h => absurd q2 h⟩
theorem rat_above {t u X Y a b : Int} (h : IsRat t u X Y) (hY : 0 < Y) (hlt : a * Y < X * b) (hb : 0 < b) : a * u < t * b := by
  obtain ⟨h1, h2, _⟩ := h
  have e := Int.mul_lt_mul_of_pos_right hlt (show 0 < u by omega)
  have i1 : a * Y * u = (a * u) * Y := by grind
  have i2 : X * b * u = (t * b) * Y := by grind
  rw [i1, i2] at e
  exact Int.lt_of_mul_lt_mul_right e (Int.le_of_lt hY)
theorem gRepr_pair {t u : Int} {q : D → Prop} (ht : intBits t ≤ 12000) (hu : intBits u ≤ 12000) (hq : q (.str (PyData.shown (.tuple [.int t, .int u])))) : gRepr [.tuple [.int t, .int u]] q :=
  ⟨⟨rfl, by simp [rpD, rpAll, big_bits ht (by decide), big_bits hu (by decide)], by simp [cells, cellsAll], by simp [PyData.depth, PyData.depthAll]⟩, hq⟩
theorem gRepr_pairs {t u t' u' : Int} {q : D → Prop} (ht : intBits t ≤ 12000) (hu : intBits u ≤ 12000) (ht' : intBits t' ≤ 12000) (hu' : intBits u' ≤ 12000) (hq : q (.str (PyData.shown (.list [.list [.int t, .int u], .list [.int t', .int u']])))) : gRepr [.list [.list [.int t, .int u], .list [.int t', .int u']]] q :=
  ⟨⟨rfl, by simp [rpD, rpAll, big_bits ht (by decide), big_bits hu (by decide), big_bits ht' (by decide), big_bits hu' (by decide)], by simp [cells, cellsAll], by simp [PyData.depth, PyData.depthAll]⟩, hq⟩
abbrev s_law : Stmt := topS 19
theorem sc_law : FnScope ["script", "row", "span", "bottom", "top", "low", "other", "step", "passed", "told", "high", "swap"] ["script"] (defScope s_law) := ⟨rfl, rfl, rfl, by decide +kernel, rfl, by decide +kernel, by decide +kernel⟩
def f_law : FD := fun ds q => ∃ ns : List Int, ds = [.list (ns.map .int)] ∧ (∀ i ∈ ns, intBits i ≤ 1048576) ∧ q (.val (.bool true))
theorem ok_law {f fd} {k : Nat} (F : Fun K "law" "law" s_law f fd) (hdg : base.NoDigits) (m_int : mg "int" = none) (m_list : mg "list" = none) (m_repr : mg "repr" = none) (r__law_digits : Ready P w K mg base "_law_digits" 2 k f__law_digits) (r__law_cell : Ready P w K mg base "_law_cell" 2 k f__law_cell) (r__law_ratio : Ready P w K mg base "_law_ratio" 2 k f__law_ratio) (r_simplest_between : Ready P w K mg base "simplest_between" 2 k f_simplest_between) (r__law_is_simplest : Ready P w K mg base "_law_is_simplest" 3 k f__law_is_simplest) : FnG P w K mg base (k + 1) f fd ["script"] (SpD K 1 f_law) := by
  refine fnD F sc_law fun cdv A outer s H E gA hr => ?_
  have hu := hr.units
  have nd := sc_law.nd
  refine ⟨_, (ss_cons (st_set (i := 1) nd (r__law_digits.toE gA hr (da_cons (r__law_cell.toE gA hr (da_cons (dv 0) (da_cons de_int da_nil))) (da_cons (DLs.toE (dl_lst (da_cons de_int (da_cons de_int (da_cons de_int (da_cons de_int (da_cons de_int da_nil))))))) da_nil))))
    (ss_cons (st_set (i := 2) nd (de_ix x_ix (DE.toB (DLs.toE (dl_lst (da_cons de_int (da_cons de_int (da_cons de_int (da_cons (de_op o_pow (DE.toB de_int) (DE.toB de_int)) (da_cons (de_op o_pow (DE.toB de_int) (DE.toB de_int)) (da_cons (de_op o_pow (DE.toB de_int) (DE.toB de_int)) da_nil))))))))) (DE.toB (de_ix x_ix (bv 1) (DE.toB de_int)))))
    (ss_cons (st_set (i := 3) nd (de_op o_add (DE.toB de_int) (DE.toB (de_op o_mod (DE.toB (de_T c_int m_int (ab_cons (DE.toB (r__law_cell.toE gA hr (da_cons (dv 0) (da_cons de_int da_nil)))) ab_nil))) (bv 2)))))
    (ss_cons (st_set (i := 4) nd (de_op o_sub (DE.toB (de_op o_mod (DE.toB (de_T c_int m_int (ab_cons (DE.toB (r__law_cell.toE gA hr (da_cons (dv 0) (da_cons de_int da_nil)))) ab_nil))) (DE.toB (de_op o_mul (DE.toB de_int) (bv 2))))) (bv 2)))
    (ss_cons (st_if (dt_cmp (o_eq hu) (DE.toB (de_ix x_ix (bv 1) (DE.toB de_int))) (DE.toB de_int)) (ss_one (st_set (i := 4) nd (de_op o_mod (DE.toB (de_T c_int m_int (ab_cons (DE.toB (r__law_cell.toE gA hr (da_cons (dv 0) (da_cons de_int da_nil)))) ab_nil))) (bv 2)))) ss_nil)
    (ss_cons (st_set (i := 5) nd (r__law_ratio.toE gA hr (da_cons (dv 4) (da_cons (dv 3) da_nil))))
    (ss_cons (st_set (i := 6) nd (de_op o_add (DE.toB de_int) (DE.toB (de_op o_mod (DE.toB (de_T c_int m_int (ab_cons (DE.toB (r__law_cell.toE gA hr (da_cons (dv 0) (da_cons de_int da_nil)))) ab_nil))) (bv 2)))))
    (ss_cons (st_set (i := 7) nd (de_op o_add (DE.toB de_int) (DE.toB (de_op o_mod (DE.toB (de_T c_int m_int (ab_cons (DE.toB (r__law_cell.toE gA hr (da_cons (dv 0) (da_cons de_int da_nil)))) ab_nil))) (DE.toB (de_ix x_ix (DE.toB (DLs.toE (dl_lst (da_cons de_int (da_cons de_int (da_cons de_int (da_cons de_int (da_cons de_int (da_cons (dv 2) da_nil))))))))) (DE.toB (de_ix x_ix (bv 1) (DE.toB de_int)))))))))
    (ss_cons (st_if (dt_cmp (o_eq hu) (DE.toB (de_ix x_ix (bv 1) (DE.toB de_int))) (DE.toB de_int)) (ss_one (st_set (i := 10) nd (r__law_ratio.toE gA hr (da_cons (de_op o_add (DE.toB (de_op o_mul (DE.toB (de_ix x_ix (bv 5) (DE.toB de_int))) (bv 6))) (DE.toB de_int)) (da_cons (de_op o_mul (DE.toB (de_ix x_ix (bv 5) (DE.toB de_int))) (bv 6)) da_nil))))) (ss_one (st_if (dt_cmp (o_eq hu) (DE.toB (de_ix x_ix (bv 1) (DE.toB de_int))) (DE.toB de_int)) (ss_one (st_set (i := 10) nd (r__law_ratio.toE gA hr (da_cons (de_op o_add (DE.toB (de_op o_add (DE.toB (de_ix x_ix (bv 5) (DE.toB de_int))) (DE.toB de_int))) (DE.toB (de_op o_mod (DE.toB (de_T c_int m_int (ab_cons (DE.toB (r__law_cell.toE gA hr (da_cons (dv 0) (da_cons de_int da_nil)))) ab_nil))) (DE.toB de_int)))) (da_cons (de_ix x_ix (bv 5) (DE.toB de_int)) da_nil))))) (ss_one (st_if (dt_cmp (o_eq hu) (DE.toB (de_ix x_ix (bv 1) (DE.toB de_int))) (DE.toB de_int)) (ss_one (st_set (i := 10) nd (r__law_ratio.toE gA hr (da_cons (de_op o_add (DE.toB (de_op o_mul (DE.toB (de_op o_mul (DE.toB (de_ix x_ix (bv 5) (DE.toB de_int))) (bv 2))) (bv 2))) (bv 7)) (da_cons (de_op o_mul (DE.toB (de_op o_mul (DE.toB (de_ix x_ix (bv 5) (DE.toB de_int))) (bv 2))) (bv 2)) da_nil))))) (ss_one (st_set (i := 10) nd (r__law_ratio.toE gA hr (da_cons (de_op o_add (DE.toB (de_op o_mul (DE.toB (de_ix x_ix (bv 5) (DE.toB de_int))) (bv 6))) (DE.toB (de_op o_mul (bv 7) (DE.toB (de_ix x_ix (bv 5) (DE.toB de_int)))))) (da_cons (de_op o_mul (DE.toB (de_ix x_ix (bv 5) (DE.toB de_int))) (bv 6)) da_nil))))))))))
    (ss_cons (st_if (dt_cmp (o_eq hu) (DE.toB (de_ix x_ix (bv 1) (DE.toB de_int))) (DE.toB de_int)) (ss_cons (st_set (i := 11) nd (de_tup (da_cons (de_un u_neg (DE.toB (de_ix x_ix (bv 10) (DE.toB de_int)))) (da_cons (de_ix x_ix (bv 10) (DE.toB de_int)) da_nil))))
    (ss_cons (st_set (i := 10) nd (de_tup (da_cons (de_un u_neg (DE.toB (de_ix x_ix (bv 5) (DE.toB de_int)))) (da_cons (de_ix x_ix (bv 5) (DE.toB de_int)) da_nil))))
    (ss_one (st_set (i := 5) nd (dv 11))))) ss_nil)
    (ss_cons (st_set (i := 8) nd (DLs.toE (dl_lst (da_cons (DLs.toE (dl_T c_list m_list (ab_cons (bv 5) ab_nil))) (da_cons (dv 10) da_nil)))))
    (ss_cons (st_if (dt_cmp (o_eq hu) (DE.toB (de_ix x_ix (bv 1) (DE.toB de_int))) (DE.toB de_int)) (ss_one (st_set (i := 8) nd (DLs.toE (dl_lst (da_cons (dv 5) (da_cons (DLs.toE (dl_T c_list m_list (ab_cons (bv 10) ab_nil))) da_nil)))))) ss_nil)
    (ss_cons (st_set (i := 9) nd (r_simplest_between.toE gA hr (da_cons (de_ix x_ix (bv 8) (DE.toB de_int)) (da_cons (de_ix x_ix (bv 8) (DE.toB de_int)) da_nil))))
    (ss_cons (st_if (dt_not (dt_val (r__law_is_simplest.toE gA hr (da_cons (dv 9) (da_cons (dv 5) (da_cons (dv 10) da_nil)))))) (ss_one (st_ret de_bl)) ss_nil)
    (ss_cons (st_if (dt_cmp (o_ne hu) (DE.toB (de_B (c_repr hdg gA hu) m_repr (ab_cons (DE.toB (DLs.toE (dl_lst (da_cons (DLs.toE (dl_T c_list m_list (ab_cons (DE.toB (de_ix x_ix (bv 8) (DE.toB de_int))) ab_nil))) (da_cons (DLs.toE (dl_T c_list m_list (ab_cons (DE.toB (de_ix x_ix (bv 8) (DE.toB de_int))) ab_nil))) da_nil))))) ab_nil))) (DE.toB (de_B (c_repr hdg gA hu) m_repr (ab_cons (DE.toB (DLs.toE (dl_lst (da_cons (DLs.toE (dl_T c_list m_list (ab_cons (bv 5) ab_nil))) (da_cons (DLs.toE (dl_T c_list m_list (ab_cons (bv 10) ab_nil))) da_nil))))) ab_nil)))) (ss_one (st_ret de_bl)) ss_nil)
    (ss_cons (st_if (dt_not (dt_val (r__law_is_simplest.toE gA hr (da_cons (r_simplest_between.toE gA hr (da_cons (dv 5) (da_cons (dv 9) da_nil))) (da_cons (dv 5) (da_cons (dv 9) da_nil)))))) (ss_one (st_ret de_bl)) ss_nil)
    (ss_cons (st_if (dt_not (dt_val (r__law_is_simplest.toE gA hr (da_cons (r_simplest_between.toE gA hr (da_cons (dv 9) (da_cons (dv 10) da_nil))) (da_cons (dv 9) (da_cons (dv 10) da_nil)))))) (ss_one (st_ret de_bl)) ss_nil)
    (ss_one (st_ret (de_cmp (o_eq hu) (DE.toB (de_B (c_repr hdg gA hu) m_repr (ab_cons (DE.toB (r_simplest_between.toE gA hr (da_cons (dv 5) (da_cons (dv 10) da_nil)))) ab_nil))) (DE.toB (de_B (c_repr hdg gA hu) m_repr (ab_cons (bv 9) ab_nil))))))))))))))))))))))), ?_⟩
  clear F nd hu hr gA E H s outer A cdv hdg m_int m_list m_repr r__law_digits r__law_cell r__law_ratio r_simplest_between r__law_is_simplest
  intro ds q hl hg
  obtain ⟨ns, rfl, hb, hq⟩ := hg
  show sSeq _ _ _ [some (.val (.list (ns.map .int))), none, none, none, none, none, none, none, none, none, none, none]
  refine sq_i fun k hk => ?_
  walk_at "rd"
  refine ⟨ns, 0, rfl, by decide, hb, fun c0 _ => ?_⟩
  walk_at "rd"
  refine ⟨c0, [6, 6, 2, 3, 2], rfl, by decide, by decide, fun rs hrs => ?_⟩
  obtain ⟨r0, _, rfl, a0, hrs⟩ := hrs.cons
  obtain ⟨r1, _, rfl, a1, hrs⟩ := hrs.cons
  obtain ⟨r2, _, rfl, a2, hrs⟩ := hrs.cons
  obtain ⟨r3, _, rfl, a3, hrs⟩ := hrs.cons
  obtain ⟨r4, _, rfl, a4, hrs⟩ := hrs.cons
  obtain rfl := hrs.nil
  walk_at "rd"
  subst hk
  refine sq_i fun k hk => ?_
  walk_at "rd"
  refine ⟨by decide, by decide, by decide, ?_⟩
  refine gIx_ints (ns := [7, 60, 1000, 10 ^ 9, 10 ^ 20, 10 ^ 12]) (fun n => 7 ≤ n ∧ n ≤ 10 ^ 20) a0.1 a0.2 (fun n e => ?_) fun sp hsp => ?_
  · have := List.mem_of_getElem? e
    simp only [List.mem_cons, List.not_mem_nil, or_false] at this
    rcases this with rfl | rfl | rfl | rfl | rfl | rfl <;> decide +kernel
  subst hk
  refine sq_i fun k hk => ?_
  walk_at "rd"
  refine ⟨ns, 1, rfl, by decide, hb, fun c1 _ => ?_⟩
  walk_at "rd"
  refine ⟨by omega, ?_⟩
  have f1 := fmod_pos (a := c1) (b := sp) (by omega)
  obtain ⟨bo, hbo⟩ : ∃ bo, bo = 1 + c1.fmod sp := ⟨_, rfl⟩
  rw [← hbo]
  have hbo1 : 1 ≤ bo ∧ bo ≤ 10 ^ 20 := by omega
  subst hk
  refine sq_i fun k hk => ?_
  walk_at "rd"
  refine ⟨ns, 2, rfl, by decide, hb, fun c2 _ => ?_⟩
  walk_at "rd"
  refine ⟨mul_l (by decide) (by decide), by omega, ?_⟩
  have f2 := fmod_pos (a := c2) (b := 3 * sp) (by omega)
  obtain ⟨to, hto⟩ : ∃ to, to = c2.fmod (3 * sp) - sp := ⟨_, rfl⟩
  rw [← hto]
  have hto1 : -(10 ^ 20) ≤ to ∧ to ≤ 3 * 10 ^ 20 := by omega
  clear hto f2
  subst hk
  refine sq_i fun k hk => if_n fun T hT => ?_
  have fin : ∀ to : Int, -(10 ^ 20) ≤ to ∧ to ≤ 3 * 10 ^ 20 → k [some (.val (.list (ns.map .int))), some (.val (.list [.int r0, .int r1, .int r2, .int r3, .int r4])), some (.val (.int sp)), some (.val (.int bo)), some (.val (.int to)), none, none, none, none, none, none, none] := by
    intro to hto
    clear hT T
    subst hk
    refine sq_i fun k hk => ?_
    walk_at "rd"
    refine ⟨to, bo, rfl, by omega, bits_lt (by omega) (by omega), fun t u hr => ?_⟩
    walk_at "rd"
    have bto : intBits to ≤ 70 := bits_lt (by omega) (by omega)
    have bbo : intBits bo ≤ 70 := bits_lt (by omega) (by omega)
    obtain ⟨bt, bu⟩ := hr.bits (by omega) bto bbo
    have hu := hr.1
    subst hk
    refine sq_i fun k hk => ?_
    walk_at "rd"
    refine ⟨ns, 3, rfl, by decide, hb, fun c3 _ => ?_⟩
    walk_at "rd"
    refine ⟨by omega, ?_⟩
    have f3 := fmod_pos (a := c3) (b := sp) (by omega)
    obtain ⟨ot, hot⟩ : ∃ ot, ot = 1 + c3.fmod sp := ⟨_, rfl⟩
    rw [← hot]
    have hot1 : 1 ≤ ot ∧ ot ≤ 10 ^ 20 := by omega
    subst hk
    refine sq_i fun k hk => ?_
    walk_at "rd"
    refine ⟨ns, 4, rfl, by decide, hb, fun c4 _ => ?_⟩
    walk_at "rd"
    refine gIx_ints (ns := [3, 11, 1, 1, 5, sp]) (fun n => 1 ≤ n ∧ n ≤ 10 ^ 20) a1.1 a1.2 (fun n e => ?_) fun st hst => ?_
    · have := List.mem_of_getElem? e
      simp only [List.mem_cons, List.not_mem_nil, or_false] at this
      rcases this with rfl | rfl | rfl | rfl | rfl | rfl
      · decide +kernel
      · decide +kernel
      · decide +kernel
      · decide +kernel
      · decide +kernel
      · omega
    walk_at "rd"
    refine ⟨by omega, ?_⟩
    have f4 := fmod_pos (a := c4) (b := st) (by omega)
    obtain ⟨se, hse⟩ : ∃ se, se = 1 + c4.fmod st := ⟨_, rfl⟩
    rw [← hse]
    have hse1 : 1 ≤ se ∧ se ≤ 10 ^ 20 := by omega
    clear hse f4 hot f3 hst
    subst hk
    have bsp : intBits sp ≤ 70 := bits_lt (by omega) (by omega)
    have bot : intBits ot ≤ 70 := bits_lt (by omega) (by omega)
    have bse : intBits se ≤ 70 := bits_lt (by omega) (by omega)
    refine sq_i fun k hk => ?_
    -- behind the draw of the upper end
    have fin : ∀ v w X Y : Int, IsRat v w X Y → 0 < Y → t * Y < X * u → intBits X ≤ 230 → intBits Y ≤ 230 → k [some (.val (.list (ns.map .int))), some (.val (.list [.int r0, .int r1, .int r2, .int r3, .int r4])), some (.val (.int sp)), some (.val (.int bo)), some (.val (.int to)), some (.val (.tuple [.int t, .int u])), some (.val (.int ot)), some (.val (.int se)), none, none, some (.val (.tuple [.int v, .int w])), none] := by
      intro v w X Y hvw hY hXY bX bY
      have hw := hvw.1
      have hlt := rat_above hvw hY hXY (show 0 < u by omega)
      obtain ⟨bv, bw⟩ := hvw.bits (by omega) bX bY
      subst hk
      refine sq_i fun k hk => if_n fun T hT => ?_
      have fin2 : ∀ (a b c d : Int) (sw : Option DV), 0 < b → 0 < d → a * d < c * b → intBits a ≤ 230 → intBits b ≤ 230 → intBits c ≤ 230 → intBits d ≤ 230 → k [some (.val (.list (ns.map .int))), some (.val (.list [.int r0, .int r1, .int r2, .int r3, .int r4])), some (.val (.int sp)), some (.val (.int bo)), some (.val (.int to)), some (.val (.tuple [.int a, .int b])), some (.val (.int ot)), some (.val (.int se)), none, none, some (.val (.tuple [.int c, .int d])), sw] := by
        intro a b c d sw hb0 hd0 hac ba bb bc bd
        clear hT T
        have up : ∀ {x : Int} {i : Nat}, intBits x ≤ i → i ≤ 700 → intBits x ≤ 700 := fun h h' => Nat.le_trans h h'
        have u7 : ∀ {x : Int}, intBits x ≤ 230 → intBits x ≤ 700 := fun h => Nat.le_trans h (by decide)
        have u12 : ∀ {x : Int}, intBits x ≤ 700 → intBits x ≤ 12000 := fun h => Nat.le_trans h (by decide)
        subst hk
        refine sq_i fun k hk => ?_
        walk_at "rd"
        subst hk
        refine sq_i fun k hk => if_n fun T hT => ?_
        have fin3 : ∀ X Y : D, Pr X a b → Pr Y c d → k [some (.val (.list (ns.map .int))), some (.val (.list [.int r0, .int r1, .int r2, .int r3, .int r4])), some (.val (.int sp)), some (.val (.int bo)), some (.val (.int to)), some (.val (.tuple [.int a, .int b])), some (.val (.int ot)), some (.val (.int se)), some (.val (.list [X, Y])), none, some (.val (.tuple [.int c, .int d])), sw] := by
          intro X Y hX hY
          clear hT T
          subst hk
          refine sq_i fun k hk => ?_
          walk_at "rd"
          refine ⟨X, Y, a, b, c, d, rfl, hX, hY, hb0, hd0, hac, u7 ba, u7 bb, u7 bc, u7 bd, fun p m hS => ?_⟩
          obtain ⟨bp, bm⟩ := simp_bits hb0 hd0 hac hS (by decide) ba bb bc bd
          obtain ⟨s1, s2, s3, s4, s5⟩ := simp_facts hb0 hd0 hac hS
          have bp7 : intBits p ≤ 700 := Nat.le_trans bp (by decide)
          have bm7 : intBits m ≤ 700 := Nat.le_trans bm (by decide)
          walk_at "rd"
          subst hk
          refine sq_i fun k hk => if_n fun T hT => ?_
          walk_at "rd"
          refine ⟨p, m, a, b, c, d, rfl, hb0, hd0, hac, hS, u7 ba, u7 bb, u7 bc, u7 bd, ?_⟩
          walk_at "rd"
          subst hk
          refine sq_i fun k hk => if_n fun T hT => ?_
          have go : k [some (.val (.list (ns.map .int))), some (.val (.list [.int r0, .int r1, .int r2, .int r3, .int r4])), some (.val (.int sp)), some (.val (.int bo)), some (.val (.int to)), some (.val (.tuple [.int a, .int b])), some (.val (.int ot)), some (.val (.int se)), some (.val (.list [X, Y])), some (.val (.tuple [.int p, .int m])), some (.val (.tuple [.int c, .int d])), sw] := by
            clear hT T
            subst hk
            refine sq_i fun k hk => if_n fun T hT => ?_
            walk_at "rd"
            refine ⟨_, _, a, b, p, m, rfl, .inl rfl, .inl rfl, hb0, by omega, s3, u7 ba, u7 bb, bp7, bm7, fun p2 m2 hS2 => ?_⟩
            walk_at "rd"
            refine ⟨p2, m2, a, b, p, m, rfl, hb0, by omega, s3, hS2, u7 ba, u7 bb, bp7, bm7, ?_⟩
            walk_at "rd"
            subst hk
            refine sq_i fun k hk => if_n fun T hT => ?_
            walk_at "rd"
            refine ⟨_, _, p, m, c, d, rfl, .inl rfl, .inl rfl, by omega, hd0, s4, bp7, bm7, u7 bc, u7 bd, fun p3 m3 hS3 => ?_⟩
            walk_at "rd"
            refine ⟨p3, m3, p, m, c, d, rfl, by omega, hd0, s4, hS3, bp7, bm7, u7 bc, u7 bd, ?_⟩
            walk_at "rd"
            subst hk
            walk_at "rd"
            refine ⟨_, _, a, b, c, d, rfl, .inl rfl, .inl rfl, hb0, hd0, hac, u7 ba, u7 bb, u7 bc, u7 bd, fun p4 m4 hS4 => ?_⟩
            obtain ⟨rfl, rfl⟩ := simp_uniq hb0 hd0 hS4 hS
            walk_at "rd"
            refine gRepr_pair (u12 bp7) (u12 bm7) ?_
            refine gRepr_pair (u12 bp7) (u12 bm7) ?_
            walk_at "rd"
            simpa using hq
          have rp : ∀ q : D → Prop, q (.str (PyData.shown (.list [.list [.int a, .int b], .list [.int c, .int d]]))) → gRepr [.list [.list [.int a, .int b], .list [.int c, .int d]]] q := fun q h => gRepr_pairs (u12 (u7 ba)) (u12 (u7 bb)) (u12 (u7 bc)) (u12 (u7 bd)) h
          rcases hX with rfl | rfl <;> rcases hY with rfl | rfl <;> (walk_at "rd"; refine rp _ ?_; refine rp _ ?_; walk_at "rd"; first | exact go | simpa using go)
        walk_at "rd"
        refine ⟨fun h => ?_, fun h => fin3 _ _ (.inr rfl) (.inl rfl)⟩
        subst hT
        walk_at "rd"
        exact fin3 _ _ (.inl rfl) (.inr rfl)
      have bt' : intBits t ≤ 230 := Nat.le_trans bt (by decide)
      have bu' : intBits u ≤ 230 := Nat.le_trans bu (by decide)
      walk_at "rd"
      refine ⟨fun h => ?_, fun h => fin2 _ _ _ _ _ (by omega) (by omega) hlt bt' bu' bv bw⟩
      subst hT
      refine sq_i fun k2 hk2 => ?_
      walk_at "rd"
      subst hk2
      refine sq_i fun k2 hk2 => ?_
      walk_at "rd"
      subst hk2
      walk_at "rd"
      exact fin2 _ _ _ _ _ (by omega) (by omega) (by rw [Int.neg_mul, Int.neg_mul]; omega) (intBits_neg_le bv) bw (intBits_neg_le bt') bu'
    have mk : ∀ {x y : Int} {i j : Nat}, intBits x ≤ i → intBits y ≤ j → i + j ≤ 134217728 → MulOk x y := fun h h' l => MulOk.of_le h h' l
    have mb : ∀ {x y : Int} {i j n : Nat}, intBits x ≤ i → intBits y ≤ j → i + j ≤ n → intBits (x * y) ≤ n := fun h h' l => Nat.le_trans (intBits_mul_le h h') l
    have ab : ∀ {x y : Int} {n : Nat}, intBits x ≤ n → intBits y ≤ n → intBits (x + y) ≤ n + 1 := fun h h' => Nat.le_trans (intBits_add_le h h') (by omega)
    have up8 : ∀ {x : Int} {n : Nat}, intBits x ≤ n → n ≤ 8000 → intBits x ≤ 8000 := fun h l => Nat.le_trans h l
    have b1 : ∀ n : Nat, 1 ≤ n → intBits 1 ≤ n := fun n h => Nat.le_trans (by decide) h
    refine if_in fun T U hT hU => ?_
    have hT' : T := by
      subst hT
      walk_at "rd"
      have y0 : 0 < u * ot := Int.mul_pos (by omega) (by omega)
      have yb : intBits (u * ot) ≤ 140 := mb bu bot (by decide)
      refine ⟨mk bt bot (by decide), mk bu bot (by decide), _, _, rfl, by omega, up8 yb (by decide), fun v w hvw => ?_⟩
      walk_at "rd"
      exact fin v w _ _ hvw y0 (lt_of_sub (z := u) (w := 0) (by grind) (by omega)) (Nat.le_trans (ab (mb bt bot (by decide)) (b1 140 (by decide))) (by decide)) (Nat.le_trans yb (by decide))
    have hU' : U := by
      subst hU
      refine if_in fun T U hT hU => ?_
      have hT' : T := by
        subst hT
        walk_at "rd"
        refine ⟨ns, 5, rfl, by decide, hb, fun c6 _ => ?_⟩
        walk_at "rd"
        have f6 := fmod_pos (a := c6) (b := 3) (by decide)
        generalize c6.fmod 3 = e at f6 ⊢
        have be : intBits e ≤ 71 := bits_lt (by omega) (by omega)
        refine ⟨by decide, _, _, rfl, by omega, up8 bu (by decide), fun v w hvw => ?_⟩
        walk_at "rd"
        refine fin v w _ _ hvw (by omega) (Int.mul_lt_mul_of_pos_right (by omega) (by omega)) (Nat.le_trans (ab (ab bt (b1 70 (by decide))) be) (by decide)) (Nat.le_trans bu (by decide))
      have hU' : U := by
        subst hU
        refine if_in fun T U hT hU => ?_
        have hT' : T := by
          subst hT
          walk_at "rd"
          have y1 : 0 < u * sp := Int.mul_pos (by omega) (by omega)
          have y0 : 0 < u * sp * sp := Int.mul_pos y1 (by omega)
          have b2 : intBits (u * sp) ≤ 140 := mb bu bsp (by decide)
          have b3 : intBits (t * sp) ≤ 140 := mb bt bsp (by decide)
          have yb : intBits (u * sp * sp) ≤ 210 := mb b2 bsp (by decide)
          refine ⟨mk bt bsp (by decide), mk b3 bsp (by decide), mk bu bsp (by decide), mk b2 bsp (by decide), _, _, rfl, by omega, up8 yb (by decide), fun v w hvw => ?_⟩
          walk_at "rd"
          exact fin v w _ _ hvw y0 (lt_of_sub (z := se * u) (w := 0) (by grind) (Int.mul_pos (by omega) (by omega))) (Nat.le_trans (ab (mb b3 bsp (by decide)) (n := 210) (Nat.le_trans bse (by decide))) (by decide)) (Nat.le_trans yb (by decide))
        have hU' : U := by
          subst hU
          walk_at "rd"
          have y0 : 0 < u * ot := Int.mul_pos (by omega) (by omega)
          have yb : intBits (u * ot) ≤ 140 := mb bu bot (by decide)
          refine ⟨mk bt bot (by decide), mk bse bu (by decide), mk bu bot (by decide), _, _, rfl, by omega, up8 yb (by decide), fun v w hvw => ?_⟩
          walk_at "rd"
          exact fin v w _ _ hvw y0 (lt_of_sub (z := se * u * u) (w := 0) (by grind) (Int.mul_pos (Int.mul_pos (by omega) (by omega)) (by omega))) (Nat.le_trans (ab (n := 140) (mb bt bot (by decide)) (mb bse bu (by decide))) (by decide)) (Nat.le_trans yb (by decide))
        walk_at "rd"
        exact ⟨fun _ => hT', fun _ => hU'⟩
      walk_at "rd"
      exact ⟨fun _ => hT', fun _ => hU'⟩
    walk_at "rd"
    exact ⟨fun _ => hT', fun _ => hU'⟩
  walk_at "rd"
  refine ⟨fun h => ?_, fun h => fin _ hto1⟩
  subst hT
  walk_at "rd"
  refine ⟨ns, 2, rfl, by decide, hb, fun c5 _ => ?_⟩
  walk_at "rd"
  have f2 := fmod_pos (a := c5) (b := sp) (by omega)
  exact ⟨by omega, fin _ (by omega)⟩
theorem law_call (ns : List Int) (_ : ns.length ≤ 63) (hb : ∀ i ∈ ns, intBits i ≤ 1048576) : f_law [.list (ns.map .int)] fun r => r = .val (.bool true) := ⟨ns, rfl, hb, rfl⟩

end
theorem all_mk {l : PySem.W.OpenLaw} {w : World} {K : Frag} {h : Heap} {mg : Str → Option Value} {fa : Addr} (X : K.In h) (G : h.Ns mainGlobals mg) (hfa : mg "law" = some (.ref fa))
    {f0 : Addr} {od0 an0 : Option Addr} {sl0 : Array (Option Value)} {oc0 kV0 dc0 pm0 cd0 ct0 : Value} {f1 : Addr} {od1 an1 : Option Addr} {sl1 : Array (Option Value)} {oc1 kV1 dc1 pm1 cd1 ct1 : Value} {f2 : Addr} {od2 an2 : Option Addr} {sl2 : Array (Option Value)} {oc2 kV2 dc2 pm2 cd2 ct2 : Value} {f3 : Addr} {od3 an3 : Option Addr} {sl3 : Array (Option Value)} {oc3 kV3 dc3 pm3 cd3 ct3 : Value} {f4 : Addr} {od4 an4 : Option Addr} {sl4 : Array (Option Value)} {oc4 kV4 dc4 pm4 cd4 ct4 : Value} {f5 : Addr} {od5 an5 : Option Addr} {sl5 : Array (Option Value)} {oc5 kV5 dc5 pm5 cd5 ct5 : Value} {f6 : Addr} {od6 an6 : Option Addr} {sl6 : Array (Option Value)} {oc6 kV6 dc6 pm6 cd6 ct6 : Value} {f7 : Addr} {od7 an7 : Option Addr} {sl7 : Array (Option Value)} {oc7 kV7 dc7 pm7 cd7 ct7 : Value} {f8 : Addr} {od8 an8 : Option Addr} {sl8 : Array (Option Value)} {oc8 kV8 dc8 pm8 cd8 ct8 : Value} {f9 : Addr} {od9 an9 : Option Addr} {sl9 : Array (Option Value)} {oc9 kV9 dc9 pm9 cd9 ct9 : Value} {f10 : Addr} {od10 an10 : Option Addr} {sl10 : Array (Option Value)} {oc10 kV10 dc10 pm10 cd10 ct10 : Value} {f11 : Addr} {od11 an11 : Option Addr} {sl11 : Array (Option Value)} {oc11 kV11 dc11 pm11 cd11 ct11 : Value} {f12 : Addr} {od12 an12 : Option Addr} {sl12 : Array (Option Value)} {oc12 kV12 dc12 pm12 cd12 ct12 : Value} {f13 : Addr} {od13 an13 : Option Addr} {sl13 : Array (Option Value)} {oc13 kV13 dc13 pm13 cd13 ct13 : Value} {f14 : Addr} {od14 an14 : Option Addr} {sl14 : Array (Option Value)} {oc14 kV14 dc14 pm14 cd14 ct14 : Value} {f15 : Addr} {od15 an15 : Option Addr} {sl15 : Array (Option Value)} {oc15 kV15 dc15 pm15 cd15 ct15 : Value}
    (a0 : PySem.W.nsIn K mainGlobals "_law_whole" = some (some (.ref f0))) (l0 : K.lookup f0 = some ⟨oc0, od0, .func (PySem.W.fnOf "_law_whole" "_law_whole" (defArgs s__law_whole) (defBody s__law_whole) (defScope s__law_whole) .none kV0 dc0 pm0 an0 cd0 ct0), sl0⟩) (c0 : PySem.W.codeIn K cd0 "_law_whole" = true) (k0 : PySem.W.keepIn K (.ref f0) = true)
    (a1 : PySem.W.nsIn K mainGlobals "_law_cell" = some (some (.ref f1))) (l1 : K.lookup f1 = some ⟨oc1, od1, .func (PySem.W.fnOf "_law_cell" "_law_cell" (defArgs s__law_cell) (defBody s__law_cell) (defScope s__law_cell) .none kV1 dc1 pm1 an1 cd1 ct1), sl1⟩) (c1 : PySem.W.codeIn K cd1 "_law_cell" = true) (k1 : PySem.W.keepIn K (.ref f1) = true)
    (a2 : PySem.W.nsIn K mainGlobals "_law_digits" = some (some (.ref f2))) (l2 : K.lookup f2 = some ⟨oc2, od2, .func (PySem.W.fnOf "_law_digits" "_law_digits" (defArgs s__law_digits) (defBody s__law_digits) (defScope s__law_digits) .none kV2 dc2 pm2 an2 cd2 ct2), sl2⟩) (c2 : PySem.W.codeIn K cd2 "_law_digits" = true) (k2 : PySem.W.keepIn K (.ref f2) = true)
    (a3 : PySem.W.nsIn K mainGlobals "_law_gcd" = some (some (.ref f3))) (l3 : K.lookup f3 = some ⟨oc3, od3, .func (PySem.W.fnOf "_law_gcd" "_law_gcd" (defArgs s__law_gcd) (defBody s__law_gcd) (defScope s__law_gcd) .none kV3 dc3 pm3 an3 cd3 ct3), sl3⟩) (c3 : PySem.W.codeIn K cd3 "_law_gcd" = true) (k3 : PySem.W.keepIn K (.ref f3) = true)
    (a4 : PySem.W.nsIn K mainGlobals "whole_sign" = some (some (.ref f4))) (l4 : K.lookup f4 = some ⟨oc4, od4, .func (PySem.W.fnOf "whole_sign" "whole_sign" (defArgs s_whole_sign) (defBody s_whole_sign) (defScope s_whole_sign) .none kV4 dc4 pm4 an4 cd4 ct4), sl4⟩) (c4 : PySem.W.codeIn K cd4 "whole_sign" = true) (k4 : PySem.W.keepIn K (.ref f4) = true)
    (a5 : PySem.W.nsIn K mainGlobals "compare_ratios" = some (some (.ref f5))) (l5 : K.lookup f5 = some ⟨oc5, od5, .func (PySem.W.fnOf "compare_ratios" "compare_ratios" (defArgs s_compare_ratios) (defBody s_compare_ratios) (defScope s_compare_ratios) .none kV5 dc5 pm5 an5 cd5 ct5), sl5⟩) (c5 : PySem.W.codeIn K cd5 "compare_ratios" = true) (k5 : PySem.W.keepIn K (.ref f5) = true)
    (a6 : PySem.W.nsIn K mainGlobals "whole_fits" = some (some (.ref f6))) (l6 : K.lookup f6 = some ⟨oc6, od6, .func (PySem.W.fnOf "whole_fits" "whole_fits" (defArgs s_whole_fits) (defBody s_whole_fits) (defScope s_whole_fits) .none kV6 dc6 pm6 an6 cd6 ct6), sl6⟩) (c6 : PySem.W.codeIn K cd6 "whole_fits" = true) (k6 : PySem.W.keepIn K (.ref f6) = true)
    (a7 : PySem.W.nsIn K mainGlobals "fold_wholes" = some (some (.ref f7))) (l7 : K.lookup f7 = some ⟨oc7, od7, .func (PySem.W.fnOf "fold_wholes" "fold_wholes" (defArgs s_fold_wholes) (defBody s_fold_wholes) (defScope s_fold_wholes) .none kV7 dc7 pm7 an7 cd7 ct7), sl7⟩) (c7 : PySem.W.codeIn K cd7 "fold_wholes" = true) (k7 : PySem.W.keepIn K (.ref f7) = true)
    (a8 : PySem.W.nsIn K mainGlobals "simplest_positive" = some (some (.ref f8))) (l8 : K.lookup f8 = some ⟨oc8, od8, .func (PySem.W.fnOf "simplest_positive" "simplest_positive" (defArgs s_simplest_positive) (defBody s_simplest_positive) (defScope s_simplest_positive) .none kV8 dc8 pm8 an8 cd8 ct8), sl8⟩) (c8 : PySem.W.codeIn K cd8 "simplest_positive" = true) (k8 : PySem.W.keepIn K (.ref f8) = true)
    (a9 : PySem.W.nsIn K mainGlobals "simplest_between" = some (some (.ref f9))) (l9 : K.lookup f9 = some ⟨oc9, od9, .func (PySem.W.fnOf "simplest_between" "simplest_between" (defArgs s_simplest_between) (defBody s_simplest_between) (defScope s_simplest_between) .none kV9 dc9 pm9 an9 cd9 ct9), sl9⟩) (c9 : PySem.W.codeIn K cd9 "simplest_between" = true) (k9 : PySem.W.keepIn K (.ref f9) = true)
    (a10 : PySem.W.nsIn K mainGlobals "_law_ratio" = some (some (.ref f10))) (l10 : K.lookup f10 = some ⟨oc10, od10, .func (PySem.W.fnOf "_law_ratio" "_law_ratio" (defArgs s__law_ratio) (defBody s__law_ratio) (defScope s__law_ratio) .none kV10 dc10 pm10 an10 cd10 ct10), sl10⟩) (c10 : PySem.W.codeIn K cd10 "_law_ratio" = true) (k10 : PySem.W.keepIn K (.ref f10) = true)
    (a11 : PySem.W.nsIn K mainGlobals "_law_whole_between" = some (some (.ref f11))) (l11 : K.lookup f11 = some ⟨oc11, od11, .func (PySem.W.fnOf "_law_whole_between" "_law_whole_between" (defArgs s__law_whole_between) (defBody s__law_whole_between) (defScope s__law_whole_between) .none kV11 dc11 pm11 an11 cd11 ct11), sl11⟩) (c11 : PySem.W.codeIn K cd11 "_law_whole_between" = true) (k11 : PySem.W.keepIn K (.ref f11) = true)
    (a12 : PySem.W.nsIn K mainGlobals "_law_partner" = some (some (.ref f12))) (l12 : K.lookup f12 = some ⟨oc12, od12, .func (PySem.W.fnOf "_law_partner" "_law_partner" (defArgs s__law_partner) (defBody s__law_partner) (defScope s__law_partner) .none kV12 dc12 pm12 an12 cd12 ct12), sl12⟩) (c12 : PySem.W.codeIn K cd12 "_law_partner" = true) (k12 : PySem.W.keepIn K (.ref f12) = true)
    (a13 : PySem.W.nsIn K mainGlobals "_law_parents_outside" = some (some (.ref f13))) (l13 : K.lookup f13 = some ⟨oc13, od13, .func (PySem.W.fnOf "_law_parents_outside" "_law_parents_outside" (defArgs s__law_parents_outside) (defBody s__law_parents_outside) (defScope s__law_parents_outside) .none kV13 dc13 pm13 an13 cd13 ct13), sl13⟩) (c13 : PySem.W.codeIn K cd13 "_law_parents_outside" = true) (k13 : PySem.W.keepIn K (.ref f13) = true)
    (a14 : PySem.W.nsIn K mainGlobals "_law_is_simplest" = some (some (.ref f14))) (l14 : K.lookup f14 = some ⟨oc14, od14, .func (PySem.W.fnOf "_law_is_simplest" "_law_is_simplest" (defArgs s__law_is_simplest) (defBody s__law_is_simplest) (defScope s__law_is_simplest) .none kV14 dc14 pm14 an14 cd14 ct14), sl14⟩) (c14 : PySem.W.codeIn K cd14 "_law_is_simplest" = true) (k14 : PySem.W.keepIn K (.ref f14) = true)
    (a15 : PySem.W.nsIn K mainGlobals "law" = some (some (.ref f15))) (l15 : K.lookup f15 = some ⟨oc15, od15, .func (PySem.W.fnOf "law" "law" (defArgs s_law) (defBody s_law) (defScope s_law) .none kV15 dc15 pm15 an15 cd15 ct15), sl15⟩) (c15 : PySem.W.codeIn K cd15 "law" = true) (k15 : PySem.W.keepIn K (.ref f15) = true)
    (z0 : PySem.W.nsIn K mainGlobals "abs" = some none)
    (z1 : PySem.W.nsIn K mainGlobals "bool" = some none)
    (z2 : PySem.W.nsIn K mainGlobals "int" = some none)
    (z3 : PySem.W.nsIn K mainGlobals "isinstance" = some none)
    (z4 : PySem.W.nsIn K mainGlobals "len" = some none)
    (z5 : PySem.W.nsIn K mainGlobals "list" = some none)
    (z6 : PySem.W.nsIn K mainGlobals "range" = some none)
    (z7 : PySem.W.nsIn K mainGlobals "repr" = some none)
    (z8 : PySem.W.nsIn K mainGlobals "reversed" = some none)
    (z9 : PySem.W.nsIn K mainGlobals "tuple" = some none)
    : ∃ fd : FuncData, (∀ (s : Shared) (v : Value), BindsTo s fd ⟨[v], []⟩ [("script", v)]) ∧ ∀ base : Heap, K.In base → base.Ns mainGlobals mg → base.NoDigits → FnG l.prog w K mg base 6 fa fd ["script"] (SpD K 1 f_law) := by
  have e := hfa.symm.trans (PySem.W.mg_of X G a15)
  cases e
  have F0 := fun_mk (st := s__law_whole) l0 c0 k0
  have F1 := fun_mk (st := s__law_cell) l1 c1 k1
  have F2 := fun_mk (st := s__law_digits) l2 c2 k2
  have F3 := fun_mk (st := s__law_gcd) l3 c3 k3
  have F4 := fun_mk (st := s_whole_sign) l4 c4 k4
  have F5 := fun_mk (st := s_compare_ratios) l5 c5 k5
  have F6 := fun_mk (st := s_whole_fits) l6 c6 k6
  have F7 := fun_mk (st := s_fold_wholes) l7 c7 k7
  have F8 := fun_mk (st := s_simplest_positive) l8 c8 k8
  have F9 := fun_mk (st := s_simplest_between) l9 c9 k9
  have F10 := fun_mk (st := s__law_ratio) l10 c10 k10
  have F11 := fun_mk (st := s__law_whole_between) l11 c11 k11
  have F12 := fun_mk (st := s__law_partner) l12 c12 k12
  have F13 := fun_mk (st := s__law_parents_outside) l13 c13 k13
  have F14 := fun_mk (st := s__law_is_simplest) l14 c14 k14
  have F15 := fun_mk (st := s_law) l15 c15 k15
  have m_abs := PySem.W.mg_none_of X G z0
  have m_bool := PySem.W.mg_none_of X G z1
  have m_int := PySem.W.mg_none_of X G z2
  have m_isinstance := PySem.W.mg_none_of X G z3
  have m_len := PySem.W.mg_none_of X G z4
  have m_list := PySem.W.mg_none_of X G z5
  have m_range := PySem.W.mg_none_of X G z6
  have m_repr := PySem.W.mg_none_of X G z7
  have m_reversed := PySem.W.mg_none_of X G z8
  have m_tuple := PySem.W.mg_none_of X G z9
  have b0 := F0.binds (ps := ["value"]) fun _ _ _ _ _ _ us hl => match us, hl with | [_], _ => rfl
  have b1 := F1.binds (ps := ["script", "k"]) fun _ _ _ _ _ _ us hl => match us, hl with | [_, _], _ => rfl
  have b2 := F2.binds (ps := ["cell", "sizes"]) fun _ _ _ _ _ _ us hl => match us, hl with | [_, _], _ => rfl
  have b3 := F3.binds (ps := ["one", "two"]) fun _ _ _ _ _ _ us hl => match us, hl with | [_, _], _ => rfl
  have b4 := F4.binds (ps := ["number"]) fun _ _ _ _ _ _ us hl => match us, hl with | [_], _ => rfl
  have b5 := F5.binds (ps := ["one", "two"]) fun _ _ _ _ _ _ us hl => match us, hl with | [_, _], _ => rfl
  have b6 := F6.binds (ps := ["left", "right"]) fun _ _ _ _ _ _ us hl => match us, hl with | [_, _], _ => rfl
  have b7 := F7.binds (ps := ["wholes", "last"]) fun _ _ _ _ _ _ us hl => match us, hl with | [_, _], _ => rfl
  have b8 := F8.binds (ps := ["low", "high"]) fun _ _ _ _ _ _ us hl => match us, hl with | [_, _], _ => rfl
  have b9 := F9.binds (ps := ["low", "high"]) fun _ _ _ _ _ _ us hl => match us, hl with | [_, _], _ => rfl
  have b10 := F10.binds (ps := ["top", "bottom"]) fun _ _ _ _ _ _ us hl => match us, hl with | [_, _], _ => rfl
  have b11 := F11.binds (ps := ["low", "high"]) fun _ _ _ _ _ _ us hl => match us, hl with | [_, _], _ => rfl
  have b12 := F12.binds (ps := ["top", "bottom"]) fun _ _ _ _ _ _ us hl => match us, hl with | [_, _], _ => rfl
  have b13 := F13.binds (ps := ["told", "low", "high"]) fun _ _ _ _ _ _ us hl => match us, hl with | [_, _, _], _ => rfl
  have b14 := F14.binds (ps := ["told", "low", "high"]) fun _ _ _ _ _ _ us hl => match us, hl with | [_, _, _], _ => rfl
  refine ⟨PySem.W.fnOf "law" "law" (defArgs s_law) (defBody s_law) (defScope s_law) .none kV15 dc15 pm15 an15 cd15 ct15, fun s v => .of_eq rfl, fun base _ _ hdg => ?_⟩
  have R__law_whole : Ready l.prog w K mg base "_law_whole" 1 1 f__law_whole := ⟨_, _, _, ok__law_whole (k := 0) F0 hdg m_bool m_int m_isinstance, PySem.W.mg_of X G a0, k0, b0⟩
  have R__law_cell : Ready l.prog w K mg base "_law_cell" 2 1 f__law_cell := ⟨_, _, _, ok__law_cell (k := 0) F1 hdg m_int m_len, PySem.W.mg_of X G a1, k1, b1⟩
  have R__law_digits : Ready l.prog w K mg base "_law_digits" 2 1 f__law_digits := ⟨_, _, _, ok__law_digits (k := 0) F2 hdg m_int m_len m_range, PySem.W.mg_of X G a2, k2, b2⟩
  have R__law_gcd : Ready l.prog w K mg base "_law_gcd" 2 1 f__law_gcd := ⟨_, _, _, ok__law_gcd (k := 0) F3 hdg m_abs m_int, PySem.W.mg_of X G a3, k3, b3⟩
  have R_whole_sign : Ready l.prog w K mg base "whole_sign" 1 1 f_whole_sign := ⟨_, _, _, ok_whole_sign (k := 0) F4 hdg , PySem.W.mg_of X G a4, k4, b4⟩
  have R_compare_ratios : Ready l.prog w K mg base "compare_ratios" 2 2 f_compare_ratios := ⟨_, _, _, ok_compare_ratios (k := 1) F5 hdg (R_whole_sign.mono (by decide)), PySem.W.mg_of X G a5, k5, b5⟩
  have R_whole_fits : Ready l.prog w K mg base "whole_fits" 2 3 f_whole_fits := ⟨_, _, _, ok_whole_fits (k := 2) F6 hdg (R_compare_ratios.mono (by decide)), PySem.W.mg_of X G a6, k6, b6⟩
  have R_fold_wholes : Ready l.prog w K mg base "fold_wholes" 2 1 f_fold_wholes := ⟨_, _, _, ok_fold_wholes (k := 0) F7 hdg m_reversed, PySem.W.mg_of X G a7, k7, b7⟩
  have R_simplest_positive : Ready l.prog w K mg base "simplest_positive" 2 4 f_simplest_positive := ⟨_, _, _, ok_simplest_positive (k := 3) F8 hdg (R_whole_fits.mono (by decide)) (R_fold_wholes.mono (by decide)), PySem.W.mg_of X G a8, k8, b8⟩
  have R_simplest_between : Ready l.prog w K mg base "simplest_between" 2 5 f_simplest_between := ⟨_, _, _, ok_simplest_between (k := 4) F9 hdg (R_simplest_positive.mono (by decide)), PySem.W.mg_of X G a9, k9, b9⟩
  have R__law_ratio : Ready l.prog w K mg base "_law_ratio" 2 2 f__law_ratio := ⟨_, _, _, ok__law_ratio (k := 1) F10 hdg (R__law_gcd.mono (by decide)), PySem.W.mg_of X G a10, k10, b10⟩
  have R__law_whole_between : Ready l.prog w K mg base "_law_whole_between" 2 1 f__law_whole_between := ⟨_, _, _, ok__law_whole_between (k := 0) F11 hdg , PySem.W.mg_of X G a11, k11, b11⟩
  have R__law_partner : Ready l.prog w K mg base "_law_partner" 2 1 f__law_partner := ⟨_, _, _, ok__law_partner (k := 0) F12 hdg m_int, PySem.W.mg_of X G a12, k12, b12⟩
  have R__law_parents_outside : Ready l.prog w K mg base "_law_parents_outside" 3 2 f__law_parents_outside := ⟨_, _, _, ok__law_parents_outside (k := 1) F13 hdg (R__law_partner.mono (by decide)), PySem.W.mg_of X G a13, k13, b13⟩
  have R__law_is_simplest : Ready l.prog w K mg base "_law_is_simplest" 3 3 f__law_is_simplest := ⟨_, _, _, ok__law_is_simplest (k := 2) F14 hdg m_isinstance m_len m_tuple (R__law_whole.mono (by decide)) (R__law_gcd.mono (by decide)) (R__law_whole_between.mono (by decide)) (R__law_parents_outside.mono (by decide)), PySem.W.mg_of X G a14, k14, b14⟩
  exact ok_law (k := 5) F15 hdg m_int m_list m_repr (R__law_digits.mono (by decide)) (R__law_cell.mono (by decide)) (R__law_ratio.mono (by decide)) (R_simplest_between.mono (by decide)) (R__law_is_simplest.mono (by decide))
end K02
open PySem PySem.W PyProof.Rows
set_option maxHeartbeats 0 in
theorem PySem.Challenge.cw_leastnest_k02_simplest_between_whole_holds : PySem.Challenge.rw_leastnest_k02_simplest_between_whole.Holds := by
  w_on; o_law; k_head; (case hw => w_witness2)
  k_fill
  refine DL.walk_G (l := PySem.Challenge.rw_leastnest_k02_simplest_between_whole) (n := 63) (k := 6) (x := "script") (g := K02.f_law) rfl (by decide) rfl ⟨rfl, by decide, by decide⟩ (fun w h Y => PySem.W.kIn_of Y) ?F K02.law_call
  case F =>
    intro w mg fa h KX G hmg
    refine' K02.all_mk KX G hmg ?a0 ?l0 ?c0 ?k0 ?a1 ?l1 ?c1 ?k1 ?a2 ?l2 ?c2 ?k2 ?a3 ?l3 ?c3 ?k3 ?a4 ?l4 ?c4 ?k4 ?a5 ?l5 ?c5 ?k5 ?a6 ?l6 ?c6 ?k6 ?a7 ?l7 ?c7 ?k7 ?a8 ?l8 ?c8 ?k8 ?a9 ?l9 ?c9 ?k9 ?a10 ?l10 ?c10 ?k10 ?a11 ?l11 ?c11 ?k11 ?a12 ?l12 ?c12 ?k12 ?a13 ?l13 ?c13 ?k13 ?a14 ?l14 ?c14 ?k14 ?a15 ?l15 ?c15 ?k15 ?z0 ?z1 ?z2 ?z3 ?z4 ?z5 ?z6 ?z7 ?z8 ?z9
    (case a0 => k_is)
    (case l0 => k_is)
    (case c0 => k_is)
    (case k0 => k_is)
    (case a1 => k_is)
    (case l1 => k_is)
    (case c1 => k_is)
    (case k1 => k_is)
    (case a2 => k_is)
    (case l2 => k_is)
    (case c2 => k_is)
    (case k2 => k_is)
    (case a3 => k_is)
    (case l3 => k_is)
    (case c3 => k_is)
    (case k3 => k_is)
    (case a4 => k_is)
    (case l4 => k_is)
    (case c4 => k_is)
    (case k4 => k_is)
    (case a5 => k_is)
    (case l5 => k_is)
    (case c5 => k_is)
    (case k5 => k_is)
    (case a6 => k_is)
    (case l6 => k_is)
    (case c6 => k_is)
    (case k6 => k_is)
    (case a7 => k_is)
    (case l7 => k_is)
    (case c7 => k_is)
    (case k7 => k_is)
    (case a8 => k_is)
    (case l8 => k_is)
    (case c8 => k_is)
    (case k8 => k_is)
    (case a9 => k_is)
    (case l9 => k_is)
    (case c9 => k_is)
    (case k9 => k_is)
    (case a10 => k_is)
    (case l10 => k_is)
    (case c10 => k_is)
    (case k10 => k_is)
    (case a11 => k_is)
    (case l11 => k_is)
    (case c11 => k_is)
    (case k11 => k_is)
    (case a12 => k_is)
    (case l12 => k_is)
    (case c12 => k_is)
    (case k12 => k_is)
    (case a13 => k_is)
    (case l13 => k_is)
    (case c13 => k_is)
    (case k13 => k_is)
    (case a14 => k_is)
    (case l14 => k_is)
    (case c14 => k_is)
    (case k14 => k_is)
    (case a15 => k_is)
    (case l15 => k_is)
    (case c15 => k_is)
    (case k15 => k_is)
    (case z0 => k_is)
    (case z1 => k_is)
    (case z2 => k_is)
    (case z3 => k_is)
    (case z4 => k_is)
    (case z5 => k_is)
    (case z6 => k_is)
    (case z7 => k_is)
    (case z8 => k_is)
    (case z9 => k_is)

