import PyProof.Rows.All
import HandS.ForMost
import HandS.Gcd
import HandS.IsInst
import HandS.Conv
import HandS.Wide
import HandS.Walk
import HandS.Rev
import HandS.RevRange
import HandS.Flow
import HandS.Zip
import HandS.RaiseMore
import HandS.TupAny
import HandS.TupMul
import HandS.TupLe
import HandS.WideBits
import HandS.EndBits
import KE.IntBitsLaws
import HandS.Sort
import KE.GoesNew
import KE.DataAny
import HandS.NoneIn
import PyProof.Rows.StrMul
import PyProof.StrLawsRepr
import HandS.SortInts
import HandS.More
import HandS.SetFor
import HandS.TupSets
import HandS.DictComp
import HandS.Deep
import KE.KDictDisplayH
import HandS.Defaults
import HandS.Strs
import KE.GoesSet
import PyProof.TupleOfSeq
import PySem.Challenge.RW_leastnest_k43_table_judge
set_option Elab.async false
set_option linter.all false
set_option maxRecDepth 100000
set_option maxHeartbeats 4000000
set_option exponentiation.threshold 2000000
namespace DL
open PySem PySem.Spec PyProof.Rows L2
/-! what is asked of sizes, shut off from unfolding -/
structure Fit (n : Nat) : Prop where
  le : n ≤ sizeLine
theorem Fit.of {n : Nat} (h : n ≤ 16777216) : Fit n := ⟨by rw [sizeLine_eq]; exact h⟩
structure MulOk (i j : Int) : Prop where
  ok : IntMulOk i j
theorem MulOk.of_le {a b : Int} {m n : Nat} (ha : Builtin.Int.intBits a ≤ m) (hb : Builtin.Int.intBits b ≤ n) (h : m + n ≤ 134217728) : MulOk a b := ⟨IntMulOk.of_le ha hb h⟩
structure CDivZ (i j : Int) : Prop where
  nz : j ≠ 0
  np : Builtin.divisionGoesByPylong i j = false
structure PowOk (i j : Int) : Prop where
  ok : CPow i j
structure ShlOk (i j : Int) : Prop where
  ok : CShl i j
structure Rng (j : Int) : Prop where
  lo : -(2 ^ 62) ≤ j
  hi : j < 2 ^ 62
theorem Rng.of {j : Int} (h : -1000000000000 ≤ j) (h' : j ≤ 1000000000000) : Rng j := ⟨by omega, by omega⟩
abbrev D := PyData
abbrev Frag := PySem.W.Frag

/-! ### heaps: F what stays, H what is there -/
theorem Mut.some_of {o : Option HO} (m : Mut o) : ∃ u, o = some u := by
  cases o with
  | none => exact m.elim
  | some u => exact ⟨u, rfl⟩
theorem mut_same {H H' : Hp} {p : Addr} (e : Same H H') (m : Mut (H p)) : H' p = H p := by
  obtain ⟨u, hu⟩ := Mut.some_of m
  rw [hu]
  exact e p u hu
structure Gr (F H F' H' : Hp) : Prop where
  ff : Same F F'
  hh : Same H H'
  fh : Same F' H'
  own : ∀ p, F p = none → Mut (H p) → F' p = none
theorem Gr.refl {F H : Hp} (e : Same F H) : Gr F H F H := ⟨Same.refl F, Same.refl H, e, fun _ h _ => h⟩
theorem Gr.trans {F H F1 H1 F2 H2 : Hp} (a : Gr F H F1 H1) (b : Gr F1 H1 F2 H2) : Gr F H F2 H2 :=
  ⟨a.ff.trans b.ff, a.hh.trans b.hh, b.fh, fun p h m => b.own p (a.own p h m) (by rw [mut_same a.hh m]; exact m)⟩
theorem same_new {H : Hp} {p : Addr} {o : HO} (h : H p = none) : Same H (upd H p o) := fun b u e => by
  rw [upd_ne (ne_of_none e h)]
  exact e
theorem same_upd2 {F H : Hp} {p : Addr} {o : HO} (e : Same F H) : Same (upd F p o) (upd H p o) := fun b u q => by
  by_cases hb : b = p
  · subst hb
    rw [upd_same] at q ⊢
    exact q
  · rw [upd_ne hb] at q ⊢
    exact e b u q
/-- a new object that stays -/
theorem Gr.new {F H : Hp} {p : Addr} {o : HO} (e : Same F H) (h : H p = none) : Gr F H (upd F p o) (upd H p o) :=
  ⟨same_new (e.free h), same_new h, same_upd2 e, fun q hq m => by
    have : q ≠ p := fun z => by
      rw [z, h] at m
      exact m
    rw [upd_ne this]
    exact hq⟩
/-- a new object that may change -/
theorem Gr.newO {F H : Hp} {p : Addr} {o : HO} (e : Same F H) (h : H p = none) : Gr F H F (upd H p o) :=
  ⟨Same.refl F, same_new h, e.trans (same_new h), fun _ hq _ => hq⟩
end DL
namespace L2
open PySem PySem.Spec PyProof.Rows
theorem Same.seqT {K : PySem.W.Frag} {H H' : Hp} {a : Addr} {xs : List V} (e : Same H H') (h : SqT K H a xs) : SqT K H' a xs := by
  rcases h with (h | ⟨o, h⟩) | h
  · exact .inl (.inl (e _ _ h))
  · exact .inl (.inr ⟨o, e _ _ h⟩)
  · exact .inr h

end L2
namespace DL
open PySem PySem.Spec PyProof.Rows L2
/-! ### data over a heap -/
mutual
theorem dp_mono {K : Frag} {H H' : Hp} (e : Same H H') : ∀ (d : D) {v : V}, Dp K H v d → Dp K H' v d
  | .none, _, h => by cases h; exact .non
  | .bool b, _, h => by cases h; exact .bl _
  | .int i, _, h => by cases h; exact .int _
  | .str x, _, h => by cases h; exact .str _
  | .list ds, _, h => by
    cases h with
    | lst hs ha => exact .lst (e.seq hs) (dpAll_mono e ds ha)
  | .tuple ds, _, h => by
    cases h with
    | tup hs ha => exact .tup (Same.seqT e hs) (dpAll_mono e ds ha)
  | .dict _, _, h => by cases h
theorem dpAll_mono {K : Frag} {H H' : Hp} (e : Same H H') : ∀ (ds : List D) {vs : List V}, DpAll K H vs ds → DpAll K H' vs ds
  | [], _, h => by cases h; exact .nil
  | d :: ds, _, h => by
    cases h with
    | cons h1 h2 => exact .cons (dp_mono e d h1) (dpAll_mono e ds h2)
end
end DL
namespace L2
open PySem PySem.Spec PyProof.Rows DL
theorem Dp.mono {K : Frag} {H H' : Hp} {v : V} {d : D} (h : Dp K H v d) (e : Same H H') : Dp K H' v d := dp_mono e d h
theorem DpAll.mono {K : Frag} {H H' : Hp} {vs : List V} {ds : List D} (h : DpAll K H vs ds) (e : Same H H') : DpAll K H' vs ds := dpAll_mono e ds h
theorem DpAll.length {K : Frag} {H : Hp} : ∀ {vs : List V} {ds : List D}, DpAll K H vs ds → vs.length = ds.length
  | [], ds, h => by cases h; rfl
  | v :: vs, ds, h => by
    cases h with
    | cons _ h2 => rw [List.length_cons, List.length_cons, DpAll.length h2]
theorem DpAll.get {K : Frag} {H : Hp} : ∀ {vs : List V} {ds : List D} {i : Nat} {d : D}, DpAll K H vs ds → ds[i]? = some d → ∃ v, vs[i]? = some v ∧ Dp K H v d
  | [], ds, i, d, h, e => by cases h; simp at e
  | v :: vs, ds, i, d, h, e => by
    cases h with
    | cons h1 h2 =>
      cases i with
      | zero =>
        simp at e
        subst e
        exact ⟨v, rfl, h1⟩
      | succ i =>
        obtain ⟨u, hu, r⟩ := DpAll.get h2 (show _ = some d by simpa using e)
        exact ⟨u, by simpa using hu, r⟩
theorem DpAll.append {K : Frag} {H : Hp} : ∀ {vs us : List V} {ds es : List D}, DpAll K H vs ds → DpAll K H us es → DpAll K H (vs ++ us) (ds ++ es)
  | [], us, ds, es, h, g => by cases h; exact g
  | v :: vs, us, ds, es, h, g => by
    cases h with
    | cons h1 h2 => exact .cons h1 (DpAll.append h2 g)
theorem DpAll.set {K : Frag} {H : Hp} {u : V} {e : D} (r : Dp K H u e) : ∀ {vs : List V} {ds : List D} (i : Nat), DpAll K H vs ds → DpAll K H (vs.set i u) (ds.set i e)
  | [], ds, i, h => by cases h; exact .nil
  | v :: vs, ds, i, h => by
    cases h with
    | cons h1 h2 =>
      cases i with
      | zero => exact .cons r h2
      | succ i => exact .cons h1 (DpAll.set r i h2)
theorem DpAll.take {K : Frag} {H : Hp} : ∀ {vs : List V} {ds : List D} (n : Nat), DpAll K H vs ds → DpAll K H (vs.take n) (ds.take n)
  | [], ds, n, h => by cases h; simp; exact .nil
  | v :: vs, ds, n, h => by
    cases h with
    | cons h1 h2 =>
      cases n with
      | zero => exact .nil
      | succ n => exact .cons h1 (DpAll.take n h2)
theorem DpAll.drop {K : Frag} {H : Hp} : ∀ {vs : List V} {ds : List D} (n : Nat), DpAll K H vs ds → DpAll K H (vs.drop n) (ds.drop n)
  | [], ds, n, h => by cases h; simp; exact .nil
  | v :: vs, ds, n, h => by
    cases n with
    | zero => exact h
    | succ n =>
      cases h with
      | cons h1 h2 => exact DpAll.drop n h2
theorem DpAll.reverse {K : Frag} {H : Hp} : ∀ {vs : List V} {ds : List D}, DpAll K H vs ds → DpAll K H vs.reverse ds.reverse
  | [], ds, h => by cases h; exact .nil
  | v :: vs, ds, h => by
    cases h with
    | cons h1 h2 =>
      rw [List.reverse_cons, List.reverse_cons]
      exact DpAll.append (DpAll.reverse h2) (.cons h1 .nil)
theorem DpAll.dropLast {K : Frag} {H : Hp} {vs : List V} {ds : List D} (h : DpAll K H vs ds) : DpAll K H vs.dropLast ds.dropLast := by
  rw [List.dropLast_eq_take, List.dropLast_eq_take, h.length]
  exact h.take _
theorem DpAll.eraseIdx {K : Frag} {H : Hp} : ∀ {vs : List V} {ds : List D} (i : Nat), DpAll K H vs ds → DpAll K H (vs.eraseIdx i) (ds.eraseIdx i)
  | [], ds, i, h => by cases h; exact .nil
  | v :: vs, ds, i, h => by
    cases h with
    | cons h1 h2 =>
      cases i with
      | zero => exact h2
      | succ i => exact .cons h1 (DpAll.eraseIdx i h2)
theorem DpAll.replicate {K : Frag} {H : Hp} {v : V} {d : D} (r : Dp K H v d) : ∀ n : Nat, DpAll K H (List.replicate n v) (List.replicate n d)
  | 0 => .nil
  | n + 1 => .cons r (DpAll.replicate r n)
theorem DpAll.flatRep {K : Frag} {H : Hp} {vs : List V} {ds : List D} (r : DpAll K H vs ds) : ∀ n : Nat, DpAll K H (List.replicate n vs).flatten (List.replicate n ds).flatten
  | 0 => .nil
  | n + 1 => by
    rw [List.replicate_succ, List.replicate_succ, List.flatten_cons, List.flatten_cons]
    exact DpAll.append r (DpAll.flatRep r n)
theorem DpAll.ints {K : Frag} {H : Hp} : ∀ (ns : List Int), DpAll K H (ns.map V.int) (ns.map PyData.int)
  | [] => .nil
  | n :: r => .cons (.int n) (DpAll.ints r)
theorem DpAll.ints_of {K : Frag} {H : Hp} : ∀ {vs : List V} (ns : List Int), DpAll K H vs (ns.map PyData.int) → vs = ns.map V.int
  | [], ns, h => by
    cases ns with
    | nil => rfl
    | cons n r => cases h
  | v :: vs, ns, h => by
    cases ns with
    | nil => cases h
    | cons n r =>
      cases h with
      | cons h1 h2 =>
        cases h1
        rw [List.map_cons, ← DpAll.ints_of r h2]
theorem DpAll.bools_of {K : Frag} {H : Hp} : ∀ {vs : List V} (ns : List Bool), DpAll K H vs (ns.map PyData.bool) → vs = ns.map V.bl
  | [], ns, h => by
    cases ns with
    | nil => rfl
    | cons n r => cases h
  | v :: vs, ns, h => by
    cases ns with
    | nil => cases h
    | cons n r =>
      cases h with
      | cons h1 h2 =>
        cases h1
        rw [List.map_cons, ← DpAll.bools_of r h2]
theorem DpAll.strs_of {K : Frag} {H : Hp} : ∀ {vs : List V} (ns : List Str), DpAll K H vs (ns.map PyData.str) → vs = ns.map V.str
  | [], ns, h => by
    cases ns with
    | nil => rfl
    | cons n r => cases h
  | v :: vs, ns, h => by
    cases ns with
    | nil => cases h
    | cons n r =>
      cases h with
      | cons h1 h2 =>
        cases h1
        rw [List.map_cons, ← DpAll.strs_of r h2]

end L2
namespace DL
open PySem PySem.Spec PyProof.Rows L2
/-! no list within: it leans on tuples alone -/
mutual
def noLst : D → Bool
  | .list _ => false
  | .dict _ => false
  | .tuple ds => noLstAll ds
  | _ => true
def noLstAll : List D → Bool
  | [] => true
  | d :: ds => noLst d && noLstAll ds
end
mutual
theorem dp_cut {K : Frag} {H H' : Hp} (e : ∀ b u, H b = some u → ¬ Mut (some u) → H' b = some u) : ∀ (d : D) {v : V}, noLst d = true → Dp K H v d → Dp K H' v d
  | .none, _, _, h => by cases h; exact .non
  | .bool b, _, _, h => by cases h; exact .bl _
  | .int i, _, _, h => by cases h; exact .int _
  | .str x, _, _, h => by cases h; exact .str _
  | .list ds, _, n, h => by simp [noLst] at n
  | .tuple ds, _, n, h => by
    cases h with
    | tup hs ha =>
      refine .tup ?_ (dpAll_cut e ds (by simpa [noLst] using n) ha)
      rcases hs with (h | ⟨o, h⟩) | h
      · exact .inl (.inl (e _ _ h fun z => z))
      · exact .inl (.inr ⟨o, e _ _ h fun z => z⟩)
      · exact .inr h
  | .dict _, _, _, h => by cases h
theorem dpAll_cut {K : Frag} {H H' : Hp} (e : ∀ b u, H b = some u → ¬ Mut (some u) → H' b = some u) : ∀ (ds : List D) {vs : List V}, noLstAll ds = true → DpAll K H vs ds → DpAll K H' vs ds
  | [], _, _, h => by cases h; exact .nil
  | d :: ds, _, n, h => by
    cases h with
    | cons h1 h2 =>
      simp only [noLstAll, Bool.and_eq_true] at n
      exact .cons (dp_cut e d n.1 h1) (dpAll_cut e ds n.2 h2)
end

/-! ### slots -/
/-- a slot: data that stays, or a list of one's own -/
inductive DV where
  | val (d : D)
  | own (ds : List D)
  /-- a dict of one's own that serves as a set: its keys are tuples of whole numbers -/
  | tks (ks : List (List Int × D))
abbrev TK := List (List Int × D)
abbrev TX := List (List Int × Addr × Value)
def ent (x : List Int × Addr × Value) : DictEntry := ⟨reduceHash (Builtin.Tuple.tupleHashOf (x.1.map hashInt)), .ref x.2.1, x.2.2⟩
/-- the dict at p, the keys' objects left aside -/
def TkAt (p : Addr) (xs : TX) (h : Heap) : Prop := (p == sysModules) = false ∧ xs.length ≤ sizeLine ∧ ∃ o es ep, h.get? p = some o ∧ o.ExactDict ∧ o.data = .dict es ep ∧ es.toList = xs.map ent ∧ (xs.map (·.1)).Nodup
def tkO (p : Addr) (xs : TX) : HO := .ext (TkAt p xs)
def TkR (K : Frag) (F : Hp) : TK → TX → Prop := Paired fun a b => a.1 = b.1 ∧ SqT K F b.2.1 (a.1.map V.int) ∧ ∃ v, Dp K F v a.2 ∧ RelV v b.2.2
theorem TkR.mono {K : Frag} {F F' : Hp} {ks : TK} {xs : TX} (h : TkR K F ks xs) (e : Same F F') : TkR K F' ks xs := L2.Paired.mapP h fun _ _ ⟨a, b, v, c, d⟩ => ⟨a, Same.seqT e b, v, Dp.mono c e, d⟩
abbrev Rho := List (Option DV)
def SlotOk (K : Frag) (B F H : Hp) : DV → V → Prop
  | .val d, v => Dp K F v d
  | .own ds, v => ∃ p vs, v = .ref p ∧ B p = none ∧ F p = none ∧ H p = some (.lst vs) ∧ DpAll K F vs ds
  | .tks ks, v => ∃ p xs, v = .ref p ∧ B p = none ∧ F p = none ∧ H p = some (tkO p xs) ∧ TkR K F ks xs
structure EnvOk (K : Frag) (B F H : Hp) (ρ : Rho) (σ : L2.St) : Prop where
  fh : Same F H
  bh : Same B H
  len : ρ.length = σ.length
  at' : ∀ (i : Nat) dv, ρ[i]? = some (some dv) → ∃ v, σ[i]? = some (some v) ∧ SlotOk K B F H dv v
  sep : ∀ (i j : Nat) (p : Addr) (a b : List D), i ≠ j → ρ[i]? = some (some (.own a)) → ρ[j]? = some (some (.own b)) → σ[i]? = some (some (.ref p)) → σ[j]? ≠ some (some (.ref p))
  sepT : ∀ (i j : Nat) (p : Addr) (a b : TK), i ≠ j → ρ[i]? = some (some (.tks a)) → ρ[j]? = some (some (.tks b)) → σ[i]? = some (some (.ref p)) → σ[j]? ≠ some (some (.ref p))
theorem SlotOk.grow {K : Frag} {B F H F' H' : Hp} {dv : DV} {v : V} (h : SlotOk K B F H dv v) (g : Gr F H F' H') : SlotOk K B F' H' dv v := by
  cases dv with
  | val d => exact Dp.mono h g.ff
  | own ds =>
    obtain ⟨p, vs, e, hb, hf, hh, ha⟩ := h
    exact ⟨p, vs, e, hb, g.own p hf (by rw [hh]; trivial), g.hh p _ hh, ha.mono g.ff⟩
  | tks ks =>
    obtain ⟨p, xs, e, hb, hf, hh, hr⟩ := h
    exact ⟨p, xs, e, hb, g.own p hf (by rw [hh]; trivial), g.hh p _ hh, hr.mono g.ff⟩
theorem EnvOk.grow {K : Frag} {B F H F' H' : Hp} {ρ : Rho} {σ : L2.St} (E : EnvOk K B F H ρ σ) (g : Gr F H F' H') : EnvOk K B F' H' ρ σ :=
  ⟨g.fh, E.bh.trans g.hh, E.len, fun i dv e => let ⟨v, h1, h2⟩ := E.at' i dv e; ⟨v, h1, h2.grow g⟩, E.sep, E.sepT⟩
theorem EnvOk.set {K : Frag} {B F H : Hp} {ρ : Rho} {σ : L2.St} (E : EnvOk K B F H ρ σ) (i : Nat) {d : D} {v : V} (r : Dp K F v d) : EnvOk K B F H (ρ.set i (some (.val d))) (σ.set i (some v)) := by
  refine ⟨E.fh, E.bh, by rw [List.length_set, List.length_set]; exact E.len, fun j dv e => ?_, fun j k p a b hjk e1 e2 e3 => ?_, fun j k p a b hjk e1 e2 e3 => ?_⟩
  · by_cases hij : i = j
    · subst hij
      have hi : i < ρ.length := by
        have h := (List.getElem?_eq_some_iff.mp e).1
        rw [List.length_set] at h
        exact h
      rw [List.getElem?_set_self hi] at e
      cases e
      exact ⟨v, by rw [List.getElem?_set_self (by rw [← E.len]; exact hi)], r⟩
    · rw [List.getElem?_set_ne hij] at e ⊢
      exact E.at' j dv e
  · have n1 : i ≠ j := fun z => by
      subst z
      have hi : i < ρ.length := by
        have h := (List.getElem?_eq_some_iff.mp e1).1
        rw [List.length_set] at h
        exact h
      rw [List.getElem?_set_self hi] at e1
      cases e1
    have n2 : i ≠ k := fun z => by
      subst z
      have hi : i < ρ.length := by
        have h := (List.getElem?_eq_some_iff.mp e2).1
        rw [List.length_set] at h
        exact h
      rw [List.getElem?_set_self hi] at e2
      cases e2
    rw [List.getElem?_set_ne n1] at e1 e3
    rw [List.getElem?_set_ne n2] at e2 ⊢
    exact E.sep j k p a b hjk e1 e2 e3
  · have n1 : i ≠ j := fun z => by
      subst z
      have hi : i < ρ.length := by
        have h := (List.getElem?_eq_some_iff.mp e1).1
        rw [List.length_set] at h
        exact h
      rw [List.getElem?_set_self hi] at e1
      cases e1
    have n2 : i ≠ k := fun z => by
      subst z
      have hi : i < ρ.length := by
        have h := (List.getElem?_eq_some_iff.mp e2).1
        rw [List.length_set] at h
        exact h
      rw [List.getElem?_set_self hi] at e2
      cases e2
    rw [List.getElem?_set_ne n1] at e1 e3
    rw [List.getElem?_set_ne n2] at e2 ⊢
    exact E.sepT j k p a b hjk e1 e2 e3
/-- a slot that holds an own list, the list new or changed -/
theorem EnvOk.setOwn {K : Frag} {B F H H' : Hp} {ρ : Rho} {σ : L2.St} (E : EnvOk K B F H ρ σ) (i : Nat) {ds : List D} {vs : List V} {p : Addr} (hb : B p = none) (hf : F p = none) (hp : H' p = some (.lst vs)) (ha : DpAll K F vs ds)
    (hs : ∀ (j : Nat) (a : List D), j ≠ i → ρ[j]? = some (some (.own a)) → σ[j]? ≠ some (some (.ref p))) (hk : ∀ b, b ≠ p → H' b = H b) (hT : ∀ xs, H p ≠ some (tkO p xs)) : EnvOk K B F H' (ρ.set i (some (.own ds))) (σ.set i (some (.ref p))) := by
  have fh' : Same F H' := fun b u e => by
    have : b ≠ p := fun z => by
      rw [z, hf] at e
      cases e
    rw [hk b this]
    exact E.fh b u e
  have bh' : Same B H' := fun b u e => by
    have : b ≠ p := fun z => by
      rw [z, hb] at e
      cases e
    rw [hk b this]
    exact E.bh b u e
  have sl : ∀ (j : Nat) dv, i ≠ j → ρ[j]? = some (some dv) → ∃ v, σ[j]? = some (some v) ∧ SlotOk K B F H' dv v := fun j dv hij e => by
    obtain ⟨v, h1, h2⟩ := E.at' j dv e
    refine ⟨v, h1, ?_⟩
    cases dv with
    | val d => exact h2
    | own a =>
      obtain ⟨q, us, rfl, q0, q1, q2, q3⟩ := h2
      have : q ≠ p := fun z => by
        subst z
        exact hs j a (Ne.symm hij) e h1
      exact ⟨q, us, rfl, q0, q1, by rw [hk q this]; exact q2, q3⟩
    | tks a =>
      obtain ⟨q, xs, rfl, q0, q1, q2, q3⟩ := h2
      have : q ≠ p := fun z => by
        subst z
        exact hT xs q2
      exact ⟨q, xs, rfl, q0, q1, by rw [hk q this]; exact q2, q3⟩
  refine ⟨fh', bh', by rw [List.length_set, List.length_set]; exact E.len, fun j dv e => ?_, fun j k q a b hjk e1 e2 e3 => ?_, fun j k q a b hjk e1 e2 e3 => ?_⟩
  · by_cases hij : i = j
    · subst hij
      have hi : i < ρ.length := by
        have h := (List.getElem?_eq_some_iff.mp e).1
        rw [List.length_set] at h
        exact h
      rw [List.getElem?_set_self hi] at e
      cases e
      exact ⟨.ref p, by rw [List.getElem?_set_self (by rw [← E.len]; exact hi)], p, vs, rfl, hb, hf, hp, ha⟩
    · rw [List.getElem?_set_ne hij] at e ⊢
      exact sl j dv hij e
  · by_cases hij : i = j
    · subst hij
      have n2 : i ≠ k := hjk
      have hi : i < ρ.length := by
        have h := (List.getElem?_eq_some_iff.mp e1).1
        rw [List.length_set] at h
        exact h
      rw [List.getElem?_set_self (by rw [← E.len]; exact hi)] at e3
      cases e3
      rw [List.getElem?_set_ne n2] at e2 ⊢
      exact hs k b (Ne.symm n2) e2
    · rw [List.getElem?_set_ne hij] at e1 e3
      by_cases hik : i = k
      · subst hik
        have hi : i < ρ.length := by
          have h := (List.getElem?_eq_some_iff.mp e2).1
          rw [List.length_set] at h
          exact h
        rw [List.getElem?_set_self (by rw [← E.len]; exact hi)]
        intro z
        cases z
        exact hs j a (Ne.symm hij) e1 e3
      · rw [List.getElem?_set_ne hik] at e2 ⊢
        exact E.sep j k q a b hjk e1 e2 e3
  · have nn : ∀ (j : Nat) a, (ρ.set i (some (.own ds)))[j]? = some (some (.tks a)) → i ≠ j := fun j a z w => by
      subst w
      have hi : i < ρ.length := by
        have h := (List.getElem?_eq_some_iff.mp z).1
        rw [List.length_set] at h
        exact h
      rw [List.getElem?_set_self hi] at z
      cases z
    have n1 := nn j a e1
    have n2 := nn k b e2
    rw [List.getElem?_set_ne n1] at e1 e3
    rw [List.getElem?_set_ne n2] at e2 ⊢
    exact E.sepT j k q a b hjk e1 e2 e3
/-- a slot that holds a dict of one's own, new or changed -/
theorem EnvOk.setTks {K : Frag} {B F H H' : Hp} {ρ : Rho} {σ : L2.St} (E : EnvOk K B F H ρ σ) (i : Nat) {ks : TK} {xs : TX} {p : Addr} (hb : B p = none) (hf : F p = none) (hp : H' p = some (tkO p xs)) (ha : TkR K F ks xs)
    (hs : ∀ (j : Nat) (a : TK), j ≠ i → ρ[j]? = some (some (.tks a)) → σ[j]? ≠ some (some (.ref p))) (hk : ∀ b, b ≠ p → H' b = H b) (hT : ∀ vs, H p ≠ some (.lst vs)) : EnvOk K B F H' (ρ.set i (some (.tks ks))) (σ.set i (some (.ref p))) := by
  have fh' : Same F H' := fun b u e => by
    rw [hk b (ne_of_none e hf)]
    exact E.fh b u e
  have bh' : Same B H' := fun b u e => by
    rw [hk b (ne_of_none e hb)]
    exact E.bh b u e
  have sl : ∀ (j : Nat) dv, i ≠ j → ρ[j]? = some (some dv) → ∃ v, σ[j]? = some (some v) ∧ SlotOk K B F H' dv v := fun j dv hij e => by
    obtain ⟨v, h1, h2⟩ := E.at' j dv e
    refine ⟨v, h1, ?_⟩
    cases dv with
    | val d => exact h2
    | own a =>
      obtain ⟨q, us, rfl, q0, q1, q2, q3⟩ := h2
      have : q ≠ p := fun z => by
        subst z
        exact hT us q2
      exact ⟨q, us, rfl, q0, q1, by rw [hk q this]; exact q2, q3⟩
    | tks a =>
      obtain ⟨q, us, rfl, q0, q1, q2, q3⟩ := h2
      have : q ≠ p := fun z => by
        subst z
        exact hs j a (Ne.symm hij) e h1
      exact ⟨q, us, rfl, q0, q1, by rw [hk q this]; exact q2, q3⟩
  have len0 : ∀ {j : Nat} {o : Option DV}, (ρ.set i (some (.tks ks)))[j]? = some o → j < ρ.length := fun {j o} e => by
    have h := (List.getElem?_eq_some_iff.mp e).1
    rw [List.length_set] at h
    exact h
  refine ⟨fh', bh', by rw [List.length_set, List.length_set]; exact E.len, fun j dv e => ?_, fun j k q a b hjk e1 e2 e3 => ?_, fun j k q a b hjk e1 e2 e3 => ?_⟩
  · by_cases hij : i = j
    · subst hij
      have hi := len0 e
      rw [List.getElem?_set_self hi] at e
      cases e
      exact ⟨.ref p, by rw [List.getElem?_set_self (by rw [← E.len]; exact hi)], p, xs, rfl, hb, hf, hp, ha⟩
    · rw [List.getElem?_set_ne hij] at e ⊢
      exact sl j dv hij e
  · have nn : ∀ (j : Nat) a, (ρ.set i (some (.tks ks)))[j]? = some (some (.own a)) → i ≠ j := fun j a z w => by
      subst w
      rw [List.getElem?_set_self (len0 z)] at z
      cases z
    have n1 := nn j a e1
    have n2 := nn k b e2
    rw [List.getElem?_set_ne n1] at e1 e3
    rw [List.getElem?_set_ne n2] at e2 ⊢
    exact E.sep j k q a b hjk e1 e2 e3
  · by_cases hij : i = j
    · subst hij
      have n2 : i ≠ k := hjk
      rw [List.getElem?_set_self (by rw [← E.len]; exact len0 e1)] at e3
      cases e3
      rw [List.getElem?_set_ne n2] at e2 ⊢
      exact hs k b (Ne.symm n2) e2
    · rw [List.getElem?_set_ne hij] at e1 e3
      by_cases hik : i = k
      · subst hik
        rw [List.getElem?_set_self (by rw [← E.len]; exact len0 e2)]
        intro z
        cases z
        exact hs j a (Ne.symm hij) e1 e3
      · rw [List.getElem?_set_ne hik] at e2 ⊢
        exact E.sepT j k q a b hjk e1 e2 e3
/-- everything stays (while nothing of one's own is changed) -/
def look : Option DV → Option DV
  | some (.own ds) => some (.val (.list ds))
  | some (.tks _) => none
  | o => o
def view (ρ : Rho) : Rho := ρ.map look
theorem EnvOk.view {K : Frag} {B F H : Hp} {ρ : Rho} {σ : L2.St} (E : EnvOk K B F H ρ σ) : EnvOk K B H H (view ρ) σ := by
  have noown : ∀ (i : Nat) a, (DL.view ρ)[i]? ≠ some (some (.own a)) := fun i a e => by
    unfold DL.view at e
    rw [List.getElem?_map] at e
    cases q : ρ[i]? with
    | none => rw [q] at e; cases e
    | some o =>
      rw [q] at e
      cases o with
      | none => cases e
      | some dv => cases dv <;> cases e
  have notks : ∀ (i : Nat) a, (DL.view ρ)[i]? ≠ some (some (.tks a)) := fun i a e => by
    unfold DL.view at e
    rw [List.getElem?_map] at e
    cases q : ρ[i]? with
    | none => rw [q] at e; cases e
    | some o =>
      rw [q] at e
      cases o with
      | none => cases e
      | some dv => cases dv <;> cases e
  refine ⟨Same.refl H, E.bh, by unfold DL.view; rw [List.length_map]; exact E.len, fun i dv e => ?_, fun i j p a b _ e _ _ => absurd e (noown i a), fun i j p a b _ e _ _ => absurd e (notks i a)⟩
  unfold DL.view at e
  rw [List.getElem?_map] at e
  cases q : ρ[i]? with
  | none => rw [q] at e; cases e
  | some o =>
    rw [q] at e
    cases o with
    | none => cases e
    | some dv0 =>
      obtain ⟨v, h1, h2⟩ := E.at' i dv0 q
      refine ⟨v, h1, ?_⟩
      cases dv0 with
      | val d =>
        cases e
        exact Dp.mono h2 E.fh
      | own ds =>
        cases e
        obtain ⟨p, vs, rfl, _, _, h3, h4⟩ := h2
        exact Dp.lst (.inl (.inl h3)) (h4.mono E.fh)
      | tks ks => cases e
/-- one own list is kept for good -/
theorem EnvOk.frz {K : Frag} {B F H : Hp} {ρ : Rho} {σ : L2.St} (E : EnvOk K B F H ρ σ) {i : Nat} {ds : List D} (e : ρ[i]? = some (some (.own ds))) :
    ∃ F', Same F F' ∧ (∀ p, F p = none → Mut (B p) → F' p = none) ∧ EnvOk K B F' H (ρ.set i (some (.val (.list ds)))) σ := by
  obtain ⟨v, h1, p, vs, rfl, hb, hf, hh, ha⟩ := E.at' i _ e
  have sF : Same F (upd F p (.lst vs)) := same_new hf
  have fh : Same (upd F p (.lst vs)) H := fun b u q => by
    by_cases hb : b = p
    · subst hb
      rw [upd_same] at q
      cases q
      exact hh
    · rw [upd_ne hb] at q
      exact E.fh b u q
  have hi : i < ρ.length := (List.getElem?_eq_some_iff.mp e).1
  have E' : EnvOk K B (upd F p (.lst vs)) H (ρ.set i (some (.val (.list ds)))) σ := by
    refine ⟨fh, E.bh, by rw [List.length_set]; exact E.len, fun j dv q => ?_, fun j k q a b hjk e1 e2 e3 => ?_, fun j k q a b hjk e1 e2 e3 => ?_⟩
    · by_cases hij : i = j
      · subst hij
        rw [List.getElem?_set_self hi] at q
        cases q
        exact ⟨.ref p, h1, Dp.lst (.inl (.inl upd_same)) (ha.mono sF)⟩
      · rw [List.getElem?_set_ne hij] at q
        obtain ⟨v, h2, h3⟩ := E.at' j dv q
        refine ⟨v, h2, ?_⟩
        cases dv with
        | val d => exact Dp.mono h3 sF
        | own a =>
          obtain ⟨p', us, rfl, g0, g1, g2, g3⟩ := h3
          have : p' ≠ p := fun z => by
            subst z
            exact E.sep j i p' a ds (Ne.symm hij) q e h2 h1
          exact ⟨p', us, rfl, g0, by rw [upd_ne this]; exact g1, g2, g3.mono sF⟩
        | tks a =>
          obtain ⟨p', xs, rfl, g0, g1, g2, g3⟩ := h3
          have : p' ≠ p := fun z => by
            subst z
            rw [hh] at g2
            cases g2
          exact ⟨p', xs, rfl, g0, by rw [upd_ne this]; exact g1, g2, g3.mono sF⟩
    · have nn : ∀ (j : Nat) a, (ρ.set i (some (.val (.list ds))))[j]? = some (some (.own a)) → i ≠ j := fun j a z w => by
        subst w
        rw [List.getElem?_set_self hi] at z
        cases z
      rw [List.getElem?_set_ne (nn j a e1)] at e1
      rw [List.getElem?_set_ne (nn k b e2)] at e2
      exact E.sep j k q a b hjk e1 e2 e3
    · have nn : ∀ (j : Nat) a, (ρ.set i (some (.val (.list ds))))[j]? = some (some (.tks a)) → i ≠ j := fun j a z w => by
        subst w
        rw [List.getElem?_set_self hi] at z
        cases z
      rw [List.getElem?_set_ne (nn j a e1)] at e1
      rw [List.getElem?_set_ne (nn k b e2)] at e2
      exact E.sepT j k q a b hjk e1 e2 e3
  refine ⟨_, sF, fun q hq m => ?_, E'⟩
  have : q ≠ p := fun z => by
    rw [z, hb] at m
    exact m
  rw [upd_ne this]
  exact hq
end DL

namespace DL
open PySem PySem.Spec PyProof.Rows L2

/-! ### readings over data -/
abbrev RE := Rho → (D → Prop) → Prop
abbrev RL := Rho → (List D → Prop) → Prop
abbrev RT := Rho → (Bool → Prop) → Prop
/-- a value that is read now: data that stays, or a list of one's own -/
def Bor (K : Frag) (F H : Hp) (v : V) (d : D) : Prop := Dp K F v d ∨ ∃ p vs xs, d = .list xs ∧ v = .ref p ∧ SqL K H p vs ∧ DpAll K F vs xs
theorem Bor.grow {K : Frag} {F H F' H' : Hp} {v : V} {d : D} (h : Bor K F H v d) (g : Gr F H F' H') : Bor K F' H' v d := by
  rcases h with h | ⟨p, vs, xs, e1, e2, h1, h2⟩
  · exact .inl (h.mono g.ff)
  · exact .inr ⟨p, vs, xs, e1, e2, g.hh.seq h1, h2.mono g.ff⟩
theorem Bor.lst {K : Frag} {F H : Hp} {v : V} {xs : List D} (fh : Same F H) (h : Bor K F H v (.list xs)) : ∃ p vs, v = .ref p ∧ SqL K H p vs ∧ DpAll K F vs xs := by
  rcases h with h | ⟨p, vs, xs', e1, e2, h1, h2⟩
  · cases h with
    | lst hs ha => exact ⟨_, _, rfl, fh.seq hs, ha⟩
  · cases e1
    exact ⟨p, vs, e2, h1, h2⟩
theorem Bor.tup {K : Frag} {F H : Hp} {v : V} {xs : List D} (fh : Same F H) (h : Bor K F H v (.tuple xs)) : ∃ p vs, v = .ref p ∧ SqT K F p vs ∧ SqT K H p vs ∧ DpAll K F vs xs := by
  rcases h with h | ⟨p, vs, xs', e1, e2, h1, h2⟩
  · cases h with
    | tup hs ha => exact ⟨_, _, rfl, hs, fh.seqT hs, ha⟩
  · cases e1
theorem Bor.int {K : Frag} {F H : Hp} {v : V} {i : Int} (h : Bor K F H v (.int i)) : v = .int i := by
  rcases h with h | ⟨p, vs, xs', e1, e2, h1, h2⟩
  · cases h; rfl
  · cases e1
theorem Bor.bl {K : Frag} {F H : Hp} {v : V} {i : Bool} (h : Bor K F H v (.bool i)) : v = .bl i := by
  rcases h with h | ⟨p, vs, xs', e1, e2, h1, h2⟩
  · cases h; rfl
  · cases e1
theorem Bor.str {K : Frag} {F H : Hp} {v : V} {i : Str} (h : Bor K F H v (.str i)) : v = .str i := by
  rcases h with h | ⟨p, vs, xs', e1, e2, h1, h2⟩
  · cases h; rfl
  · cases e1
theorem Bor.non {K : Frag} {F H : Hp} {v : V} (h : Bor K F H v .none) : v = .non := by
  rcases h with h | ⟨p, vs, xs', e1, e2, h1, h2⟩
  · cases h; rfl
  · cases e1
theorem Bor.dp {K : Frag} {F H : Hp} {v : V} {d : D} (fh : Same F H) (h : Bor K F H v d) : Dp K H v d := by
  rcases h with h | ⟨p, vs, xs', e1, e2, h1, h2⟩
  · exact h.mono fh
  · subst e1 e2
    exact .lst h1 (h2.mono fh)
theorem Bor.nd {K : Frag} {F H : Hp} {v : V} {xs} (h : Bor K F H v (.dict xs)) : False := by
  rcases h with h | ⟨p, vs, xs', e1, e2, h1, h2⟩
  · cases h
  · cases e1
def BorAll (K : Frag) (F H : Hp) : List V → List D → Prop := Paired (Bor K F H)
theorem BorAll.grow {K : Frag} {F H F' H' : Hp} {vs : List V} {ds : List D} (h : BorAll K F H vs ds) (g : Gr F H F' H') : BorAll K F' H' vs ds := L2.Paired.mapP h fun _ _ z => z.grow g
theorem BorAll.one {K : Frag} {F H : Hp} {vs : List V} {d : D} (h : BorAll K F H vs [d]) : ∃ v, vs = [v] ∧ Bor K F H v d := by
  cases h with
  | cons r t =>
    cases t
    exact ⟨_, rfl, r⟩
theorem BorAll.two {K : Frag} {F H : Hp} {vs : List V} {d e : D} (h : BorAll K F H vs [d, e]) : ∃ v u, vs = [v, u] ∧ Bor K F H v d ∧ Bor K F H u e := by
  cases h with
  | cons r t =>
    obtain ⟨u, rfl, b⟩ := BorAll.one t
    exact ⟨_, _, rfl, r, b⟩

section
variable (K : Frag)
def SimE (te : TE) (de : RE) : Prop := ∀ (B F H : Hp) (ρ : Rho) (σ : L2.St), EnvOk K B F H ρ σ → ∀ q : D → Prop, de ρ q → ∀ Q : VK, (∀ v d F' H', Gr F H F' H' → Dp K F' v d → q d → Q v H') → te σ H Q
def SimB (te : TE) (de : RE) : Prop := ∀ (B F H : Hp) (ρ : Rho) (σ : L2.St), EnvOk K B F H ρ σ → ∀ q : D → Prop, de ρ q → ∀ Q : VK, (∀ v d F' H', Gr F H F' H' → Bor K F' H' v d → q d → Q v H') → te σ H Q
/-- a new list, of one's own -/
def SimL (te : TE) (dl : RL) : Prop := ∀ (B F H : Hp) (ρ : Rho) (σ : L2.St), EnvOk K B F H ρ σ → ∀ q : List D → Prop, dl ρ q → ∀ Q : VK,
  (∀ p vs ds F' H', Gr F H F' H' → H p = none → F' p = none → H' p = some (.lst vs) → DpAll K F' vs ds → q ds → Q (.ref p) H') → te σ H Q
def SimT (tt : TT) (dt : RT) : Prop := ∀ (B F H : Hp) (ρ : Rho) (σ : L2.St), EnvOk K B F H ρ σ → ∀ q : Bool → Prop, dt ρ q → ∀ Q : Bool → Hp → Prop, (∀ b F' H', Gr F H F' H' → q b → Q b H') → tt σ H Q
def SimA (n : Nat) (ta : TA) (da : RL) : Prop := ∀ (B F H : Hp) (ρ : Rho) (σ : L2.St), EnvOk K B F H ρ σ → ∀ q : List D → Prop, da ρ q → ∀ Q : List V → Hp → Prop, (∀ vs ds F' H', Gr F H F' H' → DpAll K F' vs ds → ds.length = n → q ds → Q vs H') → ta σ H Q
def SimAB (ta : TA) (da : RL) : Prop := ∀ (B F H : Hp) (ρ : Rho) (σ : L2.St), EnvOk K B F H ρ σ → ∀ q : List D → Prop, da ρ q → ∀ Q : List V → Hp → Prop, (∀ vs ds F' H', Gr F H F' H' → BorAll K F' H' vs ds → q ds → Q vs H') → ta σ H Q
def SimO (to : TO) (do' : Rho → (Option Int → Prop) → Prop) : Prop := ∀ (B F H : Hp) (ρ : Rho) (σ : L2.St), EnvOk K B F H ρ σ → ∀ q : Option Int → Prop, do' ρ q → ∀ Q : Option Int → Hp → Prop, (∀ o F' H', Gr F H F' H' → q o → Q o H') → to σ H Q
end
def DE (X : Cx) (e : Expr) (de : RE) : Prop := ∃ te, PE X e te ∧ SimE X.K te de
def DB (X : Cx) (e : Expr) (de : RE) : Prop := ∃ te, PE X e te ∧ SimB X.K te de
def DLs (X : Cx) (e : Expr) (dl : RL) : Prop := ∃ te, PE X e te ∧ SimL X.K te dl
def DT (X : Cx) (e : Expr) (dt : RT) : Prop := ∃ tt, PT X e tt ∧ SimT X.K tt dt
def DW (X : Cx) (e : Expr) (dt : RT) : Prop := ∃ tt, PW X e tt ∧ SimT X.K tt dt
def DA (X : Cx) (es : List Expr) (da : RL) : Prop := ∃ ta, PA X es ta ∧ SimA X.K es.length ta da
def DAB (X : Cx) (es : List Expr) (da : RL) : Prop := ∃ ta, PA X es ta ∧ SimAB X.K ta da
def DO (X : Cx) (e : Option Expr) (do' : Rho → (Option Int → Prop) → Prop) : Prop := ∃ to, PO X e to ∧ SimO X.K to do'

section
variable {X : Cx} {e a b c : Expr} {es : List Expr} {de da db dc : RE} {dl : RL} {dt du : RT} {pos : Pos}
/-- data that stays may be read -/
theorem DE.toB (h : DE X e de) : DB X e de := by
  obtain ⟨te, h1, h2⟩ := h
  exact ⟨te, h1, fun B F H ρ σ E q hq Q k => h2 B F H ρ σ E q hq Q fun v d F' H' g r z => k v d F' H' g (.inl r) z⟩
/-- a new list is data, if one wants -/
def dLst (dl : RL) : RE := fun ρ q => dl ρ fun ds => q (.list ds)
theorem DLs.toE (h : DLs X e dl) : DE X e (dLst dl) := by
  obtain ⟨te, h1, h2⟩ := h
  refine ⟨te, h1, fun B F H ρ σ E q hq Q k => h2 B F H ρ σ E _ hq Q fun p vs ds F' H' g hp hf hh ha z => ?_⟩
  have fh : Same (upd F' p (.lst vs)) H' := fun b u w => by
    by_cases hb : b = p
    · subst hb
      rw [upd_same] at w
      cases w
      exact hh
    · rw [upd_ne hb] at w
      exact g.fh b u w
  refine k (.ref p) (.list ds) (upd F' p (.lst vs)) H' ⟨g.ff.trans (same_new hf), g.hh, fh, fun q hq m => ?_⟩ (.lst (.inl (.inl upd_same)) (ha.mono (same_new hf))) z
  have : q ≠ p := fun w => by
    rw [w, hp] at m
    exact m
  rw [upd_ne this]
  exact g.own q hq m
/- the heap without what is of one's own -/
open Classical in
noncomputable def keepOff (F H H' : Hp) : Hp := fun p => if F p = none ∧ Mut (H p) then none else H' p
theorem keepOff_gr {F H H' : Hp} (fh : Same F H) (g : Same H H') : Gr F H (keepOff F H H') H' := by
  refine ⟨fun p o e => ?_, g, fun p o e => ?_, fun p hf m => ?_⟩
  · unfold keepOff
    rw [if_neg (by rw [e]; rintro ⟨z, _⟩; cases z)]
    exact g p o (fh p o e)
  · unfold keepOff at e
    split at e
    · cases e
    · exact e
  · unfold keepOff
    rw [if_pos ⟨hf, m⟩]
theorem keepOff_keep {F H H' : Hp} (g : Same H H') : ∀ b u, H' b = some u → ¬ Mut (some u) → keepOff F H H' b = some u := fun b u e nm => by
  unfold keepOff
  rw [if_neg]
  · exact e
  · rintro ⟨_, m⟩
    have z := mut_same g m
    rw [e] at z
    rw [← z] at m
    exact nm m
/-- read with own lists as data; what comes has no list -/
def dView (de : RE) : RE := fun ρ q => de (view ρ) fun d => noLst d = true ∧ q d
theorem DE.vw (h : DE X e de) : DE X e (dView de) := by
  obtain ⟨te, h1, h2⟩ := h
  refine ⟨te, h1, fun B F H ρ σ E q hq Q k => h2 B H H (view ρ) σ E.view _ hq Q fun v d F' H' g r z => ?_⟩
  have r2 : Dp X.K H' v d := r.mono g.fh
  exact k v d (keepOff F H H') H' (keepOff_gr E.fh g.hh) (dp_cut (keepOff_keep g.hh) d z.1 r2) z.2
/-- the test of it (no value comes) -/
def tView (dt : RT) : RT := fun ρ q => dt (view ρ) q
theorem DT.vw (h : DT X e dt) : DT X e (tView dt) := by
  obtain ⟨te, h1, h2⟩ := h
  exact ⟨te, h1, fun B F H ρ σ E q hq Q k => h2 B H H (view ρ) σ E.view _ hq Q fun b F' H' g z => k b (keepOff F H H') H' (keepOff_gr E.fh g.hh) z⟩
/-- a new list, read with own lists as data; its items have no list -/
def lView (dl : RL) : RL := fun ρ q => dl (view ρ) fun ds => noLstAll ds = true ∧ q ds
theorem DLs.vw (h : DLs X e dl) : DLs X e (lView dl) := by
  obtain ⟨te, h1, h2⟩ := h
  refine ⟨te, h1, fun B F H ρ σ E q hq Q k => h2 B H H (view ρ) σ E.view _ hq Q fun p vs ds F' H' g hp hf hh ha z => ?_⟩
  have g2 := keepOff_gr (H' := H') E.fh g.hh
  have fp : F p = none := E.fh.free hp
  -- the new list itself stays off
  have F2 : ∃ F2 : Hp, Gr F H F2 H' ∧ F2 p = none ∧ DpAll X.K F2 vs ds := by
    classical
    refine ⟨fun q => if q = p then none else keepOff F H H' q, ⟨fun b u w => ?_, g.hh, fun b u w => ?_, fun b w m => ?_⟩, by simp, ?_⟩
    · have : b ≠ p := ne_of_none w fp
      show (if b = p then none else _) = _
      rw [if_neg this]
      exact g2.ff b u w
    · have w : (if b = p then none else keepOff F H H' b) = some u := w
      split at w
      · cases w
      · exact g2.fh b u w
    · show (if b = p then none else _) = _
      split
      · rfl
      · exact g2.own b w m
    · refine dpAll_cut (H := H') (fun b u w nm => ?_) ds z.1 (ha.mono g.fh)
      have : b ≠ p := fun y => by
        subst y
        rw [hh] at w
        cases w
        exact nm trivial
      show (if b = p then none else _) = _
      rw [if_neg this]
      exact keepOff_keep g.hh b u w nm
  obtain ⟨F2, g3, f3, a3⟩ := F2
  exact k p vs ds F2 H' g3 hp f3 hh a3 z.2

/-! ### names, constants -/
def dVar (i : Nat) : RE := fun ρ q => match ρ[i]? with | some (some (.val d)) => q d | _ => False
def bVar (i : Nat) : RE := fun ρ q => match ρ[i]? with | some (some (.val d)) => q d | some (some (.own ds)) => q (.list ds) | _ => False
theorem dv (i : Nat) {x : Str} (hN : X.N[i]? = some x := by rfl) (hv : Vis X.env.scope x := by first | exact Or.inl rfl | exact Or.inr (Or.inl rfl) | exact Or.inr (Or.inr rfl)) (hd : (x == ("__debug__" : Str)) = false := by decide)
    (hcd : (x == ("__classdict__" : Str)) = false := by decide) : DE X (.Name x pos) (dVar i) := by
  refine ⟨_, pe_var hN hv hd hcd, fun B F H ρ σ E q hq Q k => ?_⟩
  unfold dVar at hq
  split at hq
  · rename_i d e
    obtain ⟨v, h1, h2⟩ := E.at' i _ e
    exact ⟨v, h1, k v d F H (Gr.refl E.fh) h2 hq⟩
  · exact hq.elim
theorem bv (i : Nat) {x : Str} (hN : X.N[i]? = some x := by rfl) (hv : Vis X.env.scope x := by first | exact Or.inl rfl | exact Or.inr (Or.inl rfl) | exact Or.inr (Or.inr rfl)) (hd : (x == ("__debug__" : Str)) = false := by decide)
    (hcd : (x == ("__classdict__" : Str)) = false := by decide) : DB X (.Name x pos) (bVar i) := by
  refine ⟨_, pe_var hN hv hd hcd, fun B F H ρ σ E q hq Q k => ?_⟩
  unfold bVar at hq
  split at hq
  · rename_i d e
    obtain ⟨v, h1, h2⟩ := E.at' i _ e
    exact ⟨v, h1, k v d F H (Gr.refl E.fh) (.inl h2) hq⟩
  · rename_i ds e
    obtain ⟨v, h1, p, vs, rfl, f0, f1, f2, f3⟩ := E.at' i _ e
    exact ⟨.ref p, h1, k (.ref p) (.list ds) F H (Gr.refl E.fh) (.inr ⟨p, vs, ds, rfl, rfl, .inl (.inl f2), f3⟩) hq⟩
  · exact hq.elim
def dC (d : D) : RE := fun _ q => q d
theorem de_int {i j} : DE X (.Constant (.int i) j pos) (dC (.int i)) := ⟨_, pe_int, fun B F H ρ σ E q hq Q k => k _ _ F H (Gr.refl E.fh) (.int _) hq⟩
theorem de_bl {i j} : DE X (.Constant (.bool i) j pos) (dC (.bool i)) := ⟨_, pe_bl, fun B F H ρ σ E q hq Q k => k _ _ F H (Gr.refl E.fh) (.bl _) hq⟩
theorem de_non {j} : DE X (.Constant .none j pos) (dC .none) := ⟨_, pe_non, fun B F H ρ σ E q hq Q k => k _ _ F H (Gr.refl E.fh) .non hq⟩
theorem de_str {i j} : DE X (.Constant (.str i) j pos) (dC (.str i)) := ⟨_, pe_str, fun B F H ρ σ E q hq Q k => k _ _ F H (Gr.refl E.fh) (.str _) hq⟩

/-! ### operators -/
abbrev G2 := D → D → (D → Prop) → Prop
abbrev G1 := D → (D → Prop) → Prop
abbrev GA := List D → (D → Prop) → Prop
/-- what an operator's reading gives over data -/
def Sim2 (K : Frag) (r : R2) (g : G2) : Prop := ∀ (F H : Hp) (v u : V) (x y : D), Same F H → Bor K F H v x → Bor K F H u y → ∀ q : D → Prop, g x y q → ∀ Q : VK, (∀ w d F' H', Gr F H F' H' → Dp K F' w d → q d → Q w H') → r v u H Q
def Sim1 (K : Frag) (r : V → Hp → VK → Prop) (g : G1) : Prop := ∀ (F H : Hp) (v : V) (x : D), Same F H → Bor K F H v x → ∀ q : D → Prop, g x q → ∀ Q : VK, (∀ w d F' H', Gr F H F' H' → Dp K F' w d → q d → Q w H') → r v H Q
def SimC (K : Frag) (r : List V → Hp → VK → Prop) (g : GA) : Prop := ∀ (F H : Hp) (vs : List V) (xs : List D), Same F H → BorAll K F H vs xs → ∀ q : D → Prop, g xs q → ∀ Q : VK, (∀ w d F' H', Gr F H F' H' → Dp K F' w d → q d → Q w H') → r vs H Q
/-- .. a new list -/
def SimCL (K : Frag) (r : List V → Hp → VK → Prop) (g : List D → (List D → Prop) → Prop) : Prop := ∀ (F H : Hp) (vs : List V) (xs : List D), Same F H → BorAll K F H vs xs → ∀ q : List D → Prop, g xs q → ∀ Q : VK,
  (∀ p us ds F' H', Gr F H F' H' → H p = none → F' p = none → H' p = some (.lst us) → DpAll K F' us ds → q ds → Q (.ref p) H') → r vs H Q
def Sim2L (K : Frag) (r : R2) (g : D → D → (List D → Prop) → Prop) : Prop := ∀ (F H : Hp) (v u : V) (x y : D), Same F H → Bor K F H v x → Bor K F H u y → ∀ q : List D → Prop, g x y q → ∀ Q : VK,
  (∀ p us ds F' H', Gr F H F' H' → H p = none → F' p = none → H' p = some (.lst us) → DpAll K F' us ds → q ds → Q (.ref p) H') → r v u H Q
def OpD (X : Cx) (f : Value → Value → Sem Value) (g : G2) : Prop := ∃ r, OpR X f r ∧ Sim2 X.K r g
def OpL (X : Cx) (f : Value → Value → Sem Value) (g : D → D → (List D → Prop) → Prop) : Prop := ∃ r, OpR X f r ∧ Sim2L X.K r g
def IxD (X : Cx) (g : G2) : Prop := ∃ r, IxR X r ∧ Sim2 X.K r g
def UnD (X : Cx) (f : Value → Sem Value) (g : G1) : Prop := ∃ r, UnR X f r ∧ Sim1 X.K r g
def CallD (X : Cx) (f : Value) (g : GA) : Prop := ∃ r, CallR X f r ∧ SimC X.K r g
def CallL (X : Cx) (f : Value) (g : List D → (List D → Prop) → Prop) : Prop := ∃ r, CallR X f r ∧ SimCL X.K r g
def d2 (g : G2) (da db : RE) : RE := fun ρ q => da ρ fun x => db ρ fun y => g x y q
def d1 (g : G1) (da : RE) : RE := fun ρ q => da ρ fun x => g x q
def l2 (g : D → D → (List D → Prop) → Prop) (da db : RE) : RL := fun ρ q => da ρ fun x => db ρ fun y => g x y q
theorem sim_two {K : Frag} {ta tb : TE} {r : R2} {g : G2} (ha : SimB K ta da) (hb : SimB K tb db) (hr : Sim2 K r g) : SimE K (tOp r ta tb) (d2 g da db) := fun B F H ρ σ E q hq Q k =>
  ha B F H ρ σ E _ hq _ fun v x F1 H1 g1 r1 z1 => hb B F1 H1 ρ σ (E.grow g1) _ z1 _ fun u y F2 H2 g2 r2 z2 =>
    hr F2 H2 v u x y g2.fh (r1.grow g2) r2 q z2 Q fun w d F3 H3 g3 r3 z3 => k w d F3 H3 ((g1.trans g2).trans g3) r3 z3
theorem de_op {op : Operator} {g : G2} (ho : OpD X (binaryOp op) g) (ha : DB X a da) (hb : DB X b db) : DE X (.BinOp a op b pos) (d2 g da db) := by
  obtain ⟨r, o1, o2⟩ := ho
  obtain ⟨ta, a1, a2⟩ := ha
  obtain ⟨tb, b1, b2⟩ := hb
  exact ⟨_, pe_op o1 a1 b1, sim_two a2 b2 o2⟩
theorem dl_op {op : Operator} {g : D → D → (List D → Prop) → Prop} (ho : OpL X (binaryOp op) g) (ha : DB X a da) (hb : DB X b db) : DLs X (.BinOp a op b pos) (l2 g da db) := by
  obtain ⟨r, o1, o2⟩ := ho
  obtain ⟨ta, a1, a2⟩ := ha
  obtain ⟨tb, b1, b2⟩ := hb
  refine ⟨_, pe_op o1 a1 b1, fun B F H ρ σ E q hq Q k =>
    a2 B F H ρ σ E _ hq _ fun v x F1 H1 g1 r1 z1 => b2 B F1 H1 ρ σ (E.grow g1) _ z1 _ fun u y F2 H2 g2 r2 z2 =>
      o2 F2 H2 v u x y g2.fh (r1.grow g2) r2 q z2 Q fun p us ds F3 H3 g3 hp hf hh r3 z3 => k p us ds F3 H3 ((g1.trans g2).trans g3) ((g1.trans g2).hh.free hp) hf hh r3 z3⟩
theorem de_ix {g : G2} (ho : IxD X g) (ha : DB X a da) (hb : DB X b db) (hs : PlainIx b := by exact fun _ _ => rfl) : DE X (.Subscript a b pos) (d2 g da db) := by
  obtain ⟨r, o1, o2⟩ := ho
  obtain ⟨ta, a1, a2⟩ := ha
  obtain ⟨tb, b1, b2⟩ := hb
  exact ⟨_, pe_ix o1 a1 b1 hs, sim_two a2 b2 o2⟩
theorem de_cmp {op : CmpOp} {g : G2} (ho : OpD X (compareOp op) g) (ha : DB X a da) (hb : DB X b db) (hm : behindInMarks op b = false := by first | exact nomark _ | rfl) : DE X (.Compare a [op] [b] pos) (d2 g da db) := by
  obtain ⟨r, o1, o2⟩ := ho
  obtain ⟨ta, a1, a2⟩ := ha
  obtain ⟨tb, b1, b2⟩ := hb
  exact ⟨_, pe_cmpR o1 a1 b1 hm, sim_two a2 b2 o2⟩
/-- a value that is True or False -/
def tBool (de : RE) : RT := fun ρ q => de ρ fun d => match d with | .bool k => q k | _ => False
theorem sim_bool {K : Frag} {te : TE} (h : SimE K te de) : SimT K (tTest te) (tBool de) := fun B F H ρ σ E q hq Q k =>
  h B F H ρ σ E _ hq _ fun v d F' H' g r z => by
    cases d with
    | bool b =>
      cases r
      exact ⟨b, rfl, k b F' H' g z⟩
    | none => exact z.elim
    | int _ => exact z.elim
    | str _ => exact z.elim
    | list _ => exact z.elim
    | tuple _ => exact z.elim
    | dict _ => exact z.elim
theorem dt_cmp {op : CmpOp} {g : G2} (ho : OpD X (compareOp op) g) (ha : DB X a da) (hb : DB X b db) (hm : behindInMarks op b = false := by first | exact nomark _ | rfl) : DT X (.Compare a [op] [b] pos) (tBool (d2 g da db)) := by
  obtain ⟨r, o1, o2⟩ := ho
  obtain ⟨ta, a1, a2⟩ := ha
  obtain ⟨tb, b1, b2⟩ := hb
  exact ⟨_, pt_cmpR o1 a1 b1 hm, sim_bool (sim_two a2 b2 o2)⟩
theorem de_un {op : UnaryOp} {g : G1} (ho : UnD X (unaryOp op) g) (ha : DB X a da) : DE X (.UnaryOp op a pos) (d1 g da) := by
  obtain ⟨r, o1, o2⟩ := ho
  obtain ⟨ta, a1, a2⟩ := ha
  exact ⟨_, pe_un o1 a1, fun B F H ρ σ E q hq Q k => a2 B F H ρ σ E _ hq _ fun v x F1 H1 g1 r1 z1 => o2 F1 H1 v x g1.fh r1 q z1 Q fun w d F3 H3 g3 r3 z3 => k w d F3 H3 (g1.trans g3) r3 z3⟩

/-! ### argument lists, displays -/
def dNil : RL := fun _ q => q []
def dCons (da : RE) (dr : RL) : RL := fun ρ q => da ρ fun x => dr ρ fun xs => q (x :: xs)
theorem da_nil : DA X [] dNil := ⟨_, pa_nil, fun B F H ρ σ E q hq Q k => k [] [] F H (Gr.refl E.fh) .nil rfl hq⟩
theorem da_cons {dr : RL} (ha : DE X a da) (hr : DA X es dr) (hs : starEach (a :: es) X.env = (false, eval a X.env) :: starEach es X.env := by rfl) : DA X (a :: es) (dCons da dr) := by
  obtain ⟨ta, a1, a2⟩ := ha
  obtain ⟨tr, r1, r2⟩ := hr
  exact ⟨_, pa_cons a1 r1 hs, fun B F H ρ σ E q hq Q k => a2 B F H ρ σ E _ hq _ fun v x F1 H1 g1 d1 z1 => r2 B F1 H1 ρ σ (E.grow g1) _ z1 _ fun vs xs F2 H2 g2 d2 ln z2 =>
    k (v :: vs) (x :: xs) F2 H2 (g1.trans g2) (.cons (d1.mono g2.ff) d2) (by rw [List.length_cons, List.length_cons, ln]) z2⟩
theorem ab_nil : DAB X [] dNil := ⟨_, pa_nil, fun B F H ρ σ E q hq Q k => k [] [] F H (Gr.refl E.fh) .nil hq⟩
theorem ab_cons {dr : RL} (ha : DB X a da) (hr : DAB X es dr) (hs : starEach (a :: es) X.env = (false, eval a X.env) :: starEach es X.env := by rfl) : DAB X (a :: es) (dCons da dr) := by
  obtain ⟨ta, a1, a2⟩ := ha
  obtain ⟨tr, r1, r2⟩ := hr
  exact ⟨_, pa_cons a1 r1 hs, fun B F H ρ σ E q hq Q k => a2 B F H ρ σ E _ hq _ fun v x F1 H1 g1 d1 z1 => r2 B F1 H1 ρ σ (E.grow g1) _ z1 _ fun vs xs F2 H2 g2 d2 z2 =>
    k (v :: vs) (x :: xs) F2 H2 (g1.trans g2) (.cons (d1.grow g2) d2) z2⟩
/-- (a, b, ..) -/
def dTup (da : RL) : RE := fun ρ q => da ρ fun xs => q (.tuple xs)
theorem de_tup {x1 : _} {da' : RL} (h : DA X es da') (hl : es.length ≤ sizeLine := by (show _ ≤ sizeLine; rw [sizeLine_eq]; decide)) : DE X (.Tuple es x1 pos) (dTup da') := by
  obtain ⟨ta, a1, a2⟩ := h
  refine ⟨_, pe_tup a1, fun B F H ρ σ E q hq Q k => a2 B F H ρ σ E _ hq _ fun vs xs F1 H1 g1 d1 ln z1 => ⟨by rw [d1.length, ln]; exact hl, fun p hp => ?_⟩⟩
  have g2 := Gr.new (o := .tup vs) g1.fh hp
  exact k (.ref p) (.tuple xs) _ _ (g1.trans g2) (.tup (.inl (.inl upd_same)) (d1.mono g2.ff)) z1
theorem dl_lst {da' : RL} (h : DA X es da') (hl : es.length ≤ sizeLine := by (show _ ≤ sizeLine; rw [sizeLine_eq]; decide)) : DLs X (.List es pos) da' := by
  obtain ⟨ta, a1, a2⟩ := h
  refine ⟨_, pe_lst a1, fun B F H ρ σ E q hq Q k => a2 B F H ρ σ E _ hq _ fun vs xs F1 H1 g1 d1 ln z1 => ⟨by rw [d1.length, ln]; exact hl, fun p hp => ?_⟩⟩
  have g2 := Gr.newO (o := .lst vs) g1.fh hp
  exact k p vs xs _ _ (g1.trans g2) (g1.hh.free hp) (g1.fh.free hp) upd_same d1 z1
end
end DL

namespace DL
open PySem PySem.Spec PyProof.Rows L2
section
variable {X : Cx}
theorem OpD.or {f : Value → Value → Sem Value} {g g' h : G2} (a : OpD X f g) (b : OpD X f g') (e : ∀ x y q, h x y q → g x y q ∨ g' x y q) : OpD X f h := by
  obtain ⟨r, h1, h2⟩ := a
  obtain ⟨r', h1', h2'⟩ := b
  refine ⟨_, h1.or h1', fun F H v u x y fh bx bY q hq Q k => ?_⟩
  rcases e x y q hq with z | z
  · exact .inl (h2 F H v u x y fh bx bY q z Q k)
  · exact .inr (h2' F H v u x y fh bx bY q z Q k)
theorem OpD.imp {f : Value → Value → Sem Value} {g h : G2} (a : OpD X f g) (e : ∀ x y q, h x y q → g x y q) : OpD X f h := by
  obtain ⟨r, h1, h2⟩ := a
  exact ⟨r, h1, fun F H v u x y fh bx bY q hq Q k => h2 F H v u x y fh bx bY q (e x y q hq) Q k⟩

/-! ### whole numbers -/
def gI (C : Int → Int → Prop) (g : Int → Int → D) : G2 := fun x y q => match x, y with | .int i, .int j => C i j ∧ q (g i j) | _, _ => False
theorem gI_ok {C : Int → Int → Prop} {g : Int → Int → D} {x y : D} {q : D → Prop} (h : gI C g x y q) : ∃ i j, x = .int i ∧ y = .int j ∧ C i j ∧ q (g i j) := by
  unfold gI at h
  split at h
  · exact ⟨_, _, rfl, rfl, h⟩
  · exact h.elim
/-- a result without objects -/
def Flat : V → D → Prop
  | .non, .none => True | .bl b, .bool c => b = c | .int i, .int j => i = j | .str x, .str y => x = y
  | _, _ => False
theorem Flat.dp {K : Frag} {H : Hp} {v : V} {d : D} (h : Flat v d) : Dp K H v d := by
  cases v <;> cases d <;> first | exact h.elim | (cases h; constructor)
theorem opd_I {f : Value → Value → Sem Value} {C : Int → Int → Prop} {g : Int → Int → V} {gd : Int → Int → D} (h : OpR X f (rI C g)) (e : ∀ i j, Flat (g i j) (gd i j)) : OpD X f (gI C gd) := by
  refine ⟨_, h, fun F H v u x y fh bx bY q hq Q k => ?_⟩
  obtain ⟨i, j, rfl, rfl, c, z⟩ := gI_ok hq
  exact ⟨i, j, bx.int, bY.int, c, k _ _ F H (Gr.refl fh) (e i j).dp z⟩
theorem opd_I0 {f : Value → Value → Sem Value} {g : Int → Int → V} {gd : Int → Int → D} (h : OpR X f (rI0 g)) (e : ∀ i j, Flat (g i j) (gd i j)) : OpD X f (gI (fun _ _ => True) gd) := by
  refine ⟨_, h, fun F H v u x y fh bx bY q hq Q k => ?_⟩
  obtain ⟨i, j, rfl, rfl, c, z⟩ := gI_ok hq
  exact ⟨i, j, bx.int, bY.int, k _ _ F H (Gr.refl fh) (e i j).dp z⟩
theorem op_mulZ : OpR X (binaryOp .Mult) (rI MulOk fun i j => .int (i * j)) := opI fun _ _ _ _ _ _ _ hc q => mul_int q hc.ok
theorem op_fdivZ : OpR X (binaryOp .FloorDiv) (rI CDivZ fun i j => .int (i.fdiv j)) := opI fun i j _ _ _ _ _ hc q => floordiv_int hc.nz q (.inl hc.np)
def gSubI : G2 := gI (fun _ _ => True) fun i j => .int (i - j)
def gMulI : G2 := gI MulOk fun i j => .int (i * j)
def gFdiv : G2 := gI CDivZ fun i j => .int (i.fdiv j)
def gMod : G2 := gI (fun _ j => j ≠ 0) fun i j => .int (i.fmod j)
def gPow : G2 := gI PowOk fun i j => .int (i ^ j.toNat)
def gShl : G2 := gI ShlOk fun i j => .int (i * 2 ^ j.toNat)
def gShr : G2 := gI (fun _ j => 0 ≤ j) fun i j => .int (i / 2 ^ j.toNat)
theorem o_sub : OpD X (binaryOp .Sub) gSubI := opd_I0 op_sub fun _ _ => rfl
theorem o_mulI : OpD X (binaryOp .Mult) gMulI := opd_I op_mulZ fun _ _ => rfl
theorem o_mul : OpD X (binaryOp .Mult) gMulI := o_mulI
theorem o_fdiv : OpD X (binaryOp .FloorDiv) gFdiv := opd_I op_fdivZ fun _ _ => rfl
theorem o_mod : OpD X (binaryOp .Mod) gMod := opd_I op_modN fun _ _ => rfl
theorem rI_imp {f : Value → Value → Sem Value} {C C' : Int → Int → Prop} {g : Int → Int → V} (h : OpR X f (rI C g)) (e : ∀ i j, C' i j → C i j) : OpR X f (rI C' g) := fun pins s σ H x y v u Q I rx ry ⟨i, j, e1, e2, c, q⟩ => h pins s σ H x y v u Q I rx ry ⟨i, j, e1, e2, e i j c, q⟩
theorem o_pow : OpD X (binaryOp .Pow) gPow := opd_I (rI_imp op_pow fun _ _ (c : PowOk _ _) => c.ok) fun _ _ => rfl
theorem o_shl : OpD X (binaryOp .LShift) gShl := opd_I (rI_imp op_shlW fun _ _ (c : ShlOk _ _) => c.ok) fun _ _ => rfl
theorem o_shr : OpD X (binaryOp .RShift) gShr := opd_I op_shr fun _ _ => rfl
def gAnd : G2 := gI (fun _ _ => True) fun i j => .int (Builtin.bitAnd i j)
theorem o_and : OpD X (binaryOp .BitAnd) gAnd := opd_I0 op_and fun _ _ => rfl
def gXor : G2 := gI (fun _ _ => True) fun i j => .int (Builtin.bitXor i j)
theorem o_xor : OpD X (binaryOp .BitXor) gXor := opd_I0 op_xor fun _ _ => rfl
def gLt : G2 := gI (fun _ _ => True) fun i j => .bool (decide (i < j))
def gLe : G2 := gI (fun _ _ => True) fun i j => .bool (decide (i ≤ j))
def gGt : G2 := gI (fun _ _ => True) fun i j => .bool (decide (j < i))
def gGe : G2 := gI (fun _ _ => True) fun i j => .bool (decide (j ≤ i))
theorem o_lt : OpD X (compareOp .Lt) gLt := opd_I0 op_lt fun _ _ => rfl
theorem o_le : OpD X (compareOp .LtE) gLe := opd_I0 op_le fun _ _ => rfl
theorem o_gt : OpD X (compareOp .Gt) gGt := opd_I0 op_gt fun _ _ => rfl
theorem o_ge : OpD X (compareOp .GtE) gGe := opd_I0 op_ge fun _ _ => rfl

/-! ### + of texts, tuples, lists -/
def gCatS : G2 := fun x y q => match x, y with | .str i, .str j => Fit (i.length + j.length) ∧ q (.str (i ++ j)) | _, _ => False
theorem o_catS : OpD X (binaryOp .Add) gCatS := by
  refine ⟨_, op_add_str, fun F H v u x y fh bx bY q hq Q k => ?_⟩
  unfold gCatS at hq
  split at hq
  · exact ⟨_, _, bx.str, bY.str, hq.1.le, k _ _ F H (Gr.refl fh) (.str _) hq.2⟩
  · exact hq.elim
def gCatT : G2 := fun x y q => match x, y with | .tuple xs, .tuple ys => Fit (xs.length + ys.length) ∧ q (.tuple (xs ++ ys)) | _, _ => False
theorem o_catT : OpD X (binaryOp .Add) gCatT := by
  refine ⟨_, op_catA, fun F H v u x y fh bx bY q hq Q k => ?_⟩
  unfold gCatT at hq
  split at hq
  · rename_i xs ys
    obtain ⟨a, vs, rfl, f1, h1, d1⟩ := bx.tup fh
    obtain ⟨b, us, rfl, f2, h2, d2⟩ := bY.tup fh
    refine ⟨a, b, vs, us, rfl, rfl, h1, h2, by rw [d1.length, d2.length]; exact hq.1.le, fun e => ?_, fun _ e => ?_, fun _ _ p hp => ?_⟩
    · subst e
      cases d1
      exact k _ _ F H (Gr.refl fh) (.tup f2 d2) hq.2
    · subst e
      cases d2
      rw [List.append_nil] at hq
      exact k _ _ F H (Gr.refl fh) (.tup f1 d1) hq.2
    · have g := Gr.new (o := .tup (vs ++ us)) fh hp
      exact k _ _ _ _ g (.tup (.inl (.inl upd_same)) ((d1.append d2).mono g.ff)) hq.2
  · exact hq.elim
def rCatG (K : Frag) : R2 := fun x y H Q => ∃ l b xs zs, x = .ref l ∧ y = .ref b ∧ SqL K H l xs ∧ SqL K H b zs ∧ xs.length + zs.length ≤ sizeLine ∧ ∀ p, H p = none → Q (.ref p) (upd H p (.lst (xs ++ zs)))
theorem op_catG : OpR X (binaryOp .Add) (rCatG X.K) := by
  intro pins s σ H x y v u Q I rx ry h
  obtain ⟨l, b, xs, zs, rfl, rfl, hH, hB, hz, q⟩ := h
  cases rx
  cases ry
  obtain ⟨its, r, ⟨⟨cls, dd, data, sl⟩, n, ho, hc, hd0, hd⟩, hs⟩ := I.list hH
  obtain ⟨its2, r2, ⟨⟨cls2, dd2, data2, sl2⟩, n2, ho2, hc2, hd02, hd2⟩, hs2⟩ := I.list hB
  simp only at hc hd hd0 hc2 hd2 hd02
  subst hc hd hd0 hc2 hd2 hd02
  have ea : its.toArray ++ its2.toArray = (its ++ its2).toArray := by simp
  refine concat_meets ⟨_, ho, rfl⟩ ⟨_, ho2, rfl⟩ noFill_list_add seq_list_add PySem.F.slot_list_add PySem.F.entry_list_add (PySem.F.args_list_add_2 _ _) (list_addW l b its.toArray its2.toArray n n2 none none sl sl2 (by
    have := r.length
    have := r2.length
    simp only [List.size_toArray]
    omega)) ⟨ho, ho2, ?_⟩
  rw [ea]
  exact ⟨.ref _, _, I.lnew (t' := s.toks) (r.append r2) (by rw [List.length_append]; omega), rfl, q _ I.fresh⟩
def lCat : D → D → (List D → Prop) → Prop := fun x y q => match x, y with | .list xs, .list ys => Fit (xs.length + ys.length) ∧ q (xs ++ ys) | _, _ => False
theorem o_catL : OpL X (binaryOp .Add) lCat := by
  refine ⟨_, op_catG, fun F H v u x y fh bx bY q hq Q k => ?_⟩
  unfold lCat at hq
  split at hq
  · rename_i xs ys
    obtain ⟨a, vs, rfl, h1, d1⟩ := bx.lst fh
    obtain ⟨b, us, rfl, h2, d2⟩ := bY.lst fh
    refine ⟨a, b, vs, us, rfl, rfl, h1, h2, by rw [d1.length, d2.length]; exact hq.1.le, fun p hp => ?_⟩
    exact k _ _ _ _ _ (Gr.newO fh hp) hp (fh.free hp) upd_same (d1.append d2) hq.2
  · exact hq.elim
/-- a new list as data -/
def toG (g : D → D → (List D → Prop) → Prop) : G2 := fun x y q => g x y fun ds => q (.list ds)
theorem gr_frz {F H F' H' : Hp} {p : Addr} {us : List V} (g : Gr F H F' H') (hp : H p = none) (hf : F' p = none) (hh : H' p = some (.lst us)) : Gr F H (upd F' p (.lst us)) H' := by
  refine ⟨g.ff.trans (same_new hf), g.hh, fun b u w => ?_, fun q hq m => ?_⟩
  · by_cases hb : b = p
    · subst hb
      rw [upd_same] at w
      cases w
      exact hh
    · rw [upd_ne hb] at w
      exact g.fh b u w
  · have : q ≠ p := fun w => by
      rw [w, hp] at m
      exact m
    rw [upd_ne this]
    exact g.own q hq m
theorem OpL.d {f : Value → Value → Sem Value} {g : D → D → (List D → Prop) → Prop} (h : OpL X f g) : OpD X f (toG g) := by
  obtain ⟨r, h1, h2⟩ := h
  refine ⟨r, h1, fun F H v u x y fh bx bY q hq Q k => h2 F H v u x y fh bx bY _ hq Q fun p us ds F' H' g hp hf hh ha z => ?_⟩
  exact k (.ref p) (.list ds) _ _ (gr_frz g hp hf hh) (.lst (.inl (.inl upd_same)) (ha.mono (same_new hf))) z
/-- + of whole numbers, texts, tuples, lists -/
def gAdd : G2 := fun x y q => match x, y with
  | .int i, .int j => q (.int (i + j))
  | .str i, .str j => Fit (i.length + j.length) ∧ q (.str (i ++ j))
  | .tuple xs, .tuple ys => Fit (xs.length + ys.length) ∧ q (.tuple (xs ++ ys))
  | .list xs, .list ys => Fit (xs.length + ys.length) ∧ q (.list (xs ++ ys))
  | _, _ => False
theorem o_add : OpD X (binaryOp .Add) gAdd :=
  (opd_I0 (gd := fun i j => .int (i + j)) op_add fun _ _ => rfl).or ((o_catS.or (g := gCatS) (o_catT.or (g := gCatT) (h := fun x y q => gCatT x y q ∨ toG lCat x y q) o_catL.d fun _ _ _ z => z) (h := fun x y q => gCatS x y q ∨ (gCatT x y q ∨ toG lCat x y q)) fun _ _ _ z => z)) fun x y q h => by
    unfold gAdd at h
    split at h
    · exact .inl ⟨trivial, h⟩
    · exact .inr (.inl h)
    · exact .inr (.inr (.inl h))
    · exact .inr (.inr (.inr h))
    · exact h.elim

/-! ### * of lists, tuples -/
def lRep : D → D → (List D → Prop) → Prop := fun x y q => match x, y with | .list xs, .int k => (-(2 ^ 63) ≤ k ∧ k < 2 ^ 63 ∧ Fit (xs.length * k.toNat)) ∧ q (List.replicate k.toNat xs).flatten | _, _ => False
def rRepG (K : Frag) : R2 := fun x y H Q => ∃ l k xs, x = .ref l ∧ y = .int k ∧ H l = some (.lst xs) ∧ -(2 ^ 63) ≤ k ∧ k < 2 ^ 63 ∧ xs.length * k.toNat ≤ sizeLine ∧
  ∀ p, H p = none → Q (.ref p) (upd H p (.lst (List.replicate k.toNat xs).flatten))

/-! ### == -/
def eqOk : D → D → Bool
  | .str _, .str _ => true
  | x, y => SeqAt.shaped x && SeqAt.shaped y
theorem eqOk_ii (i j : Int) : eqOk (.int i) (.int j) = true := by simp [eqOk, SeqAt.shaped, PyData.canLay0, PyData.depth]
theorem eqOk_bb (i j : Bool) : eqOk (.bool i) (.bool j) = true := by simp [eqOk, SeqAt.shaped, PyData.canLay0, PyData.depth]
theorem eqOk_ss (i j : Str) : eqOk (.str i) (.str j) = true := rfl
def gEq : G2 := fun x y q => eqOk x y = true ∧ q (.bool (PyData.eqv x y))
def gNe : G2 := fun x y q => eqOk x y = true ∧ q (.bool (!PyData.eqv x y))
theorem eqOk_or {x y : D} (h : eqOk x y = true) : (SeqAt.shaped x = true ∧ SeqAt.shaped y = true) ∨ ∃ i j, x = .str i ∧ y = .str j := by
  unfold eqOk at h
  split at h
  · exact .inr ⟨_, _, rfl, rfl⟩
  · rw [Bool.and_eq_true] at h
    exact .inl h
theorem eqv_ss (i j : Str) : PyData.eqv (.str i) (.str j) = decide (V.str i = V.str j) := by rw [dec_str]; simp [PyData.eqv]
theorem o_eq (hu : X.A.units + 64 < cLine) : OpD X (compareOp .Eq) gEq := by
  refine ⟨_, (op_eqD hu).or op_eq, fun F H v u x y fh bx bY q hq Q k => ?_⟩
  rcases eqOk_or hq.1 with ⟨h1, h2⟩ | ⟨i, j, rfl, rfl⟩
  · exact .inl ⟨x, y, bx.dp fh, bY.dp fh, h1, h2, k _ _ F H (Gr.refl fh) (.bl _) hq.2⟩
  · cases bx.str
    cases bY.str
    refine .inr ⟨rfl, ?_⟩
    rw [← eqv_ss]
    exact k _ _ F H (Gr.refl fh) (.bl _) hq.2
theorem o_ne (hu : X.A.units + 64 < cLine) : OpD X (compareOp .NotEq) gNe := by
  refine ⟨_, (op_neD hu).or op_ne, fun F H v u x y fh bx bY q hq Q k => ?_⟩
  rcases eqOk_or hq.1 with ⟨h1, h2⟩ | ⟨i, j, rfl, rfl⟩
  · exact .inl ⟨x, y, bx.dp fh, bY.dp fh, h1, h2, k _ _ F H (Gr.refl fh) (.bl _) hq.2⟩
  · cases bx.str
    cases bY.str
    refine .inr ⟨rfl, ?_⟩
    rw [← eqv_ss]
    exact k _ _ F H (Gr.refl fh) (.bl _) hq.2

/-! ### is -/
def isNone : D → Bool
  | .none => true
  | _ => false
theorem dp_isNone {K : Frag} {H : Hp} {v : V} {d : D} (h : Dp K H v d) : decide (v = .non) = isNone d := by
  cases h <;> rfl
def gIsN : G2 := fun x y q => match y with | .none => q (.bool (isNone x)) | _ => False
def gNotN : G2 := fun x y q => match y with | .none => q (.bool (!isNone x)) | _ => False
theorem o_isN : OpD X (compareOp .Is) gIsN := by
  refine ⟨_, op_isN, fun F H v u x y fh bx bY q hq Q k => ?_⟩
  unfold gIsN at hq
  split at hq
  · refine ⟨bY.non, ?_⟩
    rw [dp_isNone (bx.dp fh)]
    exact k _ _ F H (Gr.refl fh) (.bl _) hq
  · exact hq.elim
theorem o_notN : OpD X (compareOp .IsNot) gNotN := by
  refine ⟨_, op_notN, fun F H v u x y fh bx bY q hq Q k => ?_⟩
  unfold gNotN at hq
  split at hq
  · refine ⟨bY.non, ?_⟩
    rw [dp_isNone (bx.dp fh)]
    exact k _ _ F H (Gr.refl fh) (.bl _) hq
  · exact hq.elim
def gIsB : G2 := fun x y q => match x, y with | .bool a, .bool b => q (.bool (decide (a = b))) | _, _ => False
def gNotB : G2 := fun x y q => match x, y with | .bool a, .bool b => q (.bool (!decide (a = b))) | _, _ => False
theorem o_isB : OpD X (compareOp .Is) gIsB := by
  refine ⟨_, op_is_bl, fun F H v u x y fh bx bY q hq Q k => ?_⟩
  unfold gIsB at hq
  split at hq
  · exact ⟨_, _, bx.bl, bY.bl, k _ _ F H (Gr.refl fh) (.bl _) hq⟩
  · exact hq.elim
theorem o_notB : OpD X (compareOp .IsNot) gNotB := by
  refine ⟨_, op_isnot_bl, fun F H v u x y fh bx bY q hq Q k => ?_⟩
  unfold gNotB at hq
  split at hq
  · exact ⟨_, _, bx.bl, bY.bl, k _ _ F H (Gr.refl fh) (.bl _) hq⟩
  · exact hq.elim
/-- is: None, True, False on the right -/
def gIs : G2 := fun x y q => match y with | .none => q (.bool (isNone x)) | .bool b => (match x with | .bool a => q (.bool (decide (a = b))) | _ => False) | _ => False
def gIsNot : G2 := fun x y q => match y with | .none => q (.bool (!isNone x)) | .bool b => (match x with | .bool a => q (.bool (!decide (a = b))) | _ => False) | _ => False
theorem o_is : OpD X (compareOp .Is) gIs := o_isN.or o_isB fun x y q h => by
  cases y with
  | none => exact .inl h
  | bool b =>
    cases x with
    | bool a => exact .inr h
    | _ => exact h.elim
  | _ => exact h.elim
theorem o_isNot : OpD X (compareOp .IsNot) gIsNot := o_notN.or o_notB fun x y q h => by
  cases y with
  | none => exact .inl h
  | bool b =>
    cases x with
    | bool a => exact .inr h
    | _ => exact h.elim
  | _ => exact h.elim

/-! ### in: flat items -/
def flatD : D → Bool
  | .none => true
  | .bool _ => true
  | .int _ => true
  | .str _ => true
  | _ => false
theorem flat_dp {K : Frag} {H : Hp} {v : V} {d : D} (h : Dp K H v d) : flatV v = flatD d := by
  cases h <;> rfl
theorem flat_all {K : Frag} {H : Hp} : ∀ {vs : List V} {ds : List D}, DpAll K H vs ds → vs.all flatV = ds.all flatD
  | [], ds, h => by cases h; rfl
  | v :: vs, ds, h => by
    cases h with
    | cons h1 h2 => rw [List.all_cons, List.all_cons, flat_dp h1, flat_all h2]
theorem eqV_dp {K : Frag} {H : Hp} {v u : V} {d e : D} (h : Dp K H v d) (g : Dp K H u e) (f : flatD d = true) (f' : flatD e = true) : eqV v u = PyData.eqv d e := by
  cases h <;> cases g <;> first | (simp [flatD] at f; done) | (simp [flatD] at f'; done) | (simp [eqV, PyData.eqv]; done) | rfl
theorem inV_dp {K : Frag} {H : Hp} {v : V} {d : D} (h : Dp K H v d) (f : flatD d = true) : ∀ {vs : List V} {ds : List D}, DpAll K H vs ds → ds.all flatD = true → inV v vs = ds.any fun y => PyData.eqv y d
  | [], ds, h, _ => by cases h; rfl
  | w :: vs, ds, h', fa => by
    cases h' with
    | cons h1 h2 =>
      rw [List.all_cons, Bool.and_eq_true] at fa
      have := inV_dp h f h2 fa.2
      unfold inV at this ⊢
      rw [List.any_cons, List.any_cons, this, eqV_dp h1 h fa.1 f]
def inD (x : D) (ys : List D) : Bool := ys.any fun y => PyData.eqv y x
def gIn (neg : Bool) : G2 := fun x y q => match y with
  | .list ys => flatD x = true ∧ ys.all flatD = true ∧ q (.bool (if neg then !inD x ys else inD x ys))
  | .tuple ys => flatD x = true ∧ ys.all flatD = true ∧ q (.bool (if neg then !inD x ys else inD x ys))
  | _ => False
theorem sim_in {neg : Bool} : Sim2 X.K (rIn X.K neg) (gIn neg) := fun F H v u x y fh bx bY q hq Q k => by
  unfold gIn at hq
  split at hq
  · rename_i ys
    obtain ⟨a, vs, rfl, h1, d1⟩ := bY.lst fh
    have dx := bx.dp fh
    have d1 := d1.mono fh
    refine ⟨a, vs, rfl, .inl h1, by rw [flat_dp dx]; exact hq.1, by rw [flat_all d1]; exact hq.2.1, ?_⟩
    rw [inV_dp dx hq.1 d1 hq.2.1]
    exact k _ _ F H (Gr.refl fh) (.bl _) hq.2.2
  · rename_i ys
    obtain ⟨a, vs, rfl, _, h1, d1⟩ := bY.tup fh
    have dx := bx.dp fh
    have d1 := d1.mono fh
    refine ⟨a, vs, rfl, .inr h1, by rw [flat_dp dx]; exact hq.1, by rw [flat_all d1]; exact hq.2.1, ?_⟩
    rw [inV_dp dx hq.1 d1 hq.2.1]
    exact k _ _ F H (Gr.refl fh) (.bl _) hq.2.2
  · exact hq.elim
theorem o_in : OpD X (compareOp .In) (gIn false) := ⟨_, op_in_seq, sim_in⟩
theorem o_notIn : OpD X (compareOp .NotIn) (gIn true) := ⟨_, op_notIn_seq, sim_in⟩

/-! ### one-place -/
def gNeg : G1 := fun x q => match x with | .int i => q (.int (-i)) | _ => False
theorem u_neg : UnD X (unaryOp .USub) gNeg := by
  refine ⟨_, un_neg, fun F H v x fh bx q hq Q k => ?_⟩
  unfold gNeg at hq
  split at hq
  · exact ⟨_, bx.int, k _ _ F H (Gr.refl fh) (.int _) hq⟩
  · exact hq.elim

/-! ### items -/
def gIx : G2 := fun x y q => match x, y with
  | .list xs, .int i => (match atI xs i with | some d => q d | none => False)
  | .tuple xs, .int i => (match atI xs i with | some d => q d | none => False)
  | .str z, .int i => Fit z.length ∧ (match atI z.cps.toList i with | some c => q (.str ⟨#[c]⟩) | none => False)
  | _, _ => False
theorem atI_dp {K : Frag} {H : Hp} {vs : List V} {ds : List D} {i : Int} {d : D} (h : DpAll K H vs ds) (e : atI ds i = some d) : ∃ v, atI vs i = some v ∧ Dp K H v d := by
  unfold atI at e ⊢
  rw [h.length]
  cases q : ixN ds.length i with
  | none => rw [q] at e; cases e
  | some j =>
    rw [q] at e
    exact h.get e
theorem x_ix : IxD X gIx := by
  refine ⟨_, ix_seq, fun F H v u x y fh bx bY q hq Q k => ?_⟩
  unfold gIx at hq
  split at hq
  · split at hq
    · rename_i d e
      obtain ⟨a, vs, rfl, h1, d1⟩ := bx.lst fh
      obtain ⟨w, hw, r⟩ := atI_dp d1 e
      exact .inl ⟨a, vs, _, w, rfl, bY.int, h1, hw, k _ _ F H (Gr.refl fh) r hq⟩
    · exact hq.elim
  · split at hq
    · rename_i d e
      obtain ⟨a, vs, rfl, _, h1, d1⟩ := bx.tup fh
      obtain ⟨w, hw, r⟩ := atI_dp d1 e
      exact .inr (.inl ⟨a, vs, _, w, rfl, bY.int, h1, hw, k _ _ F H (Gr.refl fh) r hq⟩)
    · exact hq.elim
  · obtain ⟨hl, hq⟩ := hq
    split at hq
    · rename_i c e
      exact .inr (.inr ⟨_, _, c, bx.str, bY.int, hl.le, e, k _ _ F H (Gr.refl fh) (.str _) hq⟩)
    · exact hq.elim
  · exact hq.elim
end
end DL

namespace DL
open PySem PySem.Spec PyProof.Rows L2
section
variable {X : Cx}
theorem CallD.or {f : Value} {g g' h : GA} (a : CallD X f g) (b : CallD X f g') (e : ∀ x q, h x q → g x q ∨ g' x q) : CallD X f h := by
  obtain ⟨r, h1, h2⟩ := a
  obtain ⟨r', h1', h2'⟩ := b
  refine ⟨_, h1.or h1', fun F H v x fh bx q hq Q k => ?_⟩
  rcases e x q hq with z | z
  · exact .inl (h2 F H v x fh bx q z Q k)
  · exact .inr (h2' F H v x fh bx q z Q k)
theorem CallL.d {f : Value} {g : List D → (List D → Prop) → Prop} (h : CallL X f g) : CallD X f (fun x q => g x fun ds => q (.list ds)) := by
  obtain ⟨r, h1, h2⟩ := h
  refine ⟨r, h1, fun F H v x fh bx q hq Q k => h2 F H v x fh bx _ hq Q fun p us ds F' H' g hp hf hh ha z => ?_⟩
  exact k (.ref p) (.list ds) _ _ (gr_frz g hp hf hh) (.lst (.inl (.inl upd_same)) (ha.mono (same_new hf))) z

def gLen : GA := fun xs q => match xs with
  | [.list ys] => q (.int ys.length)
  | [.tuple ys] => q (.int ys.length)
  | [.str z] => Fit z.length ∧ q (.int z.length)
  | _ => False
theorem c_len : CallD X (.builtin "len") gLen := by
  refine ⟨_, call_len_seq.or call_len_str, fun F H vs xs fh bx q hq Q k => ?_⟩
  unfold gLen at hq
  split at hq
  · obtain ⟨v, rfl, b⟩ := bx.one
    obtain ⟨a, us, rfl, h1, d1⟩ := b.lst fh
    refine .inl ⟨a, us, rfl, .inl h1, ?_⟩
    rw [d1.length]
    exact k _ _ F H (Gr.refl fh) (.int _) hq
  · obtain ⟨v, rfl, b⟩ := bx.one
    obtain ⟨a, us, rfl, _, h1, d1⟩ := b.tup fh
    refine .inl ⟨a, us, rfl, .inr h1, ?_⟩
    rw [d1.length]
    exact k _ _ F H (Gr.refl fh) (.int _) hq
  · obtain ⟨v, rfl, b⟩ := bx.one
    exact .inr ⟨_, by rw [b.str], hq.1.le, k _ _ F H (Gr.refl fh) (.int _) hq.2⟩
  · exact hq.elim
def gInt : GA := fun xs q => match xs with
  | [.int i] => q (.int i)
  | [.bool b] => q (.int (if b then 1 else 0))
  | _ => False
theorem c_int : CallD X (.type "int") gInt := by
  refine ⟨_, call_int1, fun F H vs xs fh bx q hq Q k => ?_⟩
  unfold gInt at hq
  split at hq
  · obtain ⟨v, rfl, b⟩ := bx.one
    exact .inl ⟨_, by rw [b.int], k _ _ F H (Gr.refl fh) (.int _) hq⟩
  · obtain ⟨v, rfl, b⟩ := bx.one
    exact .inr ⟨_, by rw [b.bl], k _ _ F H (Gr.refl fh) (.int _) hq⟩
  · exact hq.elim
def gAbs : GA := fun xs q => match xs with
  | [.int i] => q (.int (if i < 0 then -i else i))
  | _ => False
theorem c_abs : CallD X (.builtin "abs") gAbs := by
  refine ⟨_, call_abs, fun F H vs xs fh bx q hq Q k => ?_⟩
  unfold gAbs at hq
  split at hq
  · obtain ⟨v, rfl, b⟩ := bx.one
    exact ⟨_, by rw [b.int], k _ _ F H (Gr.refl fh) (.int _) hq⟩
  · exact hq.elim
def gMax2 : GA := fun xs q => match xs with
  | [.int i, .int j] => q (.int (if j > i then j else i))
  | _ => False
theorem c_max2 (hc : X.calm = true := by rfl) : CallD X (.builtin "max") gMax2 := by
  refine ⟨_, call_max2 hc, fun F H vs xs fh bx q hq Q k => ?_⟩
  unfold gMax2 at hq
  split at hq
  · obtain ⟨v, u, rfl, b, c⟩ := bx.two
    exact ⟨_, _, by rw [b.int, c.int], k _ _ F H (Gr.refl fh) (.int _) hq⟩
  · exact hq.elim
def gMin2 : GA := fun xs q => match xs with
  | [.int i, .int j] => q (.int (if j < i then j else i))
  | _ => False
theorem c_min2 (hc : X.calm = true := by rfl) : CallD X (.builtin "min") gMin2 := by
  refine ⟨_, call_min2 hc, fun F H vs xs fh bx q hq Q k => ?_⟩
  unfold gMin2 at hq
  split at hq
  · obtain ⟨v, u, rfl, b, c⟩ := bx.two
    exact ⟨_, _, by rw [b.int, c.int], k _ _ F H (Gr.refl fh) (.int _) hq⟩
  · exact hq.elim
def gTuple : GA := fun xs q => match xs with
  | [.list ys] => q (.tuple ys)
  | [.tuple ys] => q (.tuple ys)
  | _ => False
theorem c_tuple : CallD X (.type "tuple") gTuple := by
  refine ⟨_, call_tuple_of, fun F H vs xs fh bx q hq Q k => ?_⟩
  unfold gTuple at hq
  split at hq
  · obtain ⟨v, rfl, b⟩ := bx.one
    obtain ⟨a, us, rfl, h1, d1⟩ := b.lst fh
    refine ⟨a, us, rfl, .inl ⟨h1, fun p hp => ?_⟩⟩
    have g := Gr.new (o := .tup us) fh hp
    exact k _ _ _ _ g (.tup (.inl (.inl upd_same)) (d1.mono g.ff)) hq
  · obtain ⟨v, rfl, b⟩ := bx.one
    obtain ⟨a, us, rfl, h0, h1, d1⟩ := b.tup fh
    exact ⟨a, us, rfl, .inr ⟨h1, k _ _ F H (Gr.refl fh) (.tup h0 d1) hq⟩⟩
  · exact hq.elim
def lList : List D → (List D → Prop) → Prop := fun xs q => match xs with
  | [.list ys] => q ys
  | [.tuple ys] => q ys
  | _ => False
theorem c_list : CallL X (.type "list") lList := by
  refine ⟨_, call_list_of, fun F H vs xs fh bx q hq Q k => ?_⟩
  unfold lList at hq
  split at hq
  · obtain ⟨v, rfl, b⟩ := bx.one
    obtain ⟨a, us, rfl, h1, d1⟩ := b.lst fh
    exact ⟨a, us, rfl, .inl h1, fun p hp => k p us _ F _ (Gr.newO fh hp) hp (fh.free hp) upd_same d1 hq⟩
  · obtain ⟨v, rfl, b⟩ := bx.one
    obtain ⟨a, us, rfl, h0, h1, d1⟩ := b.tup fh
    exact ⟨a, us, rfl, .inr h1, fun p hp => k p us _ F _ (Gr.newO fh hp) hp (fh.free hp) upd_same d1 hq⟩
  · exact hq.elim
/-! sums, least, greatest of whole numbers -/
def gSum : GA := fun xs q => ∃ ns : List Int, xs = [.list (ns.map .int)] ∧ q (.int ns.sum)
def gMax1 : GA := fun xs q => ∃ ns : List Int, xs = [.list (ns.map .int)] ∧ 0 < ns.length ∧ ∀ m, m ∈ ns → (∀ y, y ∈ ns → y ≤ m) → q (.int m)
def gMin1 : GA := fun xs q => ∃ ns : List Int, xs = [.list (ns.map .int)] ∧ 0 < ns.length ∧ ∀ m, m ∈ ns → (∀ y, y ∈ ns → m ≤ y) → q (.int m)
theorem lst_ints {F H : Hp} {v : V} {ns : List Int} (fh : Same F H) (b : Bor X.K F H v (.list (ns.map .int))) : ∃ a, v = .ref a ∧ SqL X.K H a (ns.map V.int) := by
  obtain ⟨a, us, rfl, h1, d1⟩ := b.lst fh
  rw [DpAll.ints_of ns d1] at h1
  exact ⟨a, rfl, h1⟩
theorem c_sum (hc : X.calm = true := by rfl) : CallD X (.builtin "sum") gSum := by
  refine ⟨_, cr_sum hc, fun F H vs xs fh bx q hq Q k => ?_⟩
  obtain ⟨ns, rfl, hq⟩ := hq
  obtain ⟨v, rfl, b⟩ := bx.one
  obtain ⟨a, rfl, h1⟩ := lst_ints fh b
  exact ⟨a, ns, rfl, h1, k _ _ F H (Gr.refl fh) (.int _) hq⟩
theorem c_max1 (hc : X.calm = true := by rfl) : CallD X (.builtin "max") gMax1 := by
  refine ⟨_, cr_max hc, fun F H vs xs fh bx q hq Q k => ?_⟩
  obtain ⟨ns, rfl, hn, hq⟩ := hq
  obtain ⟨v, rfl, b⟩ := bx.one
  obtain ⟨a, rfl, h1⟩ := lst_ints fh b
  exact ⟨a, ns, rfl, h1, hn, fun m e1 e2 => k _ _ F H (Gr.refl fh) (.int _) (hq m e1 e2)⟩
theorem c_min1 (hc : X.calm = true := by rfl) : CallD X (.builtin "min") gMin1 := by
  refine ⟨_, cr_min hc, fun F H vs xs fh bx q hq Q k => ?_⟩
  obtain ⟨ns, rfl, hn, hq⟩ := hq
  obtain ⟨v, rfl, b⟩ := bx.one
  obtain ⟨a, rfl, h1⟩ := lst_ints fh b
  exact ⟨a, ns, rfl, h1, hn, fun m e1 e2 => k _ _ F H (Gr.refl fh) (.int _) (hq m e1 e2)⟩
def gAny : GA := fun xs q => ∃ bs : List Bool, xs = [.list (bs.map .bool)] ∧ q (.bool (bs.any id))
def gAll : GA := fun xs q => ∃ bs : List Bool, xs = [.list (bs.map .bool)] ∧ q (.bool (bs.all id))
theorem c_any (hc : X.calm = true := by rfl) : CallD X (.builtin "any") gAny := by
  refine ⟨_, cr_any hc, fun F H vs xs fh bx q hq Q k => ?_⟩
  obtain ⟨ns, rfl, hq⟩ := hq
  obtain ⟨v, rfl, b⟩ := bx.one
  obtain ⟨a, us, rfl, h1, d1⟩ := b.lst fh
  rw [DpAll.bools_of ns d1] at h1
  exact ⟨a, ns, rfl, h1, k _ _ F H (Gr.refl fh) (.bl _) hq⟩
theorem c_all (hc : X.calm = true := by rfl) : CallD X (.builtin "all") gAll := by
  refine ⟨_, cr_all hc, fun F H vs xs fh bx q hq Q k => ?_⟩
  obtain ⟨ns, rfl, hq⟩ := hq
  obtain ⟨v, rfl, b⟩ := bx.one
  obtain ⟨a, us, rfl, h1, d1⟩ := b.lst fh
  rw [DpAll.bools_of ns d1] at h1
  exact ⟨a, ns, rfl, h1, k _ _ F H (Gr.refl fh) (.bl _) hq⟩
def gGcd : GA := fun xs q => match xs with
  | [.int a, .int b] => q (.int ((Nat.gcd a.natAbs b.natAbs : Nat) : Int))
  | _ => False
theorem c_gcd : CallD X (.builtin "math.gcd") gGcd := by
  refine ⟨_, cr_gcd, fun F H vs xs fh bx q hq Q k => ?_⟩
  unfold gGcd at hq
  split at hq
  · obtain ⟨v, u, rfl, b, c⟩ := bx.two
    exact ⟨_, _, by rw [b.int, c.int], k _ _ F H (Gr.refl fh) (.int _) hq⟩
  · exact hq.elim
def gIsqrt : GA := fun xs q => match xs with
  | [.int a] => 0 ≤ a ∧ a.toNat.log2 < 13000 ∧ q (.int (Float64.isqrt a.toNat : Nat))
  | _ => False
theorem c_isqrt : CallD X (.builtin "math.isqrt") gIsqrt := by
  refine ⟨fun vs H Q => ∃ a : Int, vs = [.int a] ∧ 0 ≤ a ∧ a.toNat.log2 < 13000 ∧ Q (.int (Float64.isqrt a.toNat : Nat)) H, ?_, fun F H vs xs fh bx q hq Q k => ?_⟩
  · intro pins s σ H vs us Q I r h
    obtain ⟨a, rfl, h0, h1, q⟩ := h
    obtain ⟨u, rfl, t, rfl⟩ := vals1 r
    exact call_function_meets PySem.W.MGF.kind_isqrt PySem.W.MGF.plain_isqrt PySem.W.MGF.entry_isqrt (PySem.W.MGF.args_isqrt _) (PySem.W.mg_run_isqrt a t (by omega) (by omega) (by omega)).meets ⟨.int _, H, I.tok _, ⟨_, rfl⟩, q⟩
  · unfold gIsqrt at hq
    split at hq
    · obtain ⟨v, rfl, b⟩ := bx.one
      exact ⟨_, by rw [b.int], hq.1, hq.2.1, k _ _ F H (Gr.refl fh) (.int _) hq.2.2⟩
    · exact hq.elim
/-! isinstance -/
def tyD : D → String
  | .none => "NoneType" | .bool _ => "bool" | .int _ => "int" | .str _ => "str" | .list _ => "list" | .tuple _ => "tuple" | .dict _ => "dict"
theorem dp_tyX {K : Frag} {H : Hp} {v : V} {d : D} (h : Dp K H v d) : TyX K H v (.type (tyD d)) := by
  cases h with
  | non => exact .base .non
  | bl => exact .base (.bl _)
  | int => exact .base (.int _)
  | str => exact .base (.str _)
  | lst hs _ =>
    rcases hs with (h | ⟨o, h⟩) | ⟨o, its, n, h, hc, _⟩
    · exact .base (.lst h)
    · exact .base (.frz h)
    · exact .kList h hc
  | tup hs _ =>
    rcases hs with (h | ⟨o, h⟩) | ⟨o, its, n, h, hc, _⟩
    · exact .base (.tup h)
    · exact .fTuple h
    · exact .kTuple h hc
/-- is it of one of these built-in types -/
def isTy (d : D) (T : String) : Bool := tyD d == T || (T == "int" && tyD d == "bool")
def tyOk (T : String) : Prop := kitB "NoneType" T = some (T == "NoneType") ∧ kitB "bool" T = some (T == "bool" || T == "int") ∧ kitB "int" T = some (T == "int") ∧ kitB "str" T = some (T == "str") ∧ kitB "list" T = some (T == "list") ∧ kitB "tuple" T = some (T == "tuple") ∧ kitB "dict" T = some (T == "dict")
theorem kit_d {T : String} (h : tyOk T) (d : D) : kitB (tyD d) T = some (isTy d T) := by
  obtain ⟨h1, h2, h3, h4, h5, h6, h7⟩ := h
  have cm : ∀ s : String, (T == s) = (s == T) := fun s => by
    rw [Bool.eq_iff_iff]
    simp only [beq_iff_eq]
    exact ⟨Eq.symm, Eq.symm⟩
  cases d with
  | none => show kitB "NoneType" T = _; rw [h1, cm]; unfold isTy; simp [tyD]
  | bool b => show kitB "bool" T = _; rw [h2, cm "bool"]; unfold isTy; simp [tyD]
  | int b => show kitB "int" T = _; rw [h3, cm]; unfold isTy; simp [tyD]
  | str b => show kitB "str" T = _; rw [h4, cm]; unfold isTy; simp [tyD]
  | list b => show kitB "list" T = _; rw [h5, cm]; unfold isTy; simp [tyD]
  | tuple b => show kitB "tuple" T = _; rw [h6, cm]; unfold isTy; simp [tyD]
  | dict b => show kitB "dict" T = _; rw [h7, cm]; unfold isTy; simp [tyD]
theorem ty_int : tyOk "int" := by refine ⟨?_, ?_, ?_, ?_, ?_, ?_, ?_⟩ <;> decide +kernel
theorem ty_bool : tyOk "bool" := by refine ⟨?_, ?_, ?_, ?_, ?_, ?_, ?_⟩ <;> decide +kernel
theorem ty_str : tyOk "str" := by refine ⟨?_, ?_, ?_, ?_, ?_, ?_, ?_⟩ <;> decide +kernel
theorem ty_list : tyOk "list" := by refine ⟨?_, ?_, ?_, ?_, ?_, ?_, ?_⟩ <;> decide +kernel
theorem ty_tuple : tyOk "tuple" := by refine ⟨?_, ?_, ?_, ?_, ?_, ?_, ?_⟩ <;> decide +kernel

variable {x : Str} {p pos : Pos} {e : Expr} {es : List Expr} {da : RL} {id T : String}
def dCall (g : GA) (da : RL) : RE := fun ρ q => da ρ fun xs => g xs q
def lCall (g : List D → (List D → Prop) → Prop) (da : RL) : RL := fun ρ q => da ρ fun xs => g xs q
theorem sim_call {K : Frag} {ta : TA} {r : List V → Hp → VK → Prop} {g : GA} (ha : SimAB K ta da) (hr : SimC K r g) : SimE K (tCB r ta) (dCall g da) := fun B F H ρ σ E q hq Q k =>
  ha B F H ρ σ E _ hq _ fun vs xs F1 H1 g1 b z => hr F1 H1 vs xs g1.fh b q z Q fun w d F2 H2 g2 r2 z2 => k w d F2 H2 (g1.trans g2) r2 z2
theorem sim_callL {K : Frag} {ta : TA} {r : List V → Hp → VK → Prop} {g : List D → (List D → Prop) → Prop} (ha : SimAB K ta da) (hr : SimCL K r g) : SimL K (tCB r ta) (lCall g da) := fun B F H ρ σ E q hq Q k =>
  ha B F H ρ σ E _ hq _ fun vs xs F1 H1 g1 b z => hr F1 H1 vs xs g1.fh b q z Q fun p us ds F2 H2 g2 hp hf hh r2 z2 => k p us ds F2 H2 (g1.trans g2) (g1.hh.free hp) hf hh r2 z2
/-- f(e, ..), f a built-in function -/
theorem de_B {g : GA} (hc : CallD X (.builtin id) g) (hm : X.mg x = none) (ha : DAB X (e :: es) da) (hg : Gl X x := by rfl) (hv : bootBuiltins x = some (.builtin id) := by decide +kernel) (hn : x ≠ "__name__" := by decide) (hdb : (x == ("__debug__" : Str)) = false := by decide)
    (he : starEach (e :: es) X.env = (false, eval e X.env) :: starEach es X.env := by rfl) (hpl : (backTo pos (starEach es X.env)).any (·.1) = false := by rfl) : DE X (.Call (.Name x p) (e :: es) [] pos) (dCall g da) := by
  obtain ⟨r, h1, h2⟩ := hc
  obtain ⟨ta, a1, a2⟩ := ha
  exact ⟨_, pe_callB h1 hg hm hv a1 hn hdb he hpl, sim_call a2 h2⟩
/-- f(e, ..), f a built-in class -/
theorem de_T {g : GA} (hc : CallD X (.type T) g) (hm : X.mg x = none) (ha : DAB X (e :: es) da) (hg : Gl X x := by rfl) (hv : bootBuiltins x = some (.type T) := by decide +kernel) (hn : x ≠ "__name__" := by decide) (hdb : (x == ("__debug__" : Str)) = false := by decide)
    (he : starEach (e :: es) X.env = (false, eval e X.env) :: starEach es X.env := by rfl) (hpl : (backTo pos (starEach es X.env)).any (·.1) = false := by rfl) : DE X (.Call (.Name x p) (e :: es) [] pos) (dCall g da) := by
  obtain ⟨r, h1, h2⟩ := hc
  obtain ⟨ta, a1, a2⟩ := ha
  exact ⟨_, pe_callTy h1 hg hm hv a1 hn hdb he hpl, sim_call a2 h2⟩
theorem dl_T {g : List D → (List D → Prop) → Prop} (hc : CallL X (.type T) g) (hm : X.mg x = none) (ha : DAB X (e :: es) da) (hg : Gl X x := by rfl) (hv : bootBuiltins x = some (.type T) := by decide +kernel) (hn : x ≠ "__name__" := by decide) (hdb : (x == ("__debug__" : Str)) = false := by decide)
    (he : starEach (e :: es) X.env = (false, eval e X.env) :: starEach es X.env := by rfl) (hpl : (backTo pos (starEach es X.env)).any (·.1) = false := by rfl) : DLs X (.Call (.Name x p) (e :: es) [] pos) (lCall g da) := by
  obtain ⟨r, h1, h2⟩ := hc
  obtain ⟨ta, a1, a2⟩ := ha
  exact ⟨_, pe_callTy h1 hg hm hv a1 hn hdb he hpl, sim_callL a2 h2⟩
theorem dl_B {g : List D → (List D → Prop) → Prop} (hc : CallL X (.builtin id) g) (hm : X.mg x = none) (ha : DAB X (e :: es) da) (hg : Gl X x := by rfl) (hv : bootBuiltins x = some (.builtin id) := by decide +kernel) (hn : x ≠ "__name__" := by decide) (hdb : (x == ("__debug__" : Str)) = false := by decide)
    (he : starEach (e :: es) X.env = (false, eval e X.env) :: starEach es X.env := by rfl) (hpl : (backTo pos (starEach es X.env)).any (·.1) = false := by rfl) : DLs X (.Call (.Name x p) (e :: es) [] pos) (lCall g da) := by
  obtain ⟨r, h1, h2⟩ := hc
  obtain ⟨ta, a1, a2⟩ := ha
  exact ⟨_, pe_callB h1 hg hm hv a1 hn hdb he hpl, sim_callL a2 h2⟩
/-- f(e, ..), f a name that the module took from another (gcd, isqrt) -/
theorem de_M {g : GA} (hc : CallD X (.builtin id) g) (hm : X.mg x = some (.builtin id)) (ha : DAB X (e :: es) da) (hg : Gl X x := by rfl) (hdb : (x == ("__debug__" : Str)) = false := by decide)
    (he : starEach (e :: es) X.env = (false, eval e X.env) :: starEach es X.env := by rfl) (hpl : (backTo pos (starEach es X.env)).any (·.1) = false := by rfl) : DE X (.Call (.Name x p) (e :: es) [] pos) (dCall g da) := by
  obtain ⟨r, h1, h2⟩ := hc
  obtain ⟨ta, a1, a2⟩ := ha
  exact ⟨_, pe_callBfun h1 hg hm a1 hdb he hpl, sim_call a2 h2⟩
/-- isinstance(e, T) -/
def dIsi (T : String) (de : RE) : RE := fun ρ q => de ρ fun d => q (.bool (isTy d T))
theorem de_isi {de : RE} {y : Str} {p2 : Pos} (ht : tyOk T) (hm : X.mg x = none) (hm2 : X.mg y = none) (ha : DB X e de) (hx : x = "isinstance" := by rfl) (hg : Gl X x := by rfl) (hg2 : Gl X y := by rfl) (hv : bootBuiltins y = some (.type T) := by decide +kernel)
    (hn : y ≠ "__name__" := by decide) (hd : (y == ("__debug__" : Str)) = false := by decide)
    (he : starEach [e, .Name y p2] X.env = (false, eval e X.env) :: starEach [.Name y p2] X.env := by rfl) (he2 : starEach [.Name y p2] X.env = [(false, eval (.Name y p2) X.env)] := by rfl) (hpl : (backTo pos (starEach [.Name y p2] X.env)).any (·.1) = false := by rfl) :
    DE X (.Call (.Name x p) [e, .Name y p2] [] pos) (dIsi T de) := by
  subst hx
  obtain ⟨te, a1, a2⟩ := ha
  refine ⟨_, pe_callB call_isi hg hm (by decide +kernel) (pa_cons a1 (pa_cons (pe_bltn (v := .ty T) hg2 hm2 hv rfl hn hd) pa_nil he2) he) (by decide) (by decide) he hpl, fun B F H ρ σ E q hq Q k => ?_⟩
  refine a2 B F H ρ σ E _ hq _ fun v d F' H' g b z => ⟨v, .ty T, .type (tyD d), .type T, isTy d T, rfl, .ty T, dp_tyX (b.dp g.fh), kit_ty (kit_d ht d), ?_⟩
  exact k _ _ F' H' g (.bl _) z
/-- isinstance(e, (T, U)) -/
def dIsi2 (T U : String) (de : RE) : RE := fun ρ q => de ρ fun d => q (.bool (isTy d T || isTy d U))
theorem de_isi2 {U : String} {de : RE} {y z : Str} {p2 p3 p4 : Pos} {k1 : _} (ht : tyOk T) (ht2 : tyOk U) (hm : X.mg x = none) (hm2 : X.mg y = none) (hm3 : X.mg z = none) (ha : DB X e de) (hx : x = "isinstance" := by rfl) (hg : Gl X x := by rfl) (hg2 : Gl X y := by rfl) (hg3 : Gl X z := by rfl)
    (hv : bootBuiltins y = some (.type T) := by decide +kernel) (hv3 : bootBuiltins z = some (.type U) := by decide +kernel)
    (hn : y ≠ "__name__" := by decide) (hd : (y == ("__debug__" : Str)) = false := by decide) (hn3 : z ≠ "__name__" := by decide) (hd3 : (z == ("__debug__" : Str)) = false := by decide)
    (he : starEach [e, .Tuple [.Name y p2, .Name z p3] k1 p4] X.env = (false, eval e X.env) :: starEach [.Tuple [.Name y p2, .Name z p3] k1 p4] X.env := by rfl) (he2 : starEach [.Tuple [.Name y p2, .Name z p3] k1 p4] X.env = [(false, eval (.Tuple [.Name y p2, .Name z p3] k1 p4) X.env)] := by rfl)
    (he3 : starEach [.Name y p2, .Name z p3] X.env = (false, eval (.Name y p2) X.env) :: starEach [.Name z p3] X.env := by rfl) (he4 : starEach [.Name z p3] X.env = [(false, eval (.Name z p3) X.env)] := by rfl)
    (hpl : (backTo pos (starEach [.Tuple [.Name y p2, .Name z p3] k1 p4] X.env)).any (·.1) = false := by rfl) :
    DE X (.Call (.Name x p) [e, .Tuple [.Name y p2, .Name z p3] k1 p4] [] pos) (dIsi2 T U de) := by
  subst hx
  obtain ⟨te, a1, a2⟩ := ha
  refine ⟨_, pe_callB call_isiT hg hm (by decide +kernel) (pa_cons a1 (pa_cons (pe_tup (pa_cons (pe_bltn (v := .ty T) hg2 hm2 hv rfl hn hd) (pa_cons (pe_bltn (v := .ty U) hg3 hm3 hv3 rfl hn3 hd3) pa_nil he4) he3)) pa_nil he2) he) (by decide) (by decide) he hpl, fun B F H ρ σ E q hq Q k => ?_⟩
  refine a2 B F H ρ σ E _ hq _ fun v d F' H' g b w => ⟨by show 2 ≤ sizeLine; rw [sizeLine_eq]; decide, fun tp hp => ?_⟩
  have g2 := Gr.new (o := .tup [.ty T, .ty U]) g.fh hp
  refine ⟨v, tp, [.ty T, .ty U], .type (tyD d), [.type T, .type U], isTy d T || isTy d U, rfl, upd_same, .cons (.ty T) (.cons (.ty U) .nil), dp_tyX ((b.grow g2).dp g2.fh), ?_, ?_⟩
  · refine kitAny_cons (kit_ty (kit_d ht d)) (fun h => kitAny_cons (r := isTy d T || isTy d U) (kit_ty (kit_d ht2 d)) (fun h2 => ?_) fun h2 => by rw [h2, Bool.or_true]) fun h => by rw [h, Bool.true_or]
    rw [h, h2]
    exact kitAny_nil
  · exact k _ _ _ _ (g.trans g2) (.bl _) w

/-! ### and, or, not; a if t else b -/
def tAndD (t u : RT) : RT := fun ρ q => t ρ fun b => (b = true → u ρ q) ∧ (b = false → q false)
def tOrD (t u : RT) : RT := fun ρ q => t ρ fun b => (b = true → q true) ∧ (b = false → u ρ q)
def tNotD (t : RT) : RT := fun ρ q => t ρ fun b => q (!b)
variable {a b c : Expr} {rest : List Expr} {dt du : RT} {de df : RE}
theorem sim_and {K : Frag} {t u : TT} (h1 : SimT K t dt) (h2 : SimT K u du) : SimT K (tAnd t u) (tAndD dt du) := fun B F H ρ σ E q hq Q k =>
  h1 B F H ρ σ E _ hq _ fun b F1 H1 g1 z => by
    cases b with
    | true =>
      show u σ H1 Q
      exact h2 B F1 H1 ρ σ (E.grow g1) q (z.1 rfl) Q fun b F2 H2 g2 w => k b F2 H2 (g1.trans g2) w
    | false =>
      show Q false H1
      exact k false F1 H1 g1 (z.2 rfl)
theorem sim_or {K : Frag} {t u : TT} (h1 : SimT K t dt) (h2 : SimT K u du) : SimT K (tOr t u) (tOrD dt du) := fun B F H ρ σ E q hq Q k =>
  h1 B F H ρ σ E _ hq _ fun b F1 H1 g1 z => by
    cases b with
    | true =>
      show Q true H1
      exact k true F1 H1 g1 (z.1 rfl)
    | false =>
      show u σ H1 Q
      exact h2 B F1 H1 ρ σ (E.grow g1) q (z.2 rfl) Q fun b F2 H2 g2 w => k b F2 H2 (g1.trans g2) w
theorem DW.pt (h : DW X e dt) : DT X e dt := by
  obtain ⟨t, h1, h2⟩ := h
  exact ⟨t, h1.pt, h2⟩
theorem dw_and1 (h : DT X a dt) : DW X (.BoolOp .And [a] pos) dt := by
  obtain ⟨t, h1, h2⟩ := h
  exact ⟨t, pw_and1 h1, h2⟩
theorem dw_or1 (h : DT X a dt) : DW X (.BoolOp .Or [a] pos) dt := by
  obtain ⟨t, h1, h2⟩ := h
  exact ⟨t, pw_or1 h1, h2⟩
theorem dw_and (h : DT X a dt) (g : DW X (.BoolOp .And (b :: rest) pos) du) : DW X (.BoolOp .And (a :: b :: rest) pos) (tAndD dt du) := by
  obtain ⟨t, h1, h2⟩ := h
  obtain ⟨u, g1, g2⟩ := g
  exact ⟨_, pw_and h1 g1, sim_and h2 g2⟩
theorem dw_or (h : DT X a dt) (g : DW X (.BoolOp .Or (b :: rest) pos) du) : DW X (.BoolOp .Or (a :: b :: rest) pos) (tOrD dt du) := by
  obtain ⟨t, h1, h2⟩ := h
  obtain ⟨u, g1, g2⟩ := g
  exact ⟨_, pw_or h1 g1, sim_or h2 g2⟩
theorem dt_not (h : DT X a dt) : DT X (.UnaryOp .Not a pos) (tNotD dt) := by
  obtain ⟨t, h1, h2⟩ := h
  exact ⟨_, pt_not h1, fun B F H ρ σ E q hq Q k => h2 B F H ρ σ E _ hq _ fun b F1 H1 g1 z => k (!b) F1 H1 g1 z⟩
/-- a value that is True or False, as a test -/
theorem dt_val (h : DE X e de) (he : ∀ whole, isTrue e X.env whole = (do let v ← whole; standAt e.pos; holding [v] (truthy v)) := by intro _; rfl) : DT X e (tBool de) := by
  obtain ⟨t, h1, h2⟩ := h
  exact ⟨_, pt_val h1 he, sim_bool h2⟩
/-- any value as a test -/
def truD : D → Option Bool
  | .none => some false | .bool b => some b | .int i => some (i != 0) | .list xs => some (!xs.isEmpty) | .tuple xs => some (!xs.isEmpty)
  | _ => none
def tTru (de : RE) : RT := fun ρ q => de ρ fun d => match truD d with | some b => q b | none => False
theorem isEmpty_dp {K : Frag} {H : Hp} {vs : List V} {ds : List D} (h : DpAll K H vs ds) : vs.isEmpty = ds.isEmpty := by
  cases h <;> rfl
theorem dt_tru (h : DB X e de) (he : ∀ whole, isTrue e X.env whole = (do let v ← whole; standAt e.pos; holding [v] (truthy v)) := by intro _; rfl) : DT X e (tTru de) := by
  obtain ⟨t, h1, h2⟩ := h
  refine ⟨_, pt_truth h1 he, fun B F H ρ σ E q hq Q k => h2 B F H ρ σ E _ hq _ fun v d F1 H1 g1 r z => ?_⟩
  have r := r.dp g1.fh
  cases r with
  | non => exact ⟨false, rfl, k _ F1 H1 g1 z⟩
  | bl b => exact ⟨b, rfl, k _ F1 H1 g1 z⟩
  | int i => exact ⟨_, rfl, k _ F1 H1 g1 z⟩
  | str x => exact z.elim
  | lst hs ha => exact ⟨_, .inl ⟨_, hs, by rw [isEmpty_dp ha]⟩, k _ F1 H1 g1 z⟩
  | tup hs ha => exact ⟨_, .inr (.inl ⟨_, hs, by rw [isEmpty_dp ha]⟩), k _ F1 H1 g1 z⟩
/-- and, or, not as values: all but the last are True or False -/
def dAndV (da db : RE) : RE := fun ρ q => da ρ fun x => match x with | .bool b => (b = true → db ρ q) ∧ (b = false → q (.bool false)) | _ => False
def dOrV (da db : RE) : RE := fun ρ q => da ρ fun x => match x with | .bool b => (b = true → q (.bool true)) ∧ (b = false → db ρ q) | _ => False
def dNotV (da : RE) : RE := fun ρ q => da ρ fun x => match x with | .bool b => q (.bool (!b)) | _ => False
theorem is_bool {f : Bool → Prop} {d : D} (h : (match d with | .bool b => f b | _ => False)) : ∃ b, d = .bool b ∧ f b := by
  cases d with
  | bool b => exact ⟨b, rfl, h⟩
  | none => exact h.elim
  | int _ => exact h.elim
  | str _ => exact h.elim
  | list _ => exact h.elim
  | tuple _ => exact h.elim
  | dict _ => exact h.elim
theorem de_one {op} (h : DE X a de) : DE X (.BoolOp op [a] pos) de := by
  obtain ⟨t, h1, h2⟩ := h
  exact ⟨t, pe_one h1, h2⟩
theorem de_and (h : DE X a de) (g : DE X (.BoolOp .And (b :: rest) pos) df) : DE X (.BoolOp .And (a :: b :: rest) pos) (dAndV de df) := by
  obtain ⟨t, h1, h2⟩ := h
  obtain ⟨u, g1, g2⟩ := g
  refine ⟨_, pe_and h1 g1, fun B F H ρ σ E q hq Q k => h2 B F H ρ σ E _ hq _ fun v d F1 H1 g3 r z => ?_⟩
  obtain ⟨c, rfl, z⟩ := is_bool z
  cases r
  refine ⟨c, rfl, ?_⟩
  cases c with
  | true =>
    show u σ H1 Q
    exact g2 B F1 H1 ρ σ (E.grow g3) q (z.1 rfl) Q fun v d F2 H2 g4 r w => k v d F2 H2 (g3.trans g4) r w
  | false =>
    show Q (.bl false) H1
    exact k _ _ F1 H1 g3 (.bl _) (z.2 rfl)
theorem de_or (h : DE X a de) (g : DE X (.BoolOp .Or (b :: rest) pos) df) : DE X (.BoolOp .Or (a :: b :: rest) pos) (dOrV de df) := by
  obtain ⟨t, h1, h2⟩ := h
  obtain ⟨u, g1, g2⟩ := g
  refine ⟨_, pe_or h1 g1, fun B F H ρ σ E q hq Q k => h2 B F H ρ σ E _ hq _ fun v d F1 H1 g3 r z => ?_⟩
  obtain ⟨c, rfl, z⟩ := is_bool z
  cases r
  refine ⟨c, rfl, ?_⟩
  cases c with
  | true =>
    show Q (.bl true) H1
    exact k _ _ F1 H1 g3 (.bl _) (z.1 rfl)
  | false =>
    show u σ H1 Q
    exact g2 B F1 H1 ρ σ (E.grow g3) q (z.2 rfl) Q fun v d F2 H2 g4 r w => k v d F2 H2 (g3.trans g4) r w
theorem de_not (h : DE X a de) : DE X (.UnaryOp .Not a pos) (dNotV de) := by
  obtain ⟨t, h1, h2⟩ := h
  refine ⟨_, pe_not h1, fun B F H ρ σ E q hq Q k => h2 B F H ρ σ E _ hq _ fun v d F1 H1 g3 r z => ?_⟩
  obtain ⟨c, rfl, z⟩ := is_bool z
  cases r
  exact ⟨c, rfl, k _ _ F1 H1 g3 (.bl _) z⟩
def dIf (t : RT) (da db : RE) : RE := fun ρ q => t ρ fun b => (b = true → da ρ q) ∧ (b = false → db ρ q)
theorem de_if {da' db' : RE} (h : DT X c dt) (ha : DE X a da') (hb : DE X b db') : DE X (.IfExp c a b pos) (dIf dt da' db') := by
  obtain ⟨t, h1, h2⟩ := h
  obtain ⟨ta, a1, a2⟩ := ha
  obtain ⟨tb, b1, b2⟩ := hb
  refine ⟨_, pe_ifExp h1 a1 b1, fun B F H ρ σ E q hq Q k => h2 B F H ρ σ E _ hq _ fun b F1 H1 g1 z => ?_⟩
  cases b with
  | true =>
    show ta σ H1 Q
    exact a2 B F1 H1 ρ σ (E.grow g1) q (z.1 rfl) Q fun v d F2 H2 g2 r w => k v d F2 H2 (g1.trans g2) r w
  | false =>
    show tb σ H1 Q
    exact b2 B F1 H1 ρ σ (E.grow g1) q (z.2 rfl) Q fun v d F2 H2 g2 r w => k v d F2 H2 (g1.trans g2) r w
/-- x.bit_length() -/
def dBits (de : RE) : RE := fun ρ q => de ρ fun d => match d with | .int i => q (.int (Builtin.Int.intBits i : Nat)) | _ => False
theorem de_bits {apos : Pos} (h : DE X e de) (hbase : attributeBase e "bit_length" X.env (eval e X.env) = eval e X.env := by rfl) (hline : (apos.endLine == pos.line) = true := by rfl) : DE X (.Call (.Attribute e "bit_length" apos) [] [] pos) (dBits de) := by
  obtain ⟨t, h1, h2⟩ := h
  refine ⟨_, pe_bits h1 hbase hline, fun B F H ρ σ E q hq Q k => h2 B F H ρ σ E _ hq _ fun v d F1 H1 g1 r z => ?_⟩
  cases r with
  | int i => exact ⟨i, rfl, k _ _ F1 H1 g1 (.int _) z⟩
  | _ => exact z.elim
/-! ### slices -/
def oNone : Rho → (Option Int → Prop) → Prop := fun _ q => q none
def oSome (de : RE) : Rho → (Option Int → Prop) → Prop := fun ρ q => de ρ fun d => match d with | .int i => q (some i) | _ => False
theorem do_none : DO X none oNone := ⟨_, po_none, fun B F H ρ σ E q hq Q k => k none F H (Gr.refl E.fh) hq⟩
theorem do_some (h : DE X e de) : DO X (some e) (oSome de) := by
  obtain ⟨t, h1, h2⟩ := h
  refine ⟨_, po_some h1, fun B F H ρ σ E q hq Q k => h2 B F H ρ σ E _ hq _ fun v d F1 H1 g1 r z => ?_⟩
  cases r with
  | int i => exact ⟨i, rfl, k _ F1 H1 g1 z⟩
  | _ => exact z.elim
def cutD (xs : List D) (lo hi : Option Int) : List D := (xs.drop (HT.sIx xs.length 0 lo)).take (HT.sIx xs.length xs.length hi - HT.sIx xs.length 0 lo)
theorem cut_dp {K : Frag} {H : Hp} {vs : List V} {ds : List D} (h : DpAll K H vs ds) (lo hi : Option Int) : DpAll K H (cutV vs lo hi) (cutD ds lo hi) := by
  unfold cutV cutD
  rw [h.length]
  exact (h.drop _).take _
def gSl : D → Option Int → Option Int → (D → Prop) → Prop := fun d lo hi q => match d with
  | .list xs => q (.list (cutD xs lo hi))
  | .tuple xs => q (.tuple (cutD xs lo hi))
  | _ => False
def dSl (de : RE) (dl dh : Rho → (Option Int → Prop) → Prop) : RE := fun ρ q => de ρ fun d => dl ρ fun lo => dh ρ fun hi => gSl d lo hi q
theorem cutV_all {xs : List V} {lo hi : Option Int} (h : HT.sIx xs.length 0 lo = 0 ∧ HT.sIx xs.length xs.length hi = xs.length) : cutV xs lo hi = xs := by
  unfold cutV
  rw [h.1, h.2]
  simp
theorem de_sl {lo hi : Option Expr} {dl dh : Rho → (Option Int → Prop) → Prop} {p2 : Pos} (h : DB X e de) (h1 : DO X lo dl) (h2 : DO X hi dh) : DE X (.Subscript e (.Slice lo hi none p2) pos) (dSl de dl dh) := by
  obtain ⟨te, e1, e2⟩ := h
  obtain ⟨tl, l1, l2⟩ := h1
  obtain ⟨th, u1, u2⟩ := h2
  refine ⟨_, pe_slice (sl_list.or sl_tupA) e1 l1 u1, fun B F H ρ σ E q hq Q k => e2 B F H ρ σ E _ hq _ fun v d F1 H1 g1 b z => l2 B F1 H1 ρ σ (E.grow g1) _ z _ fun lo F2 H2 g2 z => u2 B F2 H2 ρ σ (E.grow (g1.trans g2)) _ z _ fun hi F3 H3 g3 z => ?_⟩
  have g := (g1.trans g2).trans g3
  have b := b.grow (g2.trans g3)
  cases d with
  | list xs =>
    obtain ⟨a, vs, rfl, s1, d1⟩ := b.lst g3.fh
    refine .inl ⟨a, vs, rfl, s1, fun p hp => ?_⟩
    have gn := Gr.new (o := .lst (cutV vs lo hi)) g3.fh hp
    exact k _ _ _ _ (g.trans gn) (.lst (.inl (.inl upd_same)) ((cut_dp d1 lo hi).mono gn.ff)) z
  | tuple xs =>
    obtain ⟨a, vs, rfl, s0, s1, d1⟩ := b.tup g3.fh
    refine .inr ⟨a, vs, rfl, s1, fun w => ?_, fun _ p hp => ?_⟩
    · have ew := cutV_all w
      have d2 := cut_dp d1 lo hi
      rw [ew] at d2
      exact k _ _ _ _ g (.tup s0 d2) z
    · have gn := Gr.new (o := .tup (cutV vs lo hi)) g3.fh hp
      exact k _ _ _ _ (g.trans gn) (.tup (.inl (.inl upd_same)) ((cut_dp d1 lo hi).mono gn.ff)) z
  | _ => exact z.elim
/-- a slice of a list, of one's own -/
def lSl (de : RE) (dl dh : Rho → (Option Int → Prop) → Prop) : RL := fun ρ q => de ρ fun d => dl ρ fun lo => dh ρ fun hi => match d with
  | .list xs => q (cutD xs lo hi)
  | _ => False
theorem dl_sl {lo hi : Option Expr} {dl dh : Rho → (Option Int → Prop) → Prop} {p2 : Pos} (h : DB X e de) (h1 : DO X lo dl) (h2 : DO X hi dh) : DLs X (.Subscript e (.Slice lo hi none p2) pos) (lSl de dl dh) := by
  obtain ⟨te, e1, e2⟩ := h
  obtain ⟨tl, l1, l2⟩ := h1
  obtain ⟨th, u1, u2⟩ := h2
  refine ⟨_, pe_slice sl_list e1 l1 u1, fun B F H ρ σ E q hq Q k => e2 B F H ρ σ E _ hq _ fun v d F1 H1 g1 b z => l2 B F1 H1 ρ σ (E.grow g1) _ z _ fun lo F2 H2 g2 z => u2 B F2 H2 ρ σ (E.grow (g1.trans g2)) _ z _ fun hi F3 H3 g3 z => ?_⟩
  have g := (g1.trans g2).trans g3
  have b := b.grow (g2.trans g3)
  cases d with
  | list xs =>
    obtain ⟨a, vs, rfl, s1, d1⟩ := b.lst g3.fh
    exact ⟨a, vs, rfl, s1, fun p hp => k p _ _ _ _ (g.trans (Gr.newO g3.fh hp)) (g.hh.free hp) (g3.fh.free hp) upd_same (cut_dp d1 lo hi) z⟩
  | _ => exact z.elim
end
end DL

namespace DL
open PySem PySem.Spec PyProof.Rows L2

/-! ### statements over data -/
structure DEnds where
  nx : Rho → Prop
  rt : DV → Prop
  bk : Rho → Prop := fun _ => False
  ct : Rho → Prop := fun _ => False
abbrev RS := DEnds → Rho → Prop
/-- what is handed back: data, or a new list of the caller's own -/
def ResF (K : Frag) (B F H : Hp) (v : V) : DV → Prop
  | .val d => Dp K F v d
  | .own ds => ∃ p vs, v = .ref p ∧ B p = none ∧ F p = none ∧ H p = some (.lst vs) ∧ DpAll K F vs ds
  | .tks _ => False
structure EndsOk (K : Frag) (F0 B : Hp) (DD : DEnds) (E : Ends) : Prop where
  nx : ∀ F H ρ σ, Gr F0 B F H → EnvOk K B F H ρ σ → DD.nx ρ → E.nx σ H
  rt : ∀ v r F H, Gr F0 B F H → ResF K B F H v r → DD.rt r → E.rt v H
  bk : ∀ F H ρ σ, Gr F0 B F H → EnvOk K B F H ρ σ → DD.bk ρ → E.bk σ H
  ct : ∀ F H ρ σ, Gr F0 B F H → EnvOk K B F H ρ σ → DD.ct ρ → E.ct σ H
/-- the ground moves on: F0 to F1 -/
theorem Gr.on {F0 B F1 H1 F H : Hp} (a : Gr F0 B F1 H1) (b : Gr F1 B F H) : Gr F0 B F H := ⟨a.ff.trans b.ff, b.hh, b.fh, fun p h m => b.own p (a.own p h m) m⟩
theorem EndsOk.mono {K : Frag} {F0 B F1 H1 : Hp} {DD : DEnds} {E : Ends} (h : EndsOk K F0 B DD E) (e : Gr F0 B F1 H1) : EndsOk K F1 B DD E :=
  ⟨fun F H ρ σ s => h.nx F H ρ σ (e.on s), fun v r F H s => h.rt v r F H (e.on s), fun F H ρ σ s => h.bk F H ρ σ (e.on s), fun F H ρ σ s => h.ct F H ρ σ (e.on s)⟩
/-- at the ground itself -/
theorem Gr.self {F0 B F H : Hp} (a : Gr F0 B F H) : Gr F B F H := ⟨Same.refl F, a.hh, a.fh, fun _ h _ => h⟩
/-- one step further -/
theorem Gr.to {F0 B F H F' H' : Hp} (a : Gr F0 B F H) (g : Gr F H F' H') : Gr F0 B F' H' := ⟨a.ff.trans g.ff, a.hh.trans g.hh, g.fh, fun p h m => g.own p (a.own p h m) (by rw [mut_same a.hh m]; exact m)⟩
/-- a list of one's own is written -/
theorem Gr.wr {F0 B F H : Hp} {p : Addr} {o : HO} (a : Gr F0 B F H) (hb : B p = none) (hf : F p = none) : Gr F0 B F (upd H p o) := ⟨a.ff, fun b u e => by
  rw [upd_ne (ne_of_none e hb)]
  exact a.hh b u e, fun b u e => by
  rw [upd_ne (ne_of_none e hf)]
  exact a.fh b u e, a.own⟩
def SimS (K : Frag) (ts : TS) (ds : RS) : Prop := ∀ (F0 B F H : Hp) (ρ : Rho) (σ : L2.St), Gr F0 B F H → EnvOk K B F H ρ σ → ∀ (DD : DEnds), ds DD ρ → ∀ E : Ends, EndsOk K F0 B DD E → ts E σ H
def DS (X : Cx) (st : Stmt) (ds : RS) : Prop := ∃ ts, PS X st ts ∧ SimS X.K ts ds
def DSs (X : Cx) (st : List Stmt) (ds : RS) : Prop := ∃ ts, PSs X st ts ∧ SimS X.K ts ds

section
variable {X : Cx} {st : Stmt} {rest : List Stmt} {ds du : RS} {e a b : Expr} {de da db : RE} {dl : RL} {dt : RT} {pos : Pos}
def sNext : RS := fun DD ρ => DD.nx ρ
@[irreducible] def sSeq (t u : RS) (DD : DEnds) (ρ : Rho) : Prop := t { DD with nx := u DD } ρ
theorem sSeq_c {t u : RS} {DD : DEnds} {ρ : Rho} : sSeq t u DD ρ = t { DD with nx := u DD } ρ := by unfold sSeq; rfl
theorem ss_nil : DSs X [] sNext := ⟨_, pss_nil, fun F0 B F H ρ σ s E DD h D k => k.nx F H ρ σ s E h⟩
theorem sim_seq {K : Frag} {t u : TS} (h1 : SimS K t ds) (h2 : SimS K u du) : SimS K (tSeq t u) (sSeq ds du) := fun F0 B F H ρ σ s E DD h D k =>
  h1 F0 B F H ρ σ s E _ (Eq.mp sSeq_c h) _ ⟨fun F' H' ρ' σ' s' E' q => h2 F0 B F' H' ρ' σ' s' E' DD q D k, k.rt, k.bk, k.ct⟩
theorem ss_cons (h1 : DS X st ds) (h2 : DSs X rest du) : DSs X (st :: rest) (sSeq ds du) := by
  obtain ⟨t, a1, a2⟩ := h1
  obtain ⟨u, b1, b2⟩ := h2
  exact ⟨_, pss_cons a1 b1, sim_seq a2 b2⟩
theorem ss_one (h1 : DS X st ds) : DSs X [st] ds := by
  obtain ⟨t, a1, a2⟩ := h1
  exact ⟨_, pss_one a1, a2⟩
def sBreak : RS := fun DD ρ => DD.bk ρ
def sCont : RS := fun DD ρ => DD.ct ρ
theorem st_pass : DS X (.Pass pos) sNext := ⟨_, ps_pass, fun F0 B F H ρ σ s E DD h D k => k.nx F H ρ σ s E h⟩
theorem st_break : DS X (.Break pos) sBreak := ⟨_, ps_break, fun F0 B F H ρ σ s E DD h D k => k.bk F H ρ σ s E h⟩
theorem st_cont : DS X (.Continue pos) sCont := ⟨_, ps_continue, fun F0 B F H ρ σ s E DD h D k => k.ct F H ρ σ s E h⟩
theorem st_doc {x j pos'} : DS X (.Expr (.Constant (.str x) j pos) pos') sNext := ⟨_, ps_doc, fun F0 B F H ρ σ s E DD h D k => k.nx F H ρ σ s E h⟩
/-- return e -/
def sRet (de : RE) : RS := fun DD ρ => de ρ fun d => DD.rt (.val d)
theorem st_ret (h : DE X e de) : DS X (.Return (some e) pos) (sRet de) := by
  obtain ⟨t, a1, a2⟩ := h
  exact ⟨_, ps_ret a1, fun F0 B F H ρ σ s E DD h D k => a2 B F H ρ σ E _ h _ fun v d F' H' g r z => k.rt v (.val d) F' H' (s.to g) r z⟩
/-- return [..]: a new list -/
def sRetL (dl : RL) : RS := fun DD ρ => dl ρ fun ds => DD.rt (.own ds)
theorem st_retL (h : DLs X e dl) : DS X (.Return (some e) pos) (sRetL dl) := by
  obtain ⟨t, a1, a2⟩ := h
  exact ⟨_, ps_ret a1, fun F0 B F H ρ σ s E DD h D k => a2 B F H ρ σ E _ h _ fun p vs ds F' H' g hp hf hh ha z => k.rt (.ref p) (.own ds) F' H' (s.to g) ⟨p, vs, rfl, s.hh.free hp, hf, hh, ha⟩ z⟩
/-- return x, x an own list -/
def sRetO (i : Nat) : RS := fun DD ρ => match ρ[i]? with | some (some (.own ds)) => DD.rt (.own ds) | _ => False
theorem st_retO (i : Nat) {x : Str} {pos' : Pos} (hN : X.N[i]? = some x := by rfl) (hv : Vis X.env.scope x := by first | exact Or.inl rfl | exact Or.inr (Or.inl rfl) | exact Or.inr (Or.inr rfl)) (hd : (x == ("__debug__" : Str)) = false := by decide)
    (hcd : (x == ("__classdict__" : Str)) = false := by decide) : DS X (.Return (some (.Name x pos')) pos) (sRetO i) := by
  refine ⟨_, ps_ret (pe_var hN hv hd hcd), fun F0 B F H ρ σ s E DD h D k => ?_⟩
  unfold sRetO at h
  split at h
  · rename_i ds q
    obtain ⟨v, h1, p, vs, rfl, f0, f1, f2, f3⟩ := E.at' i _ q
    exact ⟨_, h1, k.rt (.ref p) (.own ds) F H s ⟨p, vs, rfl, f0, f1, f2, f3⟩ h⟩
  · exact h.elim
def sRetN : RS := fun DD _ => DD.rt (.val .none)
theorem st_retN : DS X (.Return none pos) sRetN := ⟨_, ps_retN, fun F0 B F H ρ σ s E DD h D k => k.rt .non (.val .none) F H s .non h⟩
def sIf (c : RT) (t u : RS) : RS := fun DD ρ => c ρ fun b => (b = true → t DD ρ) ∧ (b = false → u DD ρ)
theorem st_if {c : Expr} {p q : List Stmt} (hc : DT X c dt) (ha : DSs X p ds) (hb : DSs X q du) : DS X (.If c p q pos) (sIf dt ds du) := by
  obtain ⟨tc, c1, c2⟩ := hc
  obtain ⟨ta, a1, a2⟩ := ha
  obtain ⟨tb, b1, b2⟩ := hb
  refine ⟨_, ps_if c1 a1 b1, fun F0 B F H ρ σ s E DD h D k => c2 B F H ρ σ E _ h _ fun b F' H' g z => ?_⟩
  cases b with
  | true => exact a2 F0 B F' H' ρ σ (s.to g) (E.grow g) DD (z.1 rfl) D k
  | false => exact b2 F0 B F' H' ρ σ (s.to g) (E.grow g) DD (z.2 rfl) D k
/-- an own list is kept for good from here on -/
def frz1 (i : Nat) (ρ : Rho) : Rho := match ρ[i]? with | some (some (.own ds)) => ρ.set i (some (.val (.list ds))) | _ => ρ
def sFrz (i : Nat) (t : RS) : RS := fun DD ρ => t DD (frz1 i ρ)
theorem sim_frz {K : Frag} {t : TS} (i : Nat) (h : SimS K t ds) : SimS K t (sFrz i ds) := fun F0 B F H ρ σ s E DD hd D k => by
  unfold sFrz frz1 at hd
  split at hd
  · rename_i xs q
    obtain ⟨F', s', o', E'⟩ := E.frz q
    exact h F0 B F' H _ σ ⟨s.ff.trans s', s.hh, E'.fh, fun p h m => o' p (s.own p h m) m⟩ E' DD hd D k
  · exact h F0 B F H ρ σ s E DD hd D k
theorem st_frz (i : Nat) (h : DS X st ds) : DS X st (sFrz i ds) := by
  obtain ⟨t, a1, a2⟩ := h
  exact ⟨t, a1, sim_frz i a2⟩
theorem ss_frz (i : Nat) (h : DSs X rest ds) : DSs X rest (sFrz i ds) := by
  obtain ⟨t, a1, a2⟩ := h
  exact ⟨t, a1, sim_frz i a2⟩
/-- a name is forgotten -/
theorem EnvOk.forget {K : Frag} {B F H : Hp} {ρ : Rho} {σ : L2.St} (E : EnvOk K B F H ρ σ) (ρ' : Rho) (hl : ρ'.length = ρ.length) (w : ∀ (i : Nat) dv, ρ'[i]? = some (some dv) → ρ[i]? = some (some dv)) : EnvOk K B F H ρ' σ :=
  ⟨E.fh, E.bh, hl.trans E.len, fun i dv e => E.at' i dv (w i dv e), fun i j p a b n e1 e2 => E.sep i j p a b n (w _ _ e1) (w _ _ e2), fun i j p a b n e1 e2 => E.sepT i j p a b n (w _ _ e1) (w _ _ e2)⟩

/-! ### stores -/
/-- x = e -/
def sSet (i : Nat) (de : RE) : RS := fun DD ρ => de ρ fun d => DD.nx (ρ.set i (some (.val d)))
theorem st_set {i : Nat} {x : Str} {pos' : Pos} (hN : X.N.Nodup) (he : DE X e de) (hi : X.N[i]? = some x := by rfl) (hx : Loc X.env.scope x := by first | exact Or.inl rfl | exact Or.inr rfl) (hs : swapsWith e (some (.Name x pos')) pos.line X.env = pure false := by rfl)
    (hf : X.fn x = true ∨ X.env.scope.names.lookup x = some .local := by first | exact .inl rfl | exact .inr rfl | assumption) : DS X (.Assign [.Name x pos'] e pos) (sSet i de) := by
  obtain ⟨t, a1, a2⟩ := he
  exact ⟨_, ps_set hN hi hx a1 hs hf, fun F0 B F H ρ σ s E DD h D k => a2 B F H ρ σ E _ h _ fun v d F' H' g r z => k.nx F' H' _ _ (s.to g) ((E.grow g).set i r) z⟩
def sSetL (i : Nat) (dl : RL) : RS := fun DD ρ => dl ρ fun ds => DD.nx (ρ.set i (some (.own ds)))
theorem own_new {K : Frag} {B F H F' H' : Hp} {ρ : Rho} {σ : L2.St} (E : EnvOk K B F H ρ σ) (g : Gr F H F' H') (i : Nat) {p : Addr} {vs : List V} {ds : List D} (hp : H p = none) (hf : F' p = none) (hh : H' p = some (.lst vs)) (ha : DpAll K F' vs ds) :
    EnvOk K B F' H' (ρ.set i (some (.own ds))) (σ.set i (some (.ref p))) := by
  refine (E.grow g).setOwn i (E.bh.free hp) hf hh ha (fun j a hj e1 e2 => ?_) (fun _ _ => rfl) fun ks z => by rw [hh] at z; cases z
  obtain ⟨v, h1, q, us, rfl, f0, f1, f2, f3⟩ := E.at' j _ e1
  rw [h1] at e2
  cases e2
  rw [hp] at f2
  cases f2
theorem st_setL {i : Nat} {x : Str} {pos' : Pos} (hN : X.N.Nodup) (he : DLs X e dl) (hi : X.N[i]? = some x := by rfl) (hx : Loc X.env.scope x := by first | exact Or.inl rfl | exact Or.inr rfl) (hs : swapsWith e (some (.Name x pos')) pos.line X.env = pure false := by rfl)
    (hf : X.fn x = true ∨ X.env.scope.names.lookup x = some .local := by first | exact .inl rfl | exact .inr rfl | assumption) : DS X (.Assign [.Name x pos'] e pos) (sSetL i dl) := by
  obtain ⟨t, a1, a2⟩ := he
  exact ⟨_, ps_set hN hi hx a1 hs hf, fun F0 B F H ρ σ s E DD h D k => a2 B F H ρ σ E _ h _ fun p vs ds F' H' g hp hf hh ha z => k.nx F' H' _ _ (s.to g) (own_new E g i hp hf hh ha) z⟩
/-- e; (its value dropped) -/
def sDrop (de : RE) : RS := fun DD ρ => de ρ fun _ => DD.nx ρ
theorem st_expr (he : DE X e de) (hs : swapsWith e none pos.line X.env = pure false := by rfl) : DS X (.Expr e pos) (sDrop de) := by
  obtain ⟨t, a1, a2⟩ := he
  exact ⟨_, ps_expr a1 hs, fun F0 B F H ρ σ s E DD h D k => a2 B F H ρ σ E _ h _ fun v d F' H' g r z => k.nx F' H' ρ σ (s.to g) (E.grow g) z⟩
/-! targets -/
abbrev RG := D → Rho → (Rho → Prop) → Prop
abbrev RGs := List D → Rho → (Rho → Prop) → Prop
def SimG (K : Frag) (g : TG) (dg : RG) : Prop := ∀ (B F H : Hp) (ρ : Rho) (σ : L2.St) (v : V) (d : D), EnvOk K B F H ρ σ → Dp K F v d → ∀ q : Rho → Prop, dg d ρ q → ∀ Q : L2.St → Hp → Prop, (∀ ρ' σ', EnvOk K B F H ρ' σ' → q ρ' → Q σ' H) → g v σ H Q
def SimGs (K : Frag) (g : TGs) (dg : RGs) : Prop := ∀ (B F H : Hp) (ρ : Rho) (σ : L2.St) (vs : List V) (xs : List D), EnvOk K B F H ρ σ → DpAll K F vs xs → ∀ q : Rho → Prop, dg xs ρ q → ∀ Q : L2.St → Hp → Prop, (∀ ρ' σ', EnvOk K B F H ρ' σ' → q ρ' → Q σ' H) → g vs σ H Q
def DG (X : Cx) (tg : Expr) (dg : RG) : Prop := ∃ g, PG X tg g ∧ SimG X.K g dg
def DGs (X : Cx) (tgs : List Expr) (dg : RGs) : Prop := ∃ g, PGs X tgs g ∧ SimGs X.K g dg
def rName (i : Nat) : RG := fun d ρ q => q (ρ.set i (some (.val d)))
theorem tg_name {i : Nat} {x : Str} (hN : X.N.Nodup) (hi : X.N[i]? = some x := by rfl) (hx : Loc X.env.scope x := by first | exact Or.inl rfl | exact Or.inr rfl) (hf : X.fn x = true ∨ X.env.scope.names.lookup x = some .local := by first | exact .inl rfl | exact .inr rfl | assumption) : DG X (.Name x pos) (rName i) :=
  ⟨_, pg_name hN hi hx hf, fun B F H ρ σ v d E r q h Q k => k _ _ (E.set i r) h⟩
def rNil : RGs := fun xs ρ q => xs = [] ∧ q ρ
def rCons (g : RG) (u : RGs) : RGs := fun xs ρ q => match xs with | [] => False | d :: r => g d ρ fun ρ' => u r ρ' q
theorem tg_nil : DGs X [] rNil := ⟨_, pgs_nil, fun B F H ρ σ vs xs E r q h Q k => by
  obtain ⟨rfl, h⟩ := h
  cases r
  exact ⟨rfl, k _ _ E h⟩⟩
theorem tg_cons {e : Expr} {es : List Expr} {dg : RG} {dgs : RGs} (h1 : DG X e dg) (h2 : DGs X es dgs)
    (hs : (assignEach (e :: es) X.env).map (·.2) = assign e X.env :: (assignEach es X.env).map (·.2) := by rfl) : DGs X (e :: es) (rCons dg dgs) := by
  obtain ⟨g, a1, a2⟩ := h1
  obtain ⟨u, b1, b2⟩ := h2
  refine ⟨_, pgs_cons a1 b1 hs, fun B F H ρ σ vs xs E r q h Q k => ?_⟩
  cases xs with
  | nil => exact h.elim
  | cons d r' =>
    cases r with
    | cons r1 r2 => exact ⟨_, _, rfl, a2 B F H ρ σ _ d E r1 _ h _ fun ρ' σ' E' z => b2 B F H ρ' σ' _ _ E' r2 q z Q k⟩
def rTup (n : Nat) (g : RGs) : RG := fun d ρ q => match d with | .tuple xs => xs.length = n ∧ g xs ρ q | _ => False
theorem tg_tup {es : List Expr} {k : Nat} {dg : RGs} {n : Nat} (h : DGs X es dg) (hc : X.calm = true := by rfl)
    (hn : (assignEach es X.env).length = n := by rfl) (hst : (assignEach es X.env).findIdx? (·.1) = none := by rfl) : DG X (.Tuple es k pos) (rTup n dg) := by
  obtain ⟨g, a1, a2⟩ := h
  refine ⟨_, pg_tup hc a1 hn hst, fun B F H ρ σ v d E r q h Q k => ?_⟩
  cases d with
  | tuple xs =>
    cases r with
    | tup hs ha => exact ⟨_, _, rfl, E.fh.seqT hs, by rw [ha.length]; exact h.1, a2 B F H ρ σ _ xs E ha q h.2 Q k⟩
  | _ => exact h.elim
/-- target = e -/
def sAsg (de : RE) (g : RG) : RS := fun DD ρ => de ρ fun d => g d ρ DD.nx
theorem st_asg {tg : Expr} {dg : RG} (he : DE X e de) (hg : DG X tg dg) (hs : swapsWithSole [tg] e pos.line X.env = pure false := by rfl) (hw : swappedStores [tg] e X.env = pure none := by rfl)
    (h1 : (assignEach [tg] X.env).map (·.2) = [assign tg X.env] := by rfl) : DS X (.Assign [tg] e pos) (sAsg de dg) := by
  obtain ⟨t, a1, a2⟩ := he
  obtain ⟨g, g1, g2⟩ := hg
  exact ⟨_, ps_asg a1 g1 hs hw h1, fun F0 B F H ρ σ s E DD h D k => a2 B F H ρ σ E _ h _ fun v d F' H' g r z => g2 B F' H' ρ σ v d (E.grow g) r _ z _ fun ρ' σ' E' w => k.nx F' H' ρ' σ' (s.to g) E' w⟩
/-- a, b = e1, e2 -/
def sPar (i j : Nat) (da db : RE) : RS := fun DD ρ => da ρ fun x => db ρ fun y => DD.nx ((ρ.set i (some (.val x))).set j (some (.val y)))
theorem st_par {i j : Nat} {x y : Str} {px py pt : Pos} {kt k2 pt2} (hN : X.N.Nodup) (ha : DE X a da) (hb : DE X b db) (hi : X.N[i]? = some x := by rfl) (hj : X.N[j]? = some y := by rfl) (hij : i ≠ j := by decide)
    (hx : X.env.scope.names.lookup x = some .local := by rfl) (hy : X.env.scope.names.lookup y = some .local := by rfl) (hc : X.calm = true := by rfl)
    (hw : swappedStores [.Tuple [.Name x px, .Name y py] kt pt] (.Tuple [a, b] k2 pt2) X.env = pure (some [x, y]) := by rfl)
    (hs : swapsWithSole [.Tuple [.Name x px, .Name y py] kt pt] (.Tuple [a, b] k2 pt2) pos.line X.env = pure false := by rfl)
    (he : starEach [a, b] X.env = (false, eval a X.env) :: starEach [b] X.env := by rfl) (he2 : starEach [b] X.env = (false, eval b X.env) :: starEach [] X.env := by rfl) :
    DS X (.Assign [.Tuple [.Name x px, .Name y py] kt pt] (.Tuple [a, b] k2 pt2) pos) (sPar i j da db) := by
  obtain ⟨ta, a1, a2⟩ := ha
  obtain ⟨tb, b1, b2⟩ := hb
  refine ⟨_, ps_par hc hN hi hj hij hx hy (pa_cons a1 (pa_cons b1 pa_nil he2) he) hw hs, fun F0 B F H ρ σ s E DD h D k => ?_⟩
  refine a2 B F H ρ σ E _ h _ fun v d F1 H1 g1 r1 z1 => b2 B F1 H1 ρ σ (E.grow g1) _ z1 _ fun u d2 F2 H2 g2 r2 z2 => ⟨v, u, rfl, ?_⟩
  exact k.nx F2 H2 _ _ ((s.to g1).to g2) (((E.grow (g1.trans g2)).set i (r1.mono g2.ff)).set j r2) z2
/-- a, b = e1, e2, both new lists of one's own -/
def sParL (i j : Nat) (da db : RL) : RS := fun DD ρ => da ρ fun x => db ρ fun y => DD.nx ((ρ.set i (some (.own x))).set j (some (.own y)))
/-- x += e (whole numbers) -/
def sAug (i : Nat) (f : Int → Int → Int) (de : RE) : RS := fun DD ρ => match ρ[i]? with | some (some (.val (.int a))) => (de ρ fun d => match d with | .int b => DD.nx (ρ.set i (some (.val (.int (f a b))))) | _ => False) | _ => False
theorem st_aug {i : Nat} {x : Str} {op : Operator} {f : Int → Int → Int} {pos' : Pos} (hN : X.N.Nodup) (ho : PIp X op (ipI f)) (he : DE X e de) (hi : X.N[i]? = some x := by rfl) (hx : Loc X.env.scope x := by first | exact Or.inl rfl | exact Or.inr rfl)
    (hf : X.fn x = true ∨ X.env.scope.names.lookup x = some .local := by first | exact .inl rfl | exact .inr rfl | assumption) : DS X (.AugAssign (.Name x pos') op e pos) (sAug i f de) := by
  obtain ⟨t, a1, a2⟩ := he
  refine ⟨_, ps_aug hN hi hx a1 ho hf, fun F0 B F H ρ σ s E DD h D k => ?_⟩
  unfold sAug at h
  split at h
  · rename_i a q
    obtain ⟨v, h1, h2⟩ := E.at' i _ q
    have hv : v = .int a := by
      cases h2
      rfl
    subst hv
    refine ⟨.int a, h1, a2 B F H ρ σ E _ h _ fun v d F' H' g r z => ?_⟩
    cases r with
    | int b => exact ⟨a, b, rfl, rfl, k.nx F' H' _ _ (s.to g) ((E.grow g).set i (.int _)) z⟩
    | _ => exact z.elim
  · exact h.elim

/-! ### own lists changed -/
/-- a list method on the own list in slot i -/
theorem own_at {K : Frag} {B F H : Hp} {ρ : Rho} {σ : L2.St} (E : EnvOk K B F H ρ σ) {i : Nat} {ds : List D} (q : ρ[i]? = some (some (.own ds))) : ∃ p vs, σ[i]? = some (some (.ref p)) ∧ B p = none ∧ F p = none ∧ H p = some (.lst vs) ∧ DpAll K F vs ds := by
  obtain ⟨v, h1, p, vs, rfl, f0, f1, f2, f3⟩ := E.at' i _ q
  exact ⟨p, vs, h1, f0, f1, f2, f3⟩
theorem own_chg {K : Frag} {B F H : Hp} {ρ : Rho} {σ : L2.St} (E : EnvOk K B F H ρ σ) {i : Nat} {ds ds' : List D} {p : Addr} {vs' : List V} (q : ρ[i]? = some (some (.own ds))) (h1 : σ[i]? = some (some (.ref p))) (hb : B p = none) (hf : F p = none) (ha : DpAll K F vs' ds') :
    EnvOk K B F (upd H p (.lst vs')) (ρ.set i (some (.own ds'))) σ := by
  have e : σ.set i (some (.ref p)) = σ := by
    apply List.ext_getElem?
    intro j
    by_cases hj : i = j
    · subst hj
      rw [List.getElem?_set_self (List.getElem?_eq_some_iff.mp h1).1, h1]
    · rw [List.getElem?_set_ne hj]
  have hTT : ∀ ks, H p ≠ some (tkO p ks) := fun ks z => by
    obtain ⟨p', us, g1, _, _, g2, _⟩ := own_at E q
    rw [h1] at g1
    cases g1
    rw [g2] at z
    cases z
  have r := E.setOwn i (p := p) (H' := upd H p (.lst vs')) (vs := vs') hb hf upd_same ha (fun j a hj e1 e2 => E.sep i j p ds a (Ne.symm hj) q e1 h1 e2) (fun b hb => upd_ne hb) fun ks z => hTT ks z
  rw [e] at r
  exact r
/-- x.append(e) -/
def sApp (i : Nat) (de : RE) : RS := fun DD ρ => match ρ[i]? with | some (some (.own ds)) => Fit (ds.length + 1) ∧ de ρ fun d => DD.nx (ρ.set i (some (.own (ds ++ [d])))) | _ => False
theorem st_app {i : Nat} {x : Str} {pos1 pos2 pos3 : Pos} (he : DE X e de) (hN : X.N[i]? = some x := by rfl) (hv : Vis X.env.scope x := by first | exact Or.inl rfl | exact Or.inr (Or.inl rfl) | exact Or.inr (Or.inr rfl)) (hd : (x == ("__debug__" : Str)) = false := by decide)
    (hcd : (x == ("__classdict__" : Str)) = false := by decide)
    (hbase : attributeBase (.Name x pos1) "append" X.env (eval (.Name x pos1) X.env) = eval (.Name x pos1) X.env := by rfl)
    (hfew : ((backTo pos3 (starEach (e :: []) X.env)).all (fun x => !x.1) && (backToKw pos3 (keywordEach [] X.env)).all (fun x => x.1.isSome)
      && decide ((e :: []).length + ([] : List Keyword).length + (if ([] : List Keyword).isEmpty then 0 else 1) < 30)) = true := by rfl)
    (hline : (pos2.endLine == pos3.line) = true := by rfl) (hs : starEach (e :: []) X.env = (false, eval e X.env) :: starEach [] X.env := by rfl) (hplain : (backTo pos3 (starEach [] X.env)).any (·.1) = false := by rfl)
    (hsw : swapsWith (.Call (.Attribute (.Name x pos1) "append" pos2) [e] [] pos3) none pos.line X.env = pure false := by rfl) :
    DS X (.Expr (.Call (.Attribute (.Name x pos1) "append" pos2) [e] [] pos3) pos) (sApp i de) := by
  obtain ⟨t, a1, a2⟩ := he
  refine ⟨_, ps_expr (pe_bm PySem.F.plainAttrs_list PySem.F.slot_list_append PySem.F.type_list_append mt_append (pe_var hN hv hd hcd) (pa_cons a1 pa_nil hs) hbase hfew hline hs hplain) hsw, fun F0 B F H ρ σ s E DD h D k => ?_⟩
  unfold sApp at h
  split at h
  · rename_i ds q
    obtain ⟨hl, h⟩ := h
    obtain ⟨p, vs, h1, f0, f1, f2, f3⟩ := own_at E q
    refine ⟨.ref p, h1, .inl ⟨rfl, vs, .inl (.inl f2)⟩, a2 B F H ρ σ E _ h _ fun v d F' H' g r z => ?_⟩
    have f2' := g.hh p _ f2
    have f1' := g.own p f1 (by rw [f2]; trivial)
    refine ⟨p, vs, v, rfl, rfl, f2', by rw [f3.length]; exact hl.le, k.nx F' _ _ _ ((s.to g).wr f0 f1') (own_chg (E.grow g) q h1 f0 f1' ((f3.mono g.ff).append (.cons r .nil))) z⟩
  · exact h.elim
/-- x[e2] = e -/
def sSetI (i : Nat) (de di : RE) : RS := fun DD ρ => match ρ[i]? with
  | some (some (.own ds)) => de ρ fun d => di ρ fun k => (match k with | .int z => (match ixN ds.length z with | some j => DD.nx (ρ.set i (some (.own (ds.set j d)))) | none => False) | _ => False)
  | _ => False
theorem st_setI {i : Nat} {x : Str} {e2 : Expr} {di : RE} {pos1 pos2 : Pos} (he : DE X e de) (hi' : DE X e2 di) (hN : X.N[i]? = some x := by rfl) (hv : Vis X.env.scope x := by first | exact Or.inl rfl | exact Or.inr (Or.inl rfl) | exact Or.inr (Or.inr rfl)) (hd : (x == ("__debug__" : Str)) = false := by decide)
    (hcd : (x == ("__classdict__" : Str)) = false := by decide)
    (hs : swapsWithSole [.Subscript (.Name x pos1) e2 pos2] e pos.line X.env = pure false := by rfl) (hw : swappedStores [.Subscript (.Name x pos1) e2 pos2] e X.env = pure none := by rfl)
    (h1 : (assignEach [.Subscript (.Name x pos1) e2 pos2] X.env).map (·.2) = [assign (.Subscript (.Name x pos1) e2 pos2) X.env] := by rfl)
    (ha : ∀ v, assign (.Subscript (.Name x pos1) e2 pos2) X.env v = (do
      let ov ← holding [v] (eval (.Name x pos1) X.env)
      let iv ← holding [v, ov] (eval e2 X.env)
      standAt pos2
      holding [v, ov, iv] (setItem ov iv v)
      release [v, ov, iv] []) := by intro _; rfl) :
    DS X (.Assign [.Subscript (.Name x pos1) e2 pos2] e pos) (sSetI i de di) := by
  obtain ⟨t, a1, a2⟩ := he
  obtain ⟨u, b1, b2⟩ := hi'
  refine ⟨_, ps_asg a1 (pg_sub (pe_var hN hv hd hcd) b1 set_list ha) hs hw h1, fun F0 B F H ρ σ s E DD h D k => ?_⟩
  unfold sSetI at h
  split at h
  · rename_i ds q
    obtain ⟨p, vs, h1, f0, f1, f2, f3⟩ := own_at E q
    refine a2 B F H ρ σ E _ h _ fun v d F1 H1 g1 r1 z => ⟨.ref p, h1, b2 B F1 H1 ρ σ (E.grow g1) _ z _ fun w k' F2 H2 g2 r2 z => ?_⟩
    have g := g1.trans g2
    cases k' with
    | int n =>
      cases r2
      have z : (match ixN ds.length n with | some j => DD.nx (ρ.set i (some (.own (ds.set j d)))) | none => False) := z
      cases hj : ixN ds.length n with
      | none => rw [hj] at z; exact z.elim
      | some j =>
        rw [hj] at z
        refine ⟨p, vs, n, _, rfl, rfl, g.hh p _ f2, by rw [f3.length]; exact hj, ?_⟩
        exact k.nx F2 _ _ _ ((s.to g).wr f0 (g.own p f1 (by rw [f2]; trivial))) (own_chg (E.grow g) q h1 f0 (g.own p f1 (by rw [f2]; trivial)) ((f3.mono g.ff).set (r1.mono g2.ff) _)) z
    | none => exact z.elim
    | bool _ => exact z.elim
    | str _ => exact z.elim
    | list _ => exact z.elim
    | tuple _ => exact z.elim
    | dict _ => exact z.elim
  · exact h.elim
/-- x.pop() as a statement; y = x.pop() -/
def sPop (i : Nat) : RS := fun DD ρ => match ρ[i]? with | some (some (.own ds)) => ds ≠ [] ∧ DD.nx (ρ.set i (some (.own ds.dropLast))) | _ => False
theorem dp_last {K : Frag} {H : Hp} {vs : List V} {ds : List D} (h : DpAll K H vs ds) (hn : ds ≠ []) : ∃ v, vs[vs.length - 1]? = some v ∧ Dp K H v (ds.getLast hn) := by
  have e : ds[vs.length - 1]? = some (ds.getLast hn) := by
    rw [h.length, List.getLast_eq_getElem]
    exact List.getElem?_eq_getElem _
  exact h.get e
theorem st_pop {i : Nat} {x : Str} {pos1 pos2 pos3 : Pos} (hN : X.N[i]? = some x := by rfl) (hv : Vis X.env.scope x := by first | exact Or.inl rfl | exact Or.inr (Or.inl rfl) | exact Or.inr (Or.inr rfl)) (hd : (x == ("__debug__" : Str)) = false := by decide)
    (hcd : (x == ("__classdict__" : Str)) = false := by decide)
    (hbase : attributeBase (.Name x pos1) "pop" X.env (eval (.Name x pos1) X.env) = eval (.Name x pos1) X.env := by rfl) (hline : (pos2.endLine == pos3.line) = true := by rfl)
    (hsw : swapsWith (.Call (.Attribute (.Name x pos1) "pop" pos2) [] [] pos3) none pos.line X.env = pure false := by rfl) :
    DS X (.Expr (.Call (.Attribute (.Name x pos1) "pop" pos2) [] [] pos3) pos) (sPop i) := by
  refine ⟨_, ps_expr (pe_bm0 PySem.F.plainAttrs_list PySem.F.slot_list_pop PySem.F.type_list_pop mt_pop (pe_var hN hv hd hcd) hbase hline) hsw, fun F0 B F H ρ σ s E DD h D k => ?_⟩
  unfold sPop at h
  split at h
  · rename_i ds q
    obtain ⟨hn, h⟩ := h
    obtain ⟨p, vs, h1, f0, f1, f2, f3⟩ := own_at E q
    obtain ⟨v, hl, r⟩ := dp_last f3 hn
    exact ⟨.ref p, h1, .inl ⟨rfl, vs, .inl (.inl f2)⟩, p, vs, v, rfl, rfl, f2, hl, k.nx F _ _ _ (s.wr f0 f1) (own_chg E q h1 f0 f1 f3.dropLast) h⟩
  · exact h.elim
/-- a method without arguments that leaves another list: reverse -/
def sRev (i : Nat) : RS := fun DD ρ => match ρ[i]? with | some (some (.own ds)) => DD.nx (ρ.set i (some (.own ds.reverse))) | _ => False
theorem st_rev {i : Nat} {x : Str} {pos1 pos2 pos3 : Pos} (hN : X.N[i]? = some x := by rfl) (hv : Vis X.env.scope x := by first | exact Or.inl rfl | exact Or.inr (Or.inl rfl) | exact Or.inr (Or.inr rfl)) (hd : (x == ("__debug__" : Str)) = false := by decide)
    (hcd : (x == ("__classdict__" : Str)) = false := by decide)
    (hbase : attributeBase (.Name x pos1) "reverse" X.env (eval (.Name x pos1) X.env) = eval (.Name x pos1) X.env := by rfl) (hline : (pos2.endLine == pos3.line) = true := by rfl)
    (hsw : swapsWith (.Call (.Attribute (.Name x pos1) "reverse" pos2) [] [] pos3) none pos.line X.env = pure false := by rfl) :
    DS X (.Expr (.Call (.Attribute (.Name x pos1) "reverse" pos2) [] [] pos3) pos) (sRev i) := by
  refine ⟨_, ps_expr (pe_bm0 PySem.F.plainAttrs_list PySem.F.slot_list_reverse PySem.F.type_list_reverse (fun pins s σ H x xs v us Q I r rs h => mt_reverse pins s σ H x xs v us Q I r rs h) (pe_var hN hv hd hcd) hbase hline) hsw, fun F0 B F H ρ σ s E DD h D k => ?_⟩
  unfold sRev at h
  split at h
  · rename_i ds q
    obtain ⟨p, vs, h1, f0, f1, f2, f3⟩ := own_at E q
    exact ⟨.ref p, h1, .inl ⟨rfl, vs, .inl (.inl f2)⟩, p, vs, rfl, rfl, f2, k.nx F _ _ _ (s.wr f0 f1) (own_chg E q h1 f0 f1 f3.reverse) h⟩
  · exact h.elim

/-! ### while -/
def sWhile (c : RT) (body : RS) : RS := fun DD ρ => ∃ W : Nat → Rho → Prop, (∃ m, W m ρ) ∧ ∀ m ρ, W m ρ →
  c ρ fun b => (b = true → body { DD with nx := fun ρ' => ∃ m', m' < m ∧ W m' ρ', ct := fun ρ' => ∃ m', m' < m ∧ W m' ρ', bk := DD.nx } ρ) ∧ (b = false → DD.nx ρ)
theorem st_while {c : Expr} {body : List Stmt} (hc : DT X c dt) (hb : DSs X body ds) (hp : PassesOwn (model X.prog X.w) X.A X.env X.xe := by exact PassesOwn.never) : DS X (.While c body [] pos) (sWhile dt ds) := by
  obtain ⟨t, c1, c2⟩ := hc
  obtain ⟨u, b1, b2⟩ := hb
  refine ⟨_, ps_while hp c1 b1, fun F0 B F H ρ σ s E DD h D k => ?_⟩
  obtain ⟨W, ⟨m0, w0⟩, turn⟩ := h
  refine ⟨fun m σ H => ∃ F ρ, Gr F0 B F H ∧ EnvOk X.K B F H ρ σ ∧ W m ρ, ⟨m0, F, ρ, s, E, w0⟩, ?_⟩
  rintro m σ1 H1 ⟨F1, ρ1, s1, E1, w1⟩
  refine c2 B F1 H1 ρ1 σ1 E1 _ (turn m ρ1 w1) _ fun b F2 H2 g z => ?_
  cases b with
  | true =>
    refine ⟨fun σ' H' => ∃ F' ρ', Gr F0 B F' H' ∧ EnvOk X.K B F' H' ρ' σ' ∧ ∃ m', m' < m ∧ W m' ρ', fun σ' H' ⟨F', ρ', s', E', m', hm, w⟩ => ⟨m', hm, F', ρ', s', E', w⟩, ?_⟩
    exact b2 F0 B F2 H2 ρ1 σ1 (s1.to g) (E1.grow g) _ (z.1 rfl) _ ⟨fun F' H' ρ' σ' s' E' q => ⟨F', ρ', s', E', q⟩, k.rt, k.nx, fun F' H' ρ' σ' s' E' q => ⟨F', ρ', s', E', q⟩⟩
  | false => exact k.nx F2 H2 ρ1 σ1 (s1.to g) (E1.grow g) (z.2 rfl)

/-! ### what a for walks -/
/-- J gives the items, while G stands -/
def IterOk (K : Frag) (J : It) (F G : Hp) (items : List D) : Prop := ∀ F1 H1, Same F F1 → Same G H1 → Same F1 H1 → ∀ i : Nat,
  (i < items.length → J.go i H1 ∧ ∀ x H2, J.yld i H1 x H2 → ∃ F2, Gr F1 H1 F2 H2 ∧ ∃ d, items[i]? = some d ∧ Dp K F2 x d) ∧ (i = items.length → J.stop i H1)
theorem IterOk.mono {K : Frag} {J : It} {F G F' G' : Hp} {items : List D} (h : IterOk K J F G items) (a : Same F F') (b : Same G G') : IterOk K J F' G' items := fun F1 H1 x y z => h F1 H1 (a.trans x) (b.trans y) z
/-- it stands by what stays -/
def SimI (K : Frag) (wi : TI) (di : RL) : Prop := ∀ (B F H : Hp) (ρ : Rho) (σ : L2.St), EnvOk K B F H ρ σ → ∀ q : List D → Prop, di ρ q → ∀ R : It → Hp → Prop, (∀ J items F' H', Gr F H F' H' → IterOk K J F' F' items → q items → R J H') → wi σ H R
/-- it stands while nothing is changed -/
def SimIc (K : Frag) (wi : TI) (di : RL) : Prop := ∀ (B F H : Hp) (ρ : Rho) (σ : L2.St), EnvOk K B F H ρ σ → ∀ q : List D → Prop, di ρ q → ∀ R : It → Hp → Prop, (∀ J items F' H', Gr F H F' H' → IterOk K J F' H' items → q items → R J H') → wi σ H R
def DI (X : Cx) (tg e : Expr) (di : RL) : Prop := ∃ wi, PI X tg e wi ∧ SimI X.K wi di
def DIc (X : Cx) (tg e : Expr) (di : RL) : Prop := ∃ wi, PI X tg e wi ∧ SimIc X.K wi di
theorem DI.c {tg e : Expr} {di : RL} (h : DI X tg e di) : DIc X tg e di := by
  obtain ⟨wi, h1, h2⟩ := h
  exact ⟨wi, h1, fun B F H ρ σ E q hq R k => h2 B F H ρ σ E q hq R fun J items F' H' g it z => k J items F' H' g (it.mono (Same.refl _) g.fh) z⟩
theorem iter_seqL {K : Frag} {a : Addr} {vs : List V} {ds : List D} {F G : Hp} (h : SqL K G a vs) (ha : DpAll K F vs ds) : IterOk K (Itl K a) F G ds := fun F1 H1 sF sG s1 i => by
  have q := sG.seq h
  refine ⟨fun hi => ⟨⟨vs, vs[i]'(by rw [ha.length]; exact hi), q, by simp⟩, fun x H2 y => ?_⟩, fun hi => ⟨vs, q, by rw [ha.length]; exact Nat.le_of_eq hi.symm⟩⟩
  obtain ⟨rfl, y⟩ := y
  obtain ⟨v, hv, r⟩ := ha.get (List.getElem?_eq_getElem hi)
  have e := y vs q
  rw [hv] at e
  cases e
  exact ⟨F1, Gr.refl s1, ds[i], List.getElem?_eq_getElem hi, r.mono sF⟩
theorem iter_seqT {K : Frag} {a : Addr} {vs : List V} {ds : List D} {F G : Hp} (h : SqT K G a vs) (ha : DpAll K F vs ds) : IterOk K (Itt K a) F G ds := fun F1 H1 sF sG s1 i => by
  have q := sG.seqT h
  refine ⟨fun hi => ⟨⟨vs, vs[i]'(by rw [ha.length]; exact hi), q, by simp⟩, fun x H2 y => ?_⟩, fun hi => ⟨vs, q, by rw [ha.length]; exact Nat.le_of_eq hi.symm⟩⟩
  obtain ⟨rfl, y⟩ := y
  obtain ⟨v, hv, r⟩ := ha.get (List.getElem?_eq_getElem hi)
  have e := y vs q
  rw [hv] at e
  cases e
  exact ⟨F1, Gr.refl s1, ds[i], List.getElem?_eq_getElem hi, r.mono sF⟩
/-- a list or a tuple -/
def gSq : D → (List D → Prop) → Prop := fun d q => match d with | .list xs => q xs | .tuple xs => q xs | _ => False
def iSeq (de : RE) : RL := fun ρ q => de ρ fun d => gSq d q
theorem PI.or {tg e : Expr} {w1 w2 : TI} (h1 : PI X tg e w1) (h2 : PI X tg e w2) : PI X tg e (fun σ H R => w1 σ H R ∨ w2 σ H R) :=
  ⟨fun pins s σ H R I h => h.elim (h1.run pins s σ H R I) (h2.run pins s σ H R I)⟩
/-- both ways of one reading -/
def iBoth (K : Frag) (te : TE) : TI := fun σ H R => te σ H fun x H1 => ∃ a, x = .ref a ∧ ((∃ xs, SqL K H1 a xs ∧ R (Itl K a) H1) ∨ (∃ xs, SqT K H1 a xs ∧ R (Itt K a) H1))
theorem pi_both {tg e : Expr} {te : TE} (he : PE X e te) : PI X tg e (iBoth X.K te) := by
  refine ⟨fun pins s σ H R I h => ?_⟩
  refine thn (he.run pins s σ H _ I h) fun v s1 ⟨x, H1, I1, r1, a, e, q⟩ => ?_
  subst e
  have hv : v = .ref a := r1
  subst hv
  -- the walk of a list, of a tuple, as pi_list and pi_tup have it
  have fin : ∀ {it : Addr} {tk : Nat}, it = s1.heap.objs.size → FpOk X pins H1 it := fun {it tk} e => by
    subst e
    exact I1.fpOk (Nat.le_refl _) (I1.hok.fresh (Nat.le_refl _))
  rcases q with ⟨xs, hq, q⟩ | ⟨xs, hq, q⟩
  · obtain ⟨its, rv, p, hz⟩ := I1.list hq
    refine wpAny_pyIter_list p.isList ?_
    exact ⟨s1.heap.objs.size, [s1.heap.objs.size], _, _, H1, rfl, I1.kept (t' := s1.toks) fun b o e => Heap.get?_push_of_some _ e, turn_list a _, ⟨_, Heap.get?_push_size _ rfl, rfl, rfl⟩, fun b hb => fin (tk := 0) (by simpa using hb), q⟩
  · obtain ⟨its, rv, p, hz⟩ := I1.tuple hq
    refine wpAny_pyIter_tuple (show s1.heap.IsTuple a its.toArray from p) ?_
    exact ⟨s1.heap.objs.size, [s1.heap.objs.size], _, _, H1, rfl, I1.kept (t' := s1.toks) fun b o e => Heap.get?_push_of_some _ e, turn_tuple a _, ⟨_, Heap.get?_push_size _ rfl, rfl, rfl⟩, fun b hb => fin (tk := 0) (by simpa using hb), q⟩
theorem i_seq {tg : Expr} (h : DE X e de) : DI X tg e (iSeq de) := by
  obtain ⟨te, h1, h2⟩ := h
  refine ⟨_, pi_both h1, fun B F H ρ σ E q hq R k => h2 B F H ρ σ E _ hq _ fun v d F' H' g r z => ?_⟩
  cases r with
  | lst hs ha => exact ⟨_, rfl, .inl ⟨_, g.fh.seq hs, k _ _ F' H' g (iter_seqL hs ha) z⟩⟩
  | tup hs ha => exact ⟨_, rfl, .inr ⟨_, g.fh.seqT hs, k _ _ F' H' g (iter_seqT hs ha) z⟩⟩
  | _ => exact z.elim
theorem i_seqC {tg : Expr} (h : DB X e de) : DIc X tg e (iSeq de) := by
  obtain ⟨te, h1, h2⟩ := h
  refine ⟨_, pi_both h1, fun B F H ρ σ E q hq R k => h2 B F H ρ σ E _ hq _ fun v d F' H' g r z => ?_⟩
  cases d with
  | list xs =>
    obtain ⟨a, vs, rfl, s1, d1⟩ := r.lst g.fh
    exact ⟨_, rfl, .inl ⟨_, s1, k _ _ F' H' g (iter_seqL s1 d1) z⟩⟩
  | tuple xs =>
    obtain ⟨a, vs, rfl, s0, s1, d1⟩ := r.tup g.fh
    exact ⟨_, rfl, .inr ⟨_, s1, k _ _ F' H' g (iter_seqT s1 d1) z⟩⟩
  | _ => exact z.elim
/-- reversed(e), e a list or a tuple -/
theorem rev_at {vs : List V} {ds : List D} {i : Nat} (hl : vs.length = ds.length) (hi : i < ds.length) : ds.reverse[i]? = ds[vs.length - 1 - i]? := by
  rw [List.getElem?_reverse hi, hl]
theorem iter_revL {K : Frag} {a : Addr} {vs : List V} {ds : List D} {F G : Hp} (h : SqL K G a vs) (ha : DpAll K F vs ds) : IterOk K (Itv K a vs.length) F G ds.reverse := fun F1 H1 sF sG s1 i => by
  have q := sG.seq h
  have hl := ha.length
  rw [List.length_reverse]
  refine ⟨fun hi => ?_, fun hi => by show vs.length ≤ i; omega⟩
  have hj : vs.length - 1 - i < ds.length := by omega
  obtain ⟨v, hv, r⟩ := ha.get (List.getElem?_eq_getElem hj)
  refine ⟨⟨by omega, vs, v, q, hv⟩, fun x H2 y => ?_⟩
  obtain ⟨rfl, y⟩ := y
  have e := y vs q
  rw [hv] at e
  cases e
  exact ⟨F1, Gr.refl s1, ds[vs.length - 1 - i], by rw [rev_at hl hi]; exact List.getElem?_eq_getElem hj, r.mono sF⟩
theorem iter_revT {K : Frag} {a : Addr} {vs : List V} {ds : List D} {F G : Hp} (h : SqT K G a vs) (ha : DpAll K F vs ds) : IterOk K (RT.ItvT K a vs.length) F G ds.reverse := fun F1 H1 sF sG s1 i => by
  have q := sG.seqT h
  have hl := ha.length
  rw [List.length_reverse]
  refine ⟨fun hi => ?_, fun hi => by show vs.length ≤ i; omega⟩
  have hj : vs.length - 1 - i < ds.length := by omega
  obtain ⟨v, hv, r⟩ := ha.get (List.getElem?_eq_getElem hj)
  refine ⟨⟨by omega, vs, v, q, hv⟩, fun x H2 y => ?_⟩
  obtain ⟨rfl, y⟩ := y
  have e := y vs q
  rw [hv] at e
  cases e
  exact ⟨F1, Gr.refl s1, ds[vs.length - 1 - i], by rw [rev_at hl hi]; exact List.getElem?_eq_getElem hj, r.mono sF⟩
def iRevD (de : RE) : RL := fun ρ q => de ρ fun d => gSq d fun xs => q xs.reverse
theorem i_rev {tg : Expr} {p : Pos} (h : DE X e de) (hm : X.mg "reversed" = none) (hg : Gl X "reversed" := by rfl) (hs : starEach [e] X.env = (false, eval e X.env) :: starEach [] X.env := by rfl) : DI X tg (.Call (.Name "reversed" p) [e] [] pos) (iRevD de) := by
  obtain ⟨te, h1, h2⟩ := h
  refine ⟨_, RT.pi_revA hg hm h1 hs, fun B F H ρ σ E q hq R k => h2 B F H ρ σ E _ hq _ fun v d F' H' g r z => ?_⟩
  cases r with
  | lst hs ha => exact ⟨_, _, rfl, .inl ⟨g.fh.seq hs, k _ _ F' H' g (iter_revL hs ha) z⟩⟩
  | tup hs ha => exact ⟨_, _, rfl, .inr ⟨g.fh.seqT hs, k _ _ F' H' g (iter_revT hs ha) z⟩⟩
  | _ => exact z.elim
theorem i_revC {tg : Expr} {p : Pos} (h : DB X e de) (hm : X.mg "reversed" = none) (hg : Gl X "reversed" := by rfl) (hs : starEach [e] X.env = (false, eval e X.env) :: starEach [] X.env := by rfl) : DIc X tg (.Call (.Name "reversed" p) [e] [] pos) (iRevD de) := by
  obtain ⟨te, h1, h2⟩ := h
  refine ⟨_, RT.pi_revA hg hm h1 hs, fun B F H ρ σ E q hq R k => h2 B F H ρ σ E _ hq _ fun v d F' H' g r z => ?_⟩
  cases d with
  | list xs =>
    obtain ⟨a, vs, rfl, s1, d1⟩ := r.lst g.fh
    exact ⟨_, _, rfl, .inl ⟨s1, k _ _ F' H' g (iter_revL s1 d1) z⟩⟩
  | tuple xs =>
    obtain ⟨a, vs, rfl, s0, s1, d1⟩ := r.tup g.fh
    exact ⟨_, _, rfl, .inr ⟨s1, k _ _ F' H' g (iter_revT s1 d1) z⟩⟩
  | _ => exact z.elim
/-- lo, lo + 1, .., n of them -/
def upTo : Int → Nat → List D
  | _, 0 => []
  | lo, n + 1 => .int lo :: upTo (lo + 1) n
theorem upTo_length : ∀ (lo : Int) (n : Nat), (upTo lo n).length = n
  | _, 0 => rfl
  | lo, n + 1 => by
    show (upTo (lo + 1) n).length + 1 = n + 1
    rw [upTo_length (lo + 1) n]
theorem upTo_get : ∀ (lo : Int) (n i : Nat), i < n → (upTo lo n)[i]? = some (.int (lo + i))
  | lo, n + 1, 0, _ => by
    show some (PyData.int lo) = some (PyData.int (lo + (0 : Nat)))
    simp
  | lo, n + 1, i + 1, h => by
    show (upTo (lo + 1) n)[i]? = _
    rw [upTo_get (lo + 1) n i (by omega)]
    congr 2
    omega
theorem iter_range {K : Frag} {lo : Int} {n : Nat} {F G : Hp} : IterOk K (Itr lo n) F G (upTo lo n) := fun F1 H1 sF sG s1 i => by
  rw [upTo_length]
  refine ⟨fun hi => ⟨hi, fun x H2 y => ?_⟩, fun hi => Nat.le_of_eq hi.symm⟩
  obtain ⟨rfl, rfl⟩ := y
  exact ⟨F1, Gr.refl s1, _, upTo_get lo n i hi, .int _⟩
def iRange1 (de : RE) : RL := fun ρ q => de ρ fun d => match d with | .int j => Rng j ∧ q (upTo 0 j.toNat) | _ => False
theorem i_range1 {tg : Expr} {p : Pos} (h : DE X a de) (hm : X.mg "range" = none) (hg : Gl X "range" := by rfl) (hs : starEach [a] X.env = [(false, eval a X.env)] := by rfl) : DI X tg (.Call (.Name "range" p) [a] [] pos) (iRange1 de) := by
  obtain ⟨te, h1, h2⟩ := h
  refine ⟨_, pi_range1 hg hm (pa_cons h1 pa_nil hs) hs, fun B F H ρ σ E q hq R k => h2 B F H ρ σ E _ hq _ fun v d F' H' g r z => ?_⟩
  cases r with
  | int j => exact ⟨j, rfl, z.1.lo, z.1.hi, k _ _ F' H' g iter_range z.2⟩
  | _ => exact z.elim
def iRange2 (da db : RE) : RL := fun ρ q => da ρ fun x => db ρ fun y => match x, y with | .int i, .int j => (Rng i ∧ Rng j) ∧ q (upTo i (j - i).toNat) | _, _ => False
theorem i_range2 {tg : Expr} {p : Pos} (h : DE X a da) (g' : DE X b db) (hm : X.mg "range" = none) (hg : Gl X "range" := by rfl) (hs : starEach [a, b] X.env = [(false, eval a X.env), (false, eval b X.env)] := by rfl) (hs2 : starEach [b] X.env = [(false, eval b X.env)] := by rfl)
    (hs3 : starEach [a, b] X.env = (false, eval a X.env) :: starEach [b] X.env := by rfl) : DI X tg (.Call (.Name "range" p) [a, b] [] pos) (iRange2 da db) := by
  obtain ⟨te, h1, h2⟩ := h
  obtain ⟨ue, u1, u2⟩ := g'
  refine ⟨_, pi_range2 hg hm (pa_cons h1 (pa_cons u1 pa_nil hs2) hs3) hs hs2, fun B F H ρ σ E q hq R k => h2 B F H ρ σ E _ hq _ fun v x F1 H1 g1 r z => u2 B F1 H1 ρ σ (E.grow g1) _ z _ fun u y F2 H2 g2 r2 z => ?_⟩
  cases x with
  | int i =>
    cases y with
    | int j =>
      cases r
      cases r2
      exact ⟨i, j, rfl, ⟨z.1.1.lo, z.1.1.hi, z.1.2.lo, z.1.2.hi⟩, k _ _ F2 H2 (g1.trans g2) iter_range z.2⟩
    | _ => exact z.elim
  | _ => exact z.elim
/-- lo, lo - 1, .., n of them -/
def downTo : Int → Nat → List D
  | _, 0 => []
  | lo, n + 1 => .int lo :: downTo (lo - 1) n
theorem downTo_length : ∀ (lo : Int) (n : Nat), (downTo lo n).length = n
  | _, 0 => rfl
  | lo, n + 1 => by
    show (downTo (lo - 1) n).length + 1 = n + 1
    rw [downTo_length (lo - 1) n]
theorem downTo_get : ∀ (lo : Int) (n i : Nat), i < n → (downTo lo n)[i]? = some (.int (lo + (i : Nat) * (-1)))
  | lo, n + 1, 0, _ => by
    show some (PyData.int lo) = some (PyData.int (lo + ((0 : Nat) : Int) * (-1)))
    simp
  | lo, n + 1, i + 1, h => by
    show (downTo (lo - 1) n)[i]? = _
    rw [downTo_get (lo - 1) n i (by omega)]
    congr 2
    omega
/-- range(a, b, -1) -/
def iRangeD (da db : RE) : RL := fun ρ q => da ρ fun x => db ρ fun y => match x, y with | .int i, .int j => (Rng i ∧ Rng j) ∧ q (downTo i (i - j).toNat) | _, _ => False
theorem i_rangeD {tg c : Expr} {p : Pos} (h : DE X a da) (g' : DE X b db) (hc : PE X c (tUn (rU fun i => .int (-i)) (tC (.int 1)))) (hm : X.mg "range" = none) (hg : Gl X "range" := by rfl)
    (hs : starEach [a, b, c] X.env = (false, eval a X.env) :: starEach [b, c] X.env := by rfl) (hpl : (backTo pos (starEach [b, c] X.env)).any (·.1) = false := by rfl) (hs2 : starEach [b, c] X.env = (false, eval b X.env) :: starEach [c] X.env := by rfl) (hs3 : starEach [c] X.env = (false, eval c X.env) :: starEach [] X.env := by rfl) :
    DI X tg (.Call (.Name "range" p) [a, b, c] [] pos) (iRangeD da db) := by
  · obtain ⟨te, h1, h2⟩ := h
    obtain ⟨ue, u1, u2⟩ := g'
    refine ⟨_, pi_range3 hg hm (pa_cons h1 (pa_cons u1 (pa_cons hc pa_nil hs3) hs2) hs) hs hpl, fun B F H ρ σ E q hq R k => h2 B F H ρ σ E _ hq _ fun v x F1 H1 g1 r z => u2 B F1 H1 ρ σ (E.grow g1) _ z _ fun u y F2 H2 g2 r2 z => ?_⟩
    cases x with
    | int i =>
      cases y with
      | int j =>
        cases r
        cases r2
        refine ⟨1, rfl, i, j, -1, (i - j).toNat, rfl, RgC.neg z.1.1.lo z.1.1.hi z.1.2.lo z.1.2.hi, k _ _ F2 H2 (g1.trans g2) (fun F3 H3 sF sG s1 n => ?_) z.2⟩
        rw [downTo_length]
        refine ⟨fun hi => ⟨hi, fun x H2 y => ?_⟩, fun hi => Nat.le_of_eq hi.symm⟩
        obtain ⟨rfl, rfl⟩ := y
        exact ⟨F3, Gr.refl s1, _, downTo_get i _ n hi, .int _⟩
      | _ => exact z.elim
    | _ => exact z.elim

/-! ### for -/
def forD (g : RG) (body : RS) (DD : DEnds) : List D → Rho → Prop
  | [], ρ => DD.nx ρ
  | d :: r, ρ => g d ρ fun ρ1 => body { DD with nx := forD g body DD r, ct := forD g body DD r, bk := DD.nx } ρ1
def sFor (di : RL) (g : RG) (body : RS) : RS := fun DD ρ => di ρ fun items => forD g body DD items ρ
theorem st_for {tg iter : Expr} {body : List Stmt} {di : RL} {dg : RG} (hi : DI X tg iter di) (hg : DG X tg dg) (hb : DSs X body ds) (hc : X.calm = true := by rfl) (hp : PassesOwn (model X.prog X.w) X.A X.env X.xe := by exact PassesOwn.never)
    (hs : ∀ x, foldedSetIterable iter X.env x = pure x := by intro _; rfl) : DS X (.For tg iter body [] pos) (sFor di dg ds) := by
  obtain ⟨wi, i1, i2⟩ := hi
  obtain ⟨g, g1, g2⟩ := hg
  obtain ⟨tb, b1, b2⟩ := hb
  refine ⟨_, ps_for hp hc i1 g1 b1 hs, fun F0 B F H ρ σ s E DD h D k => i2 B F H ρ σ E _ h _ fun J items F1 H1 gr it z => ?_⟩
  have s0 := s.to gr
  have k0 := k.mono s0
  refine ⟨fun i m σ H => ∃ F2 ρ, Gr F1 B F2 H ∧ EnvOk X.K B F2 H ρ σ ∧ m = items.length - i ∧ i ≤ items.length ∧ forD dg ds DD (items.drop i) ρ, ⟨items.length, F1, ρ, s0.self, E.grow gr, by simp, Nat.zero_le _, by simpa using z⟩, ?_⟩
  rintro i m σ2 H2 ⟨F2, ρ2, s2, E2, rfl, hi, hz⟩
  obtain ⟨go, stop⟩ := it F2 H2 s2.ff (s2.ff.trans E2.fh) E2.fh i
  by_cases hlt : i < items.length
  · obtain ⟨go, yl⟩ := go hlt
    refine .inr ⟨go, fun σ' H' => ∃ F' ρ', Gr F1 B F' H' ∧ EnvOk X.K B F' H' ρ' σ' ∧ forD dg ds DD (items.drop (i + 1)) ρ', fun σ' H' ⟨F', ρ', s', E', q⟩ => ⟨_, by omega, F', ρ', s', E', rfl, hlt, q⟩, fun x H3 y => ?_⟩
    obtain ⟨F3, gr3, d, hd, r⟩ := yl x H3 y
    have ed : items.drop i = d :: items.drop (i + 1) := by
      have e2 : items[i] = d := Option.some.inj ((List.getElem?_eq_getElem hlt).symm.trans hd)
      rw [← e2]
      exact List.drop_eq_getElem_cons hlt
    rw [ed] at hz
    refine g2 B F3 H3 ρ2 σ2 x d (E2.grow gr3) r _ hz _ fun ρ4 σ4 E4 w => ?_
    exact b2 F1 B F3 H3 ρ4 σ4 (s2.to gr3) E4 _ w _ ⟨fun F' H' ρ' σ' s' E' q => ⟨F', ρ', s', E', q⟩, k0.rt, k0.nx, fun F' H' ρ' σ' s' E' q => ⟨F', ρ', s', E', q⟩⟩
  · have e : i = items.length := by omega
    refine .inl ⟨stop (by omega), ?_⟩
    rw [e, List.drop_length] at hz
    exact k0.nx F2 H2 ρ2 σ2 s2 E2 hz
end
end DL

namespace DL
open PySem PySem.Spec PyProof.Rows L2

/-! ### repr of plain data with great whole numbers -/
def reprOk : D → Bool
  | .none | .bool _ | .int _ | .str _ | .list _ | .tuple _ => true
  | _ => false
def bigLine : Nat := 2 ^ 12000
mutual
def rpD : D → Bool
  | .none | .bool _ => true
  | .int i => decide (i.natAbs < bigLine)
  | .str x => decide ((PyData.shown (.str x)).length + 2 ≤ 3700)
  | .list xs | .tuple xs => rpAll xs
  | _ => false
def rpAll : List D → Bool
  | [] => true
  | x :: xs => rpD x && rpAll xs
end
mutual
def cells : D → Nat
  | .list xs | .tuple xs => 1 + cellsAll xs
  | _ => 1
def cellsAll : List D → Nat
  | [] => 0
  | x :: xs => cells x + cellsAll xs
end
theorem big_lt {i : Int} (h : i.natAbs < bigLine) : i.natAbs < 10 ^ 3640 := Nat.lt_of_lt_of_le h (by unfold bigLine; decide +kernel)
mutual
theorem rp_len : ∀ d : D, rpD d = true → d.shown.length + 2 ≤ 3700 * cells d
  | .none, _ => by
    have e : (PyData.shown .none).length = 4 := rfl
    rw [e]; simp [cells]
  | .bool b, _ => by
    have e : (PyData.shown (.bool b)).length ≤ 5 := by cases b <;> decide
    simp only [cells]; omega
  | .int i, h => by
    have e := int_text_length_le10 (k := 3640) (by decide) (big_lt (by simpa [rpD] using h))
    show (Str.ofString (toString i)).length + 2 ≤ _
    rw [PySem.ofString_length]
    simp only [cells]
    omega
  | .list xs, h => by
    have h3 := rp_lenAll xs (by simpa only [rpD] using h)
    have h4 := listText_len_le (PyData.shownAll xs)
    have h5 := PyData.shownAll_length xs
    simp only [PyData.shown, cells]
    omega
  | .tuple xs, h => by
    have h3 := rp_lenAll xs (by simpa only [rpD] using h)
    have h4 := tupleText_len_le (PyData.shownAll xs)
    have h5 := PyData.shownAll_length xs
    simp only [PyData.shown, cells]
    omega
  | .str _, h => by
    simp only [cells]
    have := of_decide_eq_true (show decide _ = true by simpa only [rpD] using h)
    omega
  | .dict _, h => by simp [rpD] at h
theorem rp_lenAll : ∀ xs : List D, rpAll xs = true → ((PyData.shownAll xs).map (·.length)).sum + 2 * xs.length ≤ 3700 * cellsAll xs
  | [], _ => by simp [PyData.shownAll, cellsAll]
  | x :: xs, h => by
    have h' : rpD x = true ∧ rpAll xs = true := by simpa only [rpAll, Bool.and_eq_true] using h
    have a3 := rp_len x h'.1
    have b3 := rp_lenAll xs h'.2
    simp only [PyData.shownAll, cellsAll, List.map_cons, List.sum_cons, List.length_cons]
    omega
end
section
variable {prog : Program} {w : World} {h₀ : Heap}
theorem int_text {A : Around} {E : Value → Shared → Prop} {s : Shared} {a : Int} {t : Tok} {Q : Value → Shared → Prop} (hn : s.heap.NoDigits) (ha : a.natAbs < bigLine) (h : Q (.str (toString a) s.toks) { s with toks := s.toks + 1 }) :
    wpAny (model prog w) A (call (.builtin "int.__repr__") [.int a t]) Q E s := by
  have hb : a.natAbs < 10 ^ 4300 := Nat.lt_of_lt_of_le (big_lt ha) (Nat.pow_le_pow_right (by decide) (by decide))
  refine wpAny_call_entry F.slot_int_repr (typeIs_int s a t) F.entry_int_repr ?_ (F.args_int_repr_1 _)
  unfold Builtin.«int.__repr__»
  show wpAny _ _ (do let r ← Builtin.overDigitLimit? a; _) _ _ s
  refine wpAny_bind (overDigitLimit_any hn (fun _ => wpAny_bind (wpAny_mkStr (wpAny_pure ⟨_, rfl, h⟩) (int_text_fits10 hb))) fun hge => ?_)
  exact absurd hb (Nat.not_lt.mpr hge)
theorem repr_int (hn : h₀.NoDigits) (a : Int) (t : Tok) (ha : a.natAbs < bigLine) (as : List Addr) (d : Nat) : ReprK prog w as h₀ d (.int a t) (toString a) := by
  intro base hb A g E s Q _ _ hu hk hQ
  have hb' : base ≤ sizeLine := by omega
  rw [pyReprUnder_leaf (v := .int a t) hb' (fun _ e => nomatch e)]
  unfold pyRepr
  refine wpAny_bind (wpAny_pyReprObj_slot (by omega) (typeIs_int s a t) F.slot_int_repr.toG (int_text (hn.keeps hk) ha ⟨_, _, rfl, wpAny_pure ?_⟩))
  exact hQ s.heap _ fun _ _ e => e
mutual
theorem rp_repr (hn : h₀.NoDigits) : ∀ {v : Value} {d : D} {as : List Addr}, Reads h₀ v d as → rpD d = true → d.shown.length ≤ sizeLine → ∃ bs, ReadAtMost h₀ d.depth bs ∧ ReprK prog w bs h₀ d.depth v d.shown
  | _, _, _, .none, _, _ => ⟨[], (fun _ h => nomatch h), by simp only [PyData.shown]; exact .of_is ReprIs.none _ _ _⟩
  | _, _, _, .bool b, _, _ => ⟨[], (fun _ h => nomatch h), by simp only [PyData.shown]; exact .of_is (ReprIs.bool b) _ _ _⟩
  | _, _, _, .int i t, hs, _ => ⟨[], (fun _ h => nomatch h), by simp only [PyData.shown]; exact repr_int hn i t (by simpa [rpD] using hs) _ _⟩
  | _, _, _, .str x t, _, hz => ⟨[], (fun _ h => nomatch h), by simp only [PyData.shown]; exact .of_is (ReprIs.str x t (by simpa only [PyData.shown] using hz)) _ _ _⟩
  | _, _, _, .list (a := a) (vs := vs) (xs := xs) h1 h2 h3 h4, hs, hz => by
    have hz' : (listText (PyData.shownAll xs)).length ≤ sizeLine := by simpa only [PyData.shown] using hz
    obtain ⟨bs, hb, hk⟩ := rp_reprAll hn h4 (by simpa only [rpD] using hs) fun t ht => Nat.le_trans (listText_mem_le ht) hz'
    have r : Reads h₀ (.ref a) (.list xs) _ := .list h1 h2 h3 h4
    refine ⟨a :: bs, .cons r (by simp only [PyData.depth]; omega) hb, ?_⟩
    have off : a ∉ bs := not_mem_of_deeper r (by simp only [PyData.depth]; omega) hb
    simp only [PyData.depth, PyData.shown]
    obtain ⟨l⟩ := vs
    cases l with
    | nil =>
      have h4' : ReadsAll h₀ [] xs _ := h4
      cases h4'
      simp only [PyData.shownAll, listText_nil]
      exact .listEmpty h1 h2 h3
    | cons x l => exact .list h1 h2 h3 off (by simpa using hk.length_eq) fun i y e => hk.item i y (by simpa using e)
  | _, _, _, .tuple (a := a) (xs := xs) h1 h2 h3 h4, hs, hz => by
    have hz' : (tupleText (PyData.shownAll xs)).length ≤ sizeLine := by simpa only [PyData.shown] using hz
    obtain ⟨bs, hb, hk⟩ := rp_reprAll hn h4 (by simpa only [rpD] using hs) fun t ht => Nat.le_trans (tupleText_mem_le ht) hz'
    have r : Reads h₀ (.ref a) (.tuple xs) _ := .tuple h1 h2 h3 h4
    refine ⟨a :: bs, .cons r (by simp only [PyData.depth]; omega) hb, ?_⟩
    have off : a ∉ bs := not_mem_of_deeper r (by simp only [PyData.depth]; omega) hb
    simp only [PyData.depth, PyData.shown]
    exact .tuple h1 h2 h3 off hk
  | _, _, _, .dict _ _ _ _ _, hs, _ => by simp [rpD] at hs
theorem rp_reprAll (hn : h₀.NoDigits) : ∀ {vs : List Value} {ds : List D} {as : List Addr}, ReadsAll h₀ vs ds as → rpAll ds = true → (∀ t ∈ PyData.shownAll ds, t.length ≤ sizeLine) →
    ∃ bs, ReadAtMost h₀ (PyData.depthAll ds) bs ∧ ReprAllK prog w bs h₀ (PyData.depthAll ds) vs (PyData.shownAll ds)
  | _, _, _, .nil, _, _ => ⟨[], (fun _ h => nomatch h), by simp only [PyData.shownAll]; exact .nil⟩
  | _, _, _, .cons (d := d) (ds := ds) r rs, hs, hz => by
    have hs' : rpD d = true ∧ rpAll ds = true := by simpa only [rpAll, Bool.and_eq_true] using hs
    simp only [PyData.shownAll, List.mem_cons, forall_eq_or_imp] at hz
    obtain ⟨b1, c1, k1⟩ := rp_repr hn r hs'.1 hz.1
    obtain ⟨b2, c2, k2⟩ := rp_reprAll hn rs hs'.2 hz.2
    simp only [PyData.depthAll, PyData.shownAll]
    exact ⟨b1 ++ b2, (c1.mono (Nat.le_max_left _ _)).append (c2.mono (Nat.le_max_right _ _)), .cons ((k1.more fun b hb => List.mem_append_left _ hb).level_le (Nat.le_max_left _ _)) (k2.more_le (fun b hb => List.mem_append_right _ hb) (Nat.le_max_right _ _))⟩
end
/-- repr(v) -/
theorem rp_call {A : Around} {E : Value → Shared → Prop} {s : Shared} {v : Value} {d : D} {as : List Addr} {Q : Value → Shared → Prop} (hn : s.heap.NoDigits) (r : Reads s.heap v d as) (hc : reprOk d = true) (hs : rpD d = true) (hz : d.shown.length ≤ sizeLine) (hg : A.guards = some []) (hu : A.units + (d.depth + 1) < cLine)
    (hQ : ∀ h' u tk, (∀ b o, s.heap.get? b = some o → h'.get? b = some o) → Q (.str d.shown u) { s with heap := h', toks := tk }) : wpAny (model prog w) A (call (.builtin "repr") [v]) Q E s := by
  have hk0 : ∀ b o, s.heap.get? b = some o → s.heap.get? b = some o := fun _ _ e => e
  have fin : ∀ h' u tk, (∀ b o, s.heap.get? b = some o → h'.get? b = some o) → ∃ x t, (Value.str d.shown u) = .str x t ∧ Q (.str d.shown u) { s with heap := h', toks := tk } := fun h' u tk hk => ⟨_, _, rfl, hQ h' u tk hk⟩
  cases r with
  | none =>
    simp only [PyData.shown] at hQ
    exact P.repr_of_none (hQ s.heap _ _ hk0)
  | bool b =>
    simp only [PyData.shown] at hQ
    exact P.repr_of_bool (hQ s.heap _ _ hk0)
  | str x t =>
    simp only [PyData.shown] at hQ
    exact P.repr_of_str (hQ s.heap _ _ hk0) (by simpa only [PyData.shown] using hz)
  | int i t => exact call_repr_slot (by omega) (typeIs_int s i t) F.slot_int_repr.toG (int_text hn (by simpa [rpD] using hs) (fin s.heap _ _ hk0))
  | list h1 h2 h3 h4 =>
    rename_i o vs n xs bs₀
    have hz' : (listText (PyData.shownAll xs)).length ≤ sizeLine := by simpa only [PyData.shown] using hz
    obtain ⟨bs, hb, hk⟩ := rp_reprAll (prog := prog) (w := w) hn h4 (by simpa only [rpD] using hs) fun t ht => Nat.le_trans (listText_mem_le ht) hz'
    have off := not_mem_of_deeper (.list h1 h2 h3 h4) (by simp only [PyData.depth]; omega) hb
    simp only [PyData.depth] at hu
    simp only [PyData.shown] at fin
    refine call_repr_slot (by omega) ⟨o, h1, h2⟩ F.slot_list_repr.toG ?_
    obtain ⟨l⟩ := vs
    cases l with
    | nil =>
      have h4' : ReadsAll s.heap [] xs _ := h4
      cases h4'
      simp only [PyData.shownAll, listText_nil] at fin
      exact call_list_repr_empty ⟨o, h1, h2⟩ h1 h3 (fin s.heap _ _ hk0)
    | cons x l => exact call_list_reprK h1 h2 h3 off (by simpa using hk.length_eq) (fun i y e => hk.item i y (by simpa using e)) hg (fun b _ => Clear.nil b) (by show A.units + 1 + _ < cLine; omega) hk0 fin hz'
  | tuple h1 h2 h3 h4 =>
    rename_i o vs n xs
    have hz' : (tupleText (PyData.shownAll xs)).length ≤ sizeLine := by simpa only [PyData.shown] using hz
    obtain ⟨bs, hb, hk⟩ := rp_reprAll (prog := prog) (w := w) hn h4 (by simpa only [rpD] using hs) fun t ht => Nat.le_trans (tupleText_mem_le ht) hz'
    have off := not_mem_of_deeper (.tuple h1 h2 h3 h4) (by simp only [PyData.depth]; omega) hb
    simp only [PyData.depth] at hu
    simp only [PyData.shown] at fin
    exact call_repr_slot (by omega) ⟨o, h1, h2⟩ F.slot_tuple_repr (call_tuple_reprK h1 h2 h3 off hk hg (fun b _ => Clear.nil b) (by show A.units + 1 + _ < cLine; omega) hk0 fin hz')
  | _ => cases hc
end
def gRepr : GA := fun xs q => match xs with | [d] => (reprOk d = true ∧ rpD d = true ∧ cells d ≤ 4500 ∧ d.depth ≤ 60) ∧ q (.str d.shown) | _ => False
section
variable {X : Cx}
theorem c_repr (hdg : X.base.NoDigits) (hg : X.A.guards = some []) (hu : X.A.units + 64 < cLine) : CallD X (.builtin "repr") gRepr := by
  refine ⟨fun vs H Q => ∃ v d, vs = [v] ∧ Dp X.K H v d ∧ (reprOk d = true ∧ rpD d = true ∧ cells d ≤ 4500 ∧ d.depth ≤ 60) ∧ Q (.str d.shown) H, ?_, ?_⟩
  · rintro pins s σ H vs us Q I r ⟨v, d, rfl, hd, ⟨h0, h1, h2, h3⟩, q⟩
    cases r with
    | cons ru rt =>
      cases rt
      rename_i u
      obtain ⟨as, rd⟩ := Dp.reads I d v u hd ru
      have hl := rp_len d h1
      exact rp_call (hdg.keeps fun b o e => (I.bs b o e).1) rd h0 h1 (by rw [sizeLine_eq]; omega) hg (by omega) fun h' t tk hk => ⟨.str _, H, I.kept hk, ⟨_, rfl⟩, q⟩
  · intro F H vs xs fh b q hq Q k
    cases b with
    | nil => exact hq.elim
    | cons b1 bt =>
      cases bt with
      | nil => exact ⟨_, _, rfl, b1.dp fh, hq.1, k _ _ F H (Gr.refl fh) (.str _) hq.2⟩
      | cons _ _ => exact hq.elim
end
end DL

namespace DL
open PySem PySem.Spec PyProof.Rows L2

/-! ### defs that are called with no repr under way -/
structure FnG (P : Program) (w : World) (K : PySem.W.Frag) (mg : Str → Option Value) (base : Heap) (k : Nat) (f : Addr) (fd : FuncData) (ps : List Str) (sp : Sp) : Prop where
  len : ∀ vs H Q E, sp vs H Q E → vs.length = ps.length
  run : ∀ (A : Around) (outer : List Env) (s : Shared) (H : Hp) (args : Args) (us : List Value) (vs : List V) (Q : VK) (E : XK), A.guards = some [] →
    Room k A → Env0 P w K mg base A outer s H → BindsTo s fd args (ps.zip us) → Vals vs us → sp vs H Q E → codeAny (model P w) A (.call (.ref f) args) (CR CX0 outer P w H s Q E) s
theorem FnG.mono {P : Program} {w : World} {K : PySem.W.Frag} {mg : Str → Option Value} {base : Heap} {j k : Nat} {f : Addr} {fd : FuncData} {ps : List Str} {sp : Sp} (F : FnG P w K mg base j f fd ps sp) (h : j ≤ k) : FnG P w K mg base k f fd ps sp :=
  ⟨F.len, fun A outer s H args us vs Q E hg hr => F.run A outer s H args us vs Q E hg (hr.mono h)⟩
section
variable {P : Program} {w : World} {K : PySem.W.Frag} {mg : Str → Option Value} {base : Heap}
/-- a def of the text, by its body's reading -/
theorem Fun.okG {x qual : Str} {st : Stmt} {f : Addr} {fd : FuncData} {N ps : List Str} {k : Nat} {sp : Sp} (F : Fun K x qual st f fd) (S : FnScope N ps (defScope st)) (len : ∀ vs H Q E, sp vs H Q E → vs.length = ps.length)
    (hbody : ∀ (cdv : Value) (A : Around) (outer : List Env) (s : Shared) (H : Hp) (vs : List V) (Q : VK) (E : XK), (A.deeper (envOfC qual (defScope st) s.heap.objs.size f cdv)).guards = some [] → Room k (A.deeper (envOfC qual (defScope st) s.heap.objs.size f cdv)) → sp vs H Q E →
      ∃ t, PSs (cxOf CX0 P w K mg base N qual (defScope st) f cdv A outer s H E).nox (defBody st) t ∧ t { nx := fun _ H' => Q .non H', rt := Q } (start N vs) H) : FnG P w K mg base (k + 1) f fd ps sp := by
  obtain ⟨oc, od, kV, doc, pm, an, cdv, ct, osl, rfl, lk, hcd⟩ := F.ex
  refine ⟨len, ?_⟩
  intro A outer s H args us vs Q E gA room e0 bind rel hsp
  have inK : K.In s.heap := e0.mod.kin.keeps fun b o e => (e0.bs b o e).1
  have kinds : ∀ y ∈ ps.zip us, (defScope st).names.lookup y.1 = some .local ∨ ((defScope st).names.lookup y.1 = some .cell ∧ ((cellsFrom (s.heap.objs.size + 1) (defScope st).names []).lookup y.1).isSome = true) := by
    rintro ⟨n, v⟩ hy
    cases S.par n (List.of_mem_zip hy).1 with
    | inl q => exact .inl q
    | inr q => exact .inr ⟨q, PySem.W.cellsFrom_some _ _ _ (.inl q)⟩
  refine codeAny_call_function room.depth (inK _ _ lk) rfl S.co S.gen rfl (PySem.W.codeRec_of inK hcd) (bind _ _ _ _ (wpAny_newFunctionEnv_cells S.kind kinds ?_))
  rintro env rfl s1 x
  refine ⟨e0.mod.nolimit.keeps fun b o e => x.toInCall.keep b o ((e0.bs b o e).1), codeAny_func ?_⟩
  obtain ⟨t, ht, hq⟩ := hbody cdv A outer s H vs Q E gA (room.deeper _) hsp
  refine wpAny_mono (ht.nox.run [] s1 (start N vs) H _ (inv_start S room.hd e0 (len _ _ _ _ hsp) rel x) hq) ?_ fun _ _ hs => hs
  intro fl s' hs
  cases fl with
  | brk => exact hs.elim fun _ z => z.elim fun _ z => z.2.elim
  | cont => exact hs.elim fun _ z => z.elim fun _ z => z.2.elim
  | next => exact hs.elim fun _ z => z.elim fun H' z => ⟨.non, H', z.1.os, z.1.bare, z.1.base, z.1.hok, rfl, z.2⟩
  | ret u => exact hs.elim fun v z => z.elim fun _ z => z.elim fun H' z => ⟨v, H', z.1.os, z.1.bare, z.1.base, z.1.hok, z.2.1, z.2.2⟩
end
section
variable {X : Cx} {k : Nat} {f : Addr} {fd : FuncData} {ps : List Str} {sp : Sp} {x : Str} {p pos : Pos} {e : Expr} {es : List Expr} {t : TA}
/-- f(e, ..) -/
theorem pe_callG (F : FnG X.prog X.w X.K X.mg X.base k f fd ps sp) (gA : X.A.guards = some []) (room : Room k X.A) (hg : Gl X x) (hm : X.mg x = some (.ref f)) (hk : PySem.W.keepIn X.K (.ref f) = true) (hb : Binds X.K fd ps [])
    (ha : PA X (e :: es) t) (hdb : (x == ("__debug__" : Str)) = false := by decide) (he : starEach (e :: es) X.env = (false, eval e X.env) :: starEach es X.env := by rfl) (hpl : (backTo pos (starEach es X.env)).any (·.1) = false := by rfl) :
    PE X (.Call (.Name x p) (e :: es) [] pos) (tCall sp [] (fun _ _ _ => False) t) := by
  constructor
  intro pins s σ H Q I h
  refine wpAny_Call_Name_kw (ld_glob I hg hm (PySem.W.callWith_K (h₀ := X.base) I.ok.mod.kin hk (thn (ha.run pos pins s σ H _ I h) ?_) he hpl) hdb)
  rintro us s1 ⟨vs, H1, J, r, q⟩
  refine ⟨J.kIn, ?_⟩
  rw [List.append_nil] at q
  have hl : (us ++ ([] : List Value)).length = ps.length := by rw [List.append_nil, ← r.length]; exact F.len _ _ _ _ q
  have hbb := hb s1 us J.kIn hl
  rw [List.append_nil] at hbb
  refine wpAny_call (codeAny_mono (F.run X.A X.stack s1 H1 ⟨us, []⟩ us vs Q _ gA room J.env0 hbb r q) ?_)
  intro r' s' hq
  match r', hq with
  | .ok (.ret u), hq => exact J.after hq
  | .error e, hq => exact (pass0 pins σ H1 s1 e s' J hq)
end
end DL

namespace DL
open PySem PySem.Spec PyProof.Rows L2

/-! ### list comprehensions -/
/-- the canonical readings -/
def canE (K : Frag) (de : RE) : TE := fun σ H Q => ∃ B F ρ q, EnvOk K B F H ρ σ ∧ de ρ q ∧ ∀ v d F' H', Gr F H F' H' → Dp K F' v d → q d → Q v H'
def canT (K : Frag) (dt : RT) : TT := fun σ H Q => ∃ B F ρ q, EnvOk K B F H ρ σ ∧ dt ρ q ∧ ∀ b F' H', Gr F H F' H' → q b → Q b H'
section
variable {X : Cx} {e : Expr} {de : RE} {dt : RT} {dl : RL}
theorem DE.can (h : DE X e de) : PE X e (canE X.K de) := by
  obtain ⟨te, h1, h2⟩ := h
  refine ⟨fun pins s σ H Q I ⟨B, F, ρ, q, E, hq, k⟩ => ?_⟩
  exact h1.run pins s σ H Q I (h2 B F H ρ σ E q hq Q k)
theorem DT.can (h : DT X e dt) : PT X e (canT X.K dt) := by
  obtain ⟨te, h1, h2⟩ := h
  refine ⟨fun pins s σ H Q I ⟨B, F, ρ, q, E, hq, k⟩ => ?_⟩
  exact h1.run pins s σ H Q I (h2 B F H ρ σ E q hq Q k)
theorem sim_canE {K : Frag} : SimE K (canE K de) de := fun B F H ρ σ E q hq Q k => ⟨B, F, ρ, q, E, hq, k⟩
theorem sim_canT {K : Frag} : SimT K (canT K dt) dt := fun B F H ρ σ E q hq Q k => ⟨B, F, ρ, q, E, hq, k⟩
end
def wipeD (ρ : Rho) : List Nat → Rho
  | [] => ρ
  | v :: vs => (wipeD ρ vs).set v none
theorem wipeD_length (ρ : Rho) : ∀ vs : List Nat, (wipeD ρ vs).length = ρ.length
  | [] => rfl
  | v :: vs => by unfold wipeD; rw [List.length_set, wipeD_length ρ vs]
theorem wipeD_some {ρ : Rho} {i : Nat} {x : DV} : ∀ {vs : List Nat}, (wipeD ρ vs)[i]? = some (some x) → ρ[i]? = some (some x) ∧ i ∉ vs
  | [], h => ⟨h, by simp⟩
  | v :: vs, h => by
    unfold wipeD at h
    by_cases hi : v = i
    · subst hi
      by_cases hv : v < (wipeD ρ vs).length
      · rw [List.getElem?_set_self hv] at h; cases h
      · rw [List.getElem?_eq_none (by simpa using hv)] at h; cases h
    · rw [List.getElem?_set_ne hi] at h
      obtain ⟨h1, h2⟩ := wipeD_some h
      exact ⟨h1, by simp only [List.mem_cons, not_or]; exact ⟨fun e => hi e.symm, h2⟩⟩
theorem EnvOk.wiped {K : Frag} {B F H : Hp} {ρ : Rho} {σ : L2.St} (E : EnvOk K B F H ρ σ) (vs : List Nat) : EnvOk K B F H (wipeD ρ vs) (wipe σ vs) := by
  refine ⟨E.fh, E.bh, by rw [wipeD_length, wipe_length]; exact E.len, fun i dv e => ?_, fun i j p a b n e1 e2 e3 => ?_, fun i j p a b n e1 e2 e3 => ?_⟩
  · obtain ⟨h1, h2⟩ := wipeD_some e
    obtain ⟨v, h3, h4⟩ := E.at' i dv h1
    exact ⟨v, by rw [wipe_out h2]; exact h3, h4⟩
  · obtain ⟨h1, h2⟩ := wipeD_some e1
    obtain ⟨g1, g2⟩ := wipeD_some e2
    rw [wipe_out h2] at e3
    rw [wipe_out g2]
    exact E.sep i j p a b n h1 g1 e3
  · obtain ⟨h1, h2⟩ := wipeD_some e1
    obtain ⟨g1, g2⟩ := wipeD_some e2
    rw [wipe_out h2] at e3
    rw [wipe_out g2]
    exact E.sepT i j p a b n h1 g1 e3
theorem wipe_set {σ : L2.St} {i : Nat} {x : Option V} : ∀ {vs : List Nat}, i ∈ vs → wipe (σ.set i x) vs = wipe σ vs
  | v :: vs, h => by
    have key : ∀ vs : List Nat, wipe (σ.set i x) vs = wipe σ vs ∨ wipe (σ.set i x) vs = (wipe σ vs).set i x := by
      intro vs
      induction vs with
      | nil => exact .inr rfl
      | cons w ws ih =>
        unfold wipe
        rcases ih with ih | ih
        · exact .inl (by rw [ih])
        · rw [ih]
          by_cases hw : i = w
          · subst hw
            exact .inl (by rw [List.set_set])
          · exact .inr (List.set_comm _ _ hw)
    unfold wipe
    by_cases hv : i = v
    · subst hv
      rcases key vs with q | q
      · rw [q]
      · rw [q, List.set_set]
    · have hm : i ∈ vs := by
        rcases List.mem_cons.mp h with q | q
        · exact absurd q hv
        · exact q
      rw [wipe_set hm]
/-- targets of a comprehension: the slots vs alone are stored -/
def SimGw (K : Frag) (vs : List Nat) (g : TG) (dg : RG) : Prop := ∀ (B F H : Hp) (ρ : Rho) (σ : L2.St) (v : V) (d : D), EnvOk K B F H ρ σ → Dp K F v d → ∀ q : Rho → Prop, dg d ρ q → ∀ Q : L2.St → Hp → Prop, (∀ ρ' σ', EnvOk K B F H ρ' σ' → wipe σ' vs = wipe σ vs → q ρ' → Q σ' H) → g v σ H Q
def SimGws (K : Frag) (vs : List Nat) (g : TGs) (dg : RGs) : Prop := ∀ (B F H : Hp) (ρ : Rho) (σ : L2.St) (us : List V) (xs : List D), EnvOk K B F H ρ σ → DpAll K F us xs → ∀ q : Rho → Prop, dg xs ρ q → ∀ Q : L2.St → Hp → Prop, (∀ ρ' σ', EnvOk K B F H ρ' σ' → wipe σ' vs = wipe σ vs → q ρ' → Q σ' H) → g us σ H Q
/-- a comprehension's block -/
abbrev BX (X : Cx) (scope : Scope) (s : Shared) (H : Hp) (C : Addr) (cl : List (Str × Addr)) (fp : List Addr) : Cx := X.blk s H scope (compEnvC scope cl C X.env) fp
def DGw (X : Cx) (scope : Scope) (vs : List Nat) (tg : Expr) (dg : RG) : Prop := ∃ g, (∀ s H C cl fp, PG (BX X scope s H C cl fp) tg g) ∧ SimGw X.K vs g dg
def DGws (X : Cx) (scope : Scope) (vs : List Nat) (tgs : List Expr) (dg : RGs) : Prop := ∃ g, (∀ s H C cl fp, PGs (BX X scope s H C cl fp) tgs g) ∧ SimGws X.K vs g dg
section
variable {X : Cx} {scope : Scope} {vs : List Nat} {pos : Pos}
theorem gw_name {i : Nat} {x : Str} (hN : X.N.Nodup) (hi : X.N[i]? = some x := by rfl) (hx : ∀ s H C cl fp, Loc (BX X scope s H C cl fp).env.scope x := by intros; first | exact Or.inl rfl | exact Or.inr rfl)
    (hf : ∀ s H C cl fp, (BX X scope s H C cl fp).fn x = true ∨ (BX X scope s H C cl fp).env.scope.names.lookup x = some .local := by intros; first | exact .inl rfl | exact .inr rfl) (hv : i ∈ vs := by decide) : DGw X scope vs (.Name x pos) (rName i) :=
  ⟨_, fun s H C cl fp => pg_name (X := BX X scope s H C cl fp) hN hi (hx s H C cl fp) (hf s H C cl fp), fun B F H ρ σ v d E r q h Q k => k _ _ (E.set i r) (wipe_set hv) h⟩
theorem gw_nil : DGws X scope vs [] rNil := ⟨_, fun s H C cl fp => pgs_nil, fun B F H ρ σ us xs E r q h Q k => by
  obtain ⟨rfl, h⟩ := h
  cases r
  exact ⟨rfl, k _ _ E rfl h⟩⟩
theorem gw_cons {e : Expr} {es : List Expr} {dg : RG} {dgs : RGs} (h1 : DGw X scope vs e dg) (h2 : DGws X scope vs es dgs)
    (hs : ∀ s H C cl fp, (assignEach (e :: es) (BX X scope s H C cl fp).env).map (·.2) = assign e (BX X scope s H C cl fp).env :: (assignEach es (BX X scope s H C cl fp).env).map (·.2) := by intros; rfl) : DGws X scope vs (e :: es) (rCons dg dgs) := by
  obtain ⟨g, a1, a2⟩ := h1
  obtain ⟨u, b1, b2⟩ := h2
  refine ⟨_, fun s H C cl fp => pgs_cons (a1 s H C cl fp) (b1 s H C cl fp) (hs s H C cl fp), fun B F H ρ σ us xs E r q h Q k => ?_⟩
  cases xs with
  | nil => exact h.elim
  | cons d r' =>
    cases r with
    | cons r1 r2 => exact ⟨_, _, rfl, a2 B F H ρ σ _ d E r1 _ h _ fun ρ' σ' E' w z => b2 B F H ρ' σ' _ _ E' r2 q z Q fun ρ2 σ2 E2 w2 z2 => k ρ2 σ2 E2 (w2.trans w) z2⟩
theorem gw_tup {es : List Expr} {k : Nat} {dg : RGs} {n : Nat} (h : DGws X scope vs es dg) (hc : X.calm = true := by rfl)
    (hn : ∀ s H C cl fp, (assignEach es (BX X scope s H C cl fp).env).length = n := by intros; rfl) (hst : ∀ s H C cl fp, (assignEach es (BX X scope s H C cl fp).env).findIdx? (·.1) = none := by intros; rfl) : DGw X scope vs (.Tuple es k pos) (rTup n dg) := by
  obtain ⟨g, a1, a2⟩ := h
  refine ⟨gTup X.K n g, fun s H C cl fp => pg_tup (X := BX X scope s H C cl fp) hc (a1 s H C cl fp) (hn s H C cl fp) (hst s H C cl fp), fun B F H ρ σ v d E r q h Q k => ?_⟩
  cases d with
  | tuple xs =>
    cases r with
    | tup hs ha => exact ⟨_, _, rfl, E.fh.seqT hs, by rw [ha.length]; exact h.1, a2 B F H ρ σ _ xs E ha q h.2 Q k⟩
  | _ => exact h.elim
/-- a clause's tests -/
def DPTs (X : Cx) (scope : Scope) (ifs : List Expr) (dt : RT) : Prop := ∃ tt, (∀ s H C cl fp, PTs (BX X scope s H C cl fp) ifs tt) ∧ SimT X.K tt dt
def tYesD : RT := fun _ q => q true
theorem dts_nil : DPTs X scope [] tYesD := ⟨_, fun _ _ _ _ _ => pts_nil, fun B F H ρ σ E q hq Q k => k true F H (Gr.refl E.fh) hq⟩
theorem dts_one {c : Expr} {dt : RT} (h : ∀ s H C cl fp, DT (BX X scope s H C cl fp) c dt) : DPTs X scope [c] dt := ⟨_, fun s H C cl fp => pts_one (h s H C cl fp).can, sim_canT⟩

def lcD (g : RG) (tt : RT) (de : RE) (vs : List Nat) : List D → Rho → (List D → Prop) → Prop
  | [], _, q => q []
  | d :: r, ρ, q => g d (wipeD ρ vs) fun ρ1 => tt ρ1 fun b => (b = true → de ρ1 fun x => lcD g tt de vs r ρ fun xs => q (x :: xs)) ∧ (b = false → lcD g tt de vs r ρ q)
def lComp (di : RL) (g : RG) (tt : RT) (de : RE) (vs : List Nat) : RL := fun ρ q => di ρ fun items => Fit items.length ∧ lcD g tt de vs items ρ q
theorem EnvOk.other {K : Frag} {B F H : Hp} {ρ : Rho} {σ : L2.St} (E : EnvOk K B F H ρ σ) {p : Addr} {o : HO} (hb : B p = none) (hf : F p = none) (hs : ∀ (j : Nat) a, ρ[j]? = some (some (.own a)) → σ[j]? ≠ some (some (.ref p))) (hT : ∀ (j : Nat) a, ρ[j]? = some (some (.tks a)) → σ[j]? ≠ some (some (.ref p))) : EnvOk K B F (upd H p o) ρ σ := by
  refine ⟨fun b u e => ?_, fun b u e => ?_, E.len, fun i dv e => ?_, E.sep, E.sepT⟩
  · rw [upd_ne (ne_of_none e hf)]
    exact E.fh b u e
  · rw [upd_ne (ne_of_none e hb)]
    exact E.bh b u e
  · obtain ⟨v, h1, h2⟩ := E.at' i dv e
    refine ⟨v, h1, ?_⟩
    cases dv with
    | val d => exact h2
    | own ds =>
      obtain ⟨q, us, rfl, q0, q1, q2, q3⟩ := h2
      have : q ≠ p := fun z => by
        subst z
        exact hs i ds e h1
      exact ⟨q, us, rfl, q0, q1, by rw [upd_ne this]; exact q2, q3⟩
    | tks ks =>
      obtain ⟨q, xs, rfl, q0, q1, q2, q3⟩ := h2
      have : q ≠ p := fun z => by
        subst z
        exact hT i ks e h1
      exact ⟨q, xs, rfl, q0, q1, by rw [upd_ne this]; exact q2, q3⟩
theorem sim_lc {K : Frag} {wi : TI} {di : RL} {g : TG} {dg : RG} {tt : TT} {dt : RT} {te : TE} {de : RE} (hi : SimIc K wi di) (hg : SimGw K vs g dg) (ht : SimT K tt dt) (he : SimE K te de) :
    SimL K (tLc wi g tt te vs) (lComp di dg dt de vs) := fun B F H ρ σ E q hq Q k => hi B F H ρ σ E _ hq _ fun J items F1 H1 g1 it z D hD => by
  obtain ⟨⟨hsz⟩, z⟩ := z
  have E1 := E.grow g1
  have fD : F1 D = none := g1.fh.free hD
  have bD : B D = none := E1.bh.free hD
  have nD : ∀ (j : Nat) a, ρ[j]? = some (some (.own a)) → σ[j]? ≠ some (some (.ref D)) := fun j a e w => by
    obtain ⟨v, h1, p, us, rfl, _, _, f2, _⟩ := E1.at' j _ e
    rw [h1] at w
    cases w
    rw [hD] at f2
    cases f2
  have nT : ∀ (j : Nat) a, ρ[j]? = some (some (.tks a)) → σ[j]? ≠ some (some (.ref D)) := fun j a e w => by
    obtain ⟨v, h1, p, _, rfl, _, _, f2, _⟩ := E1.at' j _ e
    rw [h1] at w
    cases w
    rw [hD] at f2
    cases f2
  refine ⟨fun i m H2 => m = items.length - i ∧ i ≤ items.length ∧ ∃ F2 acc ads, Gr F1 H1 F2 H2 ∧ EnvOk K B F2 H2 ρ σ ∧ F2 D = none ∧ H2 D = some (.lst acc) ∧ acc.length ≤ i ∧ DpAll K F2 acc ads ∧ lcD dg dt de vs (items.drop i) ρ fun xs => q (ads ++ xs),
    ⟨items.length, by simp, Nat.zero_le _, F1, [], [], Gr.newO g1.fh hD, E1.grow (Gr.newO g1.fh hD), fD, upd_same, Nat.le_refl _, .nil, by simpa using z⟩, ?_⟩
  rintro i m H2 ⟨rfl, hi', F2, acc, ads, gr, E2, f2, h2, hl, ha, hz⟩
  obtain ⟨go, stop⟩ := it F2 H2 gr.ff gr.hh gr.fh i
  by_cases hlt : i < items.length
  · obtain ⟨go, yl⟩ := go hlt
    refine .inr ⟨go, fun H' => ∃ F2 acc ads, Gr F1 H1 F2 H' ∧ EnvOk K B F2 H' ρ σ ∧ F2 D = none ∧ H' D = some (.lst acc) ∧ acc.length ≤ i + 1 ∧ DpAll K F2 acc ads ∧ lcD dg dt de vs (items.drop (i + 1)) ρ fun xs => q (ads ++ xs),
      fun H' h => ⟨_, by omega, rfl, hlt, h⟩, fun x H3 y => ?_⟩
    obtain ⟨F3, gr3, d, hd, r⟩ := yl x H3 y
    have ed : items.drop i = d :: items.drop (i + 1) := by
      have e2 : items[i] = d := Option.some.inj ((List.getElem?_eq_getElem hlt).symm.trans hd)
      rw [← e2]
      exact List.drop_eq_getElem_cons hlt
    rw [ed] at hz
    have E3 := E2.grow gr3
    refine hg B F3 H3 (wipeD ρ vs) (wipe σ vs) x d (E3.wiped vs) r _ hz _ fun ρ4 σ4 E4 w4 z4 => ⟨?_, ?_⟩
    · rw [w4]
      have idem : ∀ (σ : L2.St) (us : List Nat), (∀ v ∈ vs, v ∈ us) → wipe (wipe σ vs) us = wipe σ us := fun σ us hs => by
        have : ∀ ws : List Nat, (∀ v ∈ ws, v ∈ us) → wipe (wipe σ ws) us = wipe σ us := by
          intro ws
          induction ws with
          | nil => intro _; rfl
          | cons w ws ih =>
            intro h
            show wipe ((wipe σ ws).set w none) us = _
            rw [wipe_set (h w List.mem_cons_self)]
            exact ih fun v hv => h v (List.mem_cons_of_mem _ hv)
        exact this vs hs
      exact idem σ vs fun v hv => hv
    · refine ht B F3 H3 ρ4 σ4 E4 _ z4 _ fun b F5 H5 gr5 z5 => ?_
      have gA := gr3.trans gr5
      have D5 : H5 D = some (.lst acc) := gA.hh D _ h2
      have f5 : F5 D = none := gA.own D f2 (by rw [h2]; trivial)
      cases b with
      | true =>
        refine he B F5 H5 ρ4 σ4 (E4.grow gr5) _ (z5.1 rfl) _ fun y dy F6 H6 gr6 r6 z6 => ?_
        have gB := gA.trans gr6
        have D6 : H6 D = some (.lst acc) := gr6.hh D _ D5
        have f6 : F6 D = none := gr6.own D f5 (by rw [D5]; trivial)
        refine ⟨acc, D6, by omega, F6, acc ++ [y], ads ++ [dy], ?_, (E2.grow gB).other bD f6 nD nT, f6, upd_same, by rw [List.length_append]; simp; omega, (ha.mono gB.ff).append (.cons r6 .nil), ?_⟩
        · have gC := gr.trans gB
          refine ⟨gC.ff, fun b u e => ?_, fun b u e => ?_, gC.own⟩
          · rw [upd_ne (ne_of_none e hD)]
            exact gC.hh b u e
          · rw [upd_ne (ne_of_none e f6)]
            exact gC.fh b u e
        · have e3 : (fun xs => q (ads ++ [dy] ++ xs)) = fun xs => q (ads ++ (dy :: xs)) := by
            funext xs
            rw [List.append_assoc]
            rfl
          rw [e3]
          exact z6
      | false =>
        exact ⟨F5, acc, ads, gr.trans gA, E2.grow gA, f5, D5, by omega, ha.mono gA.ff, z5.2 rfl⟩
  · have e : i = items.length := by omega
    refine .inl ⟨stop (by omega), ?_⟩
    rw [e, List.drop_length] at hz
    have hz : q (ads ++ []) := hz
    rw [List.append_nil] at hz
    exact k D acc ads F2 H2 (g1.trans gr) (g1.hh.free hD) f2 h2 ha hz
variable {elt tg iter : Expr} {ifs : List Expr} {own : List (Str × Nat)} {di : RL} {dg : RG} {dt : RT} {de : RE}
/-- [elt for tg in iter if ..] -/
theorem dl_lc (hN : X.N.Nodup) (hi : DIc X tg iter di) (hg : DGw X scope (own.map (·.2)) tg dg) (ht : DPTs X scope ifs dt) (he : ∀ s H C cl fp, DE (BX X scope s H C cl fp) elt de)
    (ok : BlkOk X.N X.env.scope scope own := by exact blkOk_by (by first | decide +kernel | kernel_rfl)) (hc : X.calm = true := by rfl) (hs : ∀ x, foldedSetIterable iter X.env x = pure x := by intro _; rfl) :
    DLs X (.ListComp elt [⟨tg, iter, ifs, 0⟩] scope pos) (lComp di dg dt de (own.map (·.2))) := by
  obtain ⟨wi, i1, i2⟩ := hi
  obtain ⟨g, g1, g2⟩ := hg
  obtain ⟨tt, t1, t2⟩ := ht
  exact ⟨_, pe_lc (te := canE X.K de) hc hN i1 ok g1 t1 (fun s H C cl fp => (he s H C cl fp).can) hs, sim_lc i2 g2 t2 sim_canE⟩
/-- y = [..], of one's own -/
theorem st_lcL {i : Nat} {y : Str} {py spos : Pos} (hN : X.N.Nodup) (hi : DIc X tg iter di) (hg : DGw X scope (own.map (·.2)) tg dg) (ht : DPTs X scope ifs dt) (he : ∀ s H C cl fp, DE (BX X scope s H C cl fp) elt de)
    (hsw : swapsWith (.ListComp elt [⟨tg, iter, ifs, 0⟩] scope pos) (some (.Name y py)) spos.line X.env = pure true)
    (ok : BlkOk X.N X.env.scope scope own := by exact blkOk_by (by first | decide +kernel | kernel_rfl)) (hy : X.N[i]? = some y := by rfl) (hyl : X.env.scope.names.lookup y = some .local := by rfl) (hc : X.calm = true := by rfl) (hs : ∀ x, foldedSetIterable iter X.env x = pure x := by intro _; rfl) :
    DS X (.Assign [.Name y py] (.ListComp elt [⟨tg, iter, ifs, 0⟩] scope pos) spos) (sSetL i (lComp di dg dt de (own.map (·.2)))) := by
  obtain ⟨wi, i1, i2⟩ := hi
  obtain ⟨g, g1, g2⟩ := hg
  obtain ⟨tt, t1, t2⟩ := ht
  refine ⟨_, ps_setLc (te := canE X.K de) hc hN hy hyl hsw i1 ok g1 t1 (fun s H C cl fp => (he s H C cl fp).can) hs, fun F0 B F H ρ σ s E DD h D k => ?_⟩
  exact sim_lc i2 g2 t2 sim_canE B F H ρ σ E _ h _ fun p us ds F' H' g hp hf hh ha z => k.nx F' H' _ _ (s.to g) (own_new E g i hp hf hh ha) z
/-- y = [..], as data -/
theorem st_lc {i : Nat} {y : Str} {py spos : Pos} (hN : X.N.Nodup) (hi : DIc X tg iter di) (hg : DGw X scope (own.map (·.2)) tg dg) (ht : DPTs X scope ifs dt) (he : ∀ s H C cl fp, DE (BX X scope s H C cl fp) elt de)
    (hsw : swapsWith (.ListComp elt [⟨tg, iter, ifs, 0⟩] scope pos) (some (.Name y py)) spos.line X.env = pure true)
    (ok : BlkOk X.N X.env.scope scope own := by exact blkOk_by (by first | decide +kernel | kernel_rfl)) (hy : X.N[i]? = some y := by rfl) (hyl : X.env.scope.names.lookup y = some .local := by rfl) (hc : X.calm = true := by rfl) (hs : ∀ x, foldedSetIterable iter X.env x = pure x := by intro _; rfl) :
    DS X (.Assign [.Name y py] (.ListComp elt [⟨tg, iter, ifs, 0⟩] scope pos) spos) (sSet i (dLst (lComp di dg dt de (own.map (·.2))))) := by
  obtain ⟨t, a1, a2⟩ := st_lcL (i := i) (y := y) (py := py) (spos := spos) hN hi hg ht he hsw ok hy hyl hc hs
  obtain ⟨wi, i1, i2⟩ := hi
  obtain ⟨g, g1, g2⟩ := hg
  obtain ⟨tt, t1, t2⟩ := ht
  refine ⟨_, ps_setLc (te := canE X.K de) hc hN hy hyl hsw i1 ok g1 t1 (fun s H C cl fp => (he s H C cl fp).can) hs, fun F0 B F H ρ σ s E DD h D k => ?_⟩
  refine sim_lc i2 g2 t2 sim_canE B F H ρ σ E _ h _ fun p us ds F' H' g hp hf hh ha z => ?_
  have gf := gr_frz g hp hf hh
  exact k.nx _ H' _ _ (s.to gf) ((E.grow gf).set i (.lst (.inl (.inl upd_same)) (ha.mono (same_new hf)))) z
end

/-! ### defs -/
/-- a def's promise over data: f tells, for the arguments, what is wanted -/
abbrev FD := List D → (DV → Prop) → Prop
def SpD (K : Frag) (n : Nat) (f : FD) : Sp := fun vs H Q _ => ∃ F ds q, Same F H ∧ vs.length = n ∧ DpAll K F vs ds ∧ f ds q ∧ ∀ r, q r → ∀ v F' H', Gr F H F' H' → ResF K H F' H' v r → Q v H'
def startD (n : Nat) (ds : List D) : Rho := ds.map (fun d => some (.val d)) ++ List.replicate (n - ds.length) none
/-- a body's reading as a def's promise -/
def bodyD (n : Nat) (body : RS) : FD := fun ds q => body { nx := fun _ => q (.val .none), rt := q } (startD n ds)
theorem env_start {K : Frag} {F H : Hp} {N : List Str} {vs : List V} {ds : List D} (fh : Same F H) (h : DpAll K F vs ds) : EnvOk K H F H (startD N.length ds) (L2.start N vs) := by
  have hl := h.length
  have gt : ∀ (i : Nat) dv, (startD N.length ds)[i]? = some (some dv) → ∃ d, ds[i]? = some d ∧ dv = .val d := fun i dv e => by
    unfold startD at e
    by_cases hi : i < ds.length
    · rw [List.getElem?_append_left (by simpa using hi), List.getElem?_map, List.getElem?_eq_getElem hi] at e
      exact ⟨_, List.getElem?_eq_getElem hi, by simpa using e.symm⟩
    · rw [List.getElem?_append_right (by simpa using hi), List.getElem?_replicate] at e
      split at e <;> cases e
  refine ⟨fh, Same.refl H, ?_, fun i dv e => ?_, fun i j p a b _ e _ _ => ?_, fun i j p a b _ e _ _ => ?_⟩
  · unfold startD L2.start
    rw [List.length_append, List.length_append, List.length_map, List.length_map, List.length_replicate, List.length_replicate, hl]
  · obtain ⟨d, h1, rfl⟩ := gt i dv e
    obtain ⟨v, hv, r⟩ := h.get h1
    refine ⟨v, ?_, r⟩
    unfold L2.start
    have hi : i < vs.length := (List.getElem?_eq_some_iff.mp hv).1
    rw [List.getElem?_append_left (by simpa using hi), List.getElem?_map, hv]
    rfl
  · obtain ⟨d, _, z⟩ := gt i _ e
    cases z
  · obtain ⟨d, _, z⟩ := gt i _ e
    cases z
section
variable {P : Program} {w : World} {K : Frag} {mg : Str → Option Value} {base : Heap}
/-- THE RULE: a def by its body's reading -/
theorem fnD {x qual : Str} {st : Stmt} {f : Addr} {fd : FuncData} {N ps : List Str} {k : Nat} {g : FD} (F : Fun K x qual st f fd) (S : FnScope N ps (defScope st))
    (hbody : ∀ (cdv : Value) (A : Around) (outer : List Env) (s : Shared) (H : Hp) (E : XK), (A.deeper (envOfC qual (defScope st) s.heap.objs.size f cdv)).guards = some [] → Room k (A.deeper (envOfC qual (defScope st) s.heap.objs.size f cdv)) →
      ∃ body, DSs (cxOf CX0 P w K mg base N qual (defScope st) f cdv A outer s H E).nox (defBody st) body ∧ ∀ ds q, ds.length = ps.length → g ds q → bodyD N.length body ds q) : FnG P w K mg base (k + 1) f fd ps (SpD K ps.length g) := by
  refine Fun.okG F S (fun vs H Q E h => ?_) (fun cdv A outer s H vs Q E gA hr h => ?_)
  · obtain ⟨F, ds, q, _, hl, _⟩ := h
    exact hl
  · obtain ⟨F0, ds, q0, fh, hl, hd, hg, hq⟩ := h
    obtain ⟨body, ⟨t, h1, h2⟩, h3⟩ := hbody cdv A outer s H E gA hr
    refine ⟨t, h1, ?_⟩
    have ln : ds.length = ps.length := by rw [← hd.length]; exact hl
    exact h2 F0 H F0 H (startD N.length ds) (L2.start N vs) (Gr.refl fh) (env_start fh hd) _ (h3 ds _ ln hg) _ ⟨fun F' H' ρ σ s E q => hq _ q .non F' H' s .non, fun v r F' H' s rr z => hq r z v F' H' s rr, fun _ _ _ _ _ _ z => z.elim, fun _ _ _ _ _ _ z => z.elim⟩
end
section
variable {X : Cx} {k : Nat} {f : Addr} {fd : FuncData} {ps : List Str} {x : Str} {p pos : Pos} {e : Expr} {es : List Expr} {da : RL} {g : FD}
def valD : DV → D
  | .val d => d
  | .own ds => .list ds
  | .tks _ => .none
/-- f(..): data -/
def dFn (g : FD) (da : RL) : RE := fun ρ q => da ρ fun xs => g xs fun r => q (valD r)
/-- f(..): a new list -/
def lFn (g : FD) (da : RL) : RL := fun ρ q => da ρ fun xs => g xs fun r => match r with | .own ds => q ds | _ => False
theorem sim_fn {K : Frag} {ta : TA} {n : Nat} (ha : SimA K n ta da) : SimE K (tCall (SpD K n g) [] (fun _ _ _ => False) ta) (dFn g da) := fun B F H ρ σ Ev q hq Q k =>
  ha B F H ρ σ Ev _ hq _ fun vs ds F1 H1 g1 r ln z => by
    refine ⟨F1, ds, _, g1.fh, by rw [List.append_nil, r.length, ln], by rw [List.append_nil]; exact r, z, fun r' qr v F2 H2 g2 rr => ?_⟩
    cases r' with
    | val d => exact k v d F2 H2 (g1.trans g2) rr qr
    | own ds' =>
      obtain ⟨p, us, rfl, hb, hf, hh, ha'⟩ := rr
      have gf := gr_frz g2 hb hf hh
      exact k (.ref p) (.list ds') _ H2 (g1.trans gf) (.lst (.inl (.inl upd_same)) (ha'.mono (same_new hf))) qr
    | tks ks => exact rr.elim
theorem sim_fnL {K : Frag} {ta : TA} {n : Nat} (ha : SimA K n ta da) : SimL K (tCall (SpD K n g) [] (fun _ _ _ => False) ta) (lFn g da) := fun B F H ρ σ Ev q hq Q k =>
  ha B F H ρ σ Ev _ hq _ fun vs ds F1 H1 g1 r ln z => by
    refine ⟨F1, ds, _, g1.fh, by rw [List.append_nil, r.length, ln], by rw [List.append_nil]; exact r, z, fun r' qr v F2 H2 g2 rr => ?_⟩
    cases r' with
    | val d => exact qr.elim
    | own ds' =>
      obtain ⟨p, us, rfl, hb, hf, hh, ha'⟩ := rr
      exact k p us ds' F2 H2 (g1.trans g2) (g1.hh.free hb) hf hh ha' qr
    | tks ks => exact rr.elim
/-- f(e, ..), f a def -/
theorem de_fn (G : FnG X.prog X.w X.K X.mg X.base k f fd ps (SpD X.K (e :: es).length g)) (gA : X.A.guards = some []) (hr : Room k X.A) (hm : X.mg x = some (.ref f)) (hk : PySem.W.keepIn X.K (.ref f) = true) (hb : Binds X.K fd ps []) (ha : DA X (e :: es) da) (hg : Gl X x := by rfl)
    (hdb : (x == ("__debug__" : Str)) = false := by decide) (he : starEach (e :: es) X.env = (false, eval e X.env) :: starEach es X.env := by rfl) (hpl : (backTo pos (starEach es X.env)).any (·.1) = false := by rfl) : DE X (.Call (.Name x p) (e :: es) [] pos) (dFn g da) := by
  obtain ⟨ta, a1, a2⟩ := ha
  exact ⟨_, pe_callG G gA hr hg hm hk hb a1 hdb he hpl, sim_fn a2⟩
theorem dl_fn (G : FnG X.prog X.w X.K X.mg X.base k f fd ps (SpD X.K (e :: es).length g)) (gA : X.A.guards = some []) (hr : Room k X.A) (hm : X.mg x = some (.ref f)) (hk : PySem.W.keepIn X.K (.ref f) = true) (hb : Binds X.K fd ps []) (ha : DA X (e :: es) da) (hg : Gl X x := by rfl)
    (hdb : (x == ("__debug__" : Str)) = false := by decide) (he : starEach (e :: es) X.env = (false, eval e X.env) :: starEach es X.env := by rfl) (hpl : (backTo pos (starEach es X.env)).any (·.1) = false := by rfl) : DLs X (.Call (.Name x p) (e :: es) [] pos) (lFn g da) := by
  obtain ⟨ta, a1, a2⟩ := ha
  exact ⟨_, pe_callG G gA hr hg hm hk hb a1 hdb he hpl, sim_fnL a2⟩
end
/-- a def that stands ready to be called: by its name x, its level k, its promise g -/
structure Ready (P : Program) (w : World) (K : Frag) (mg : Str → Option Value) (base : Heap) (x : Str) (n k : Nat) (g : FD) : Prop where
  ex : ∃ f fd ps, FnG P w K mg base k f fd ps (SpD K n g) ∧ mg x = some (.ref f) ∧ PySem.W.keepIn K (.ref f) = true ∧ Binds K fd ps []
section
variable {X : Cx} {k : Nat} {x : Str} {p pos : Pos} {e : Expr} {es : List Expr} {da : RL} {g : FD}
theorem Ready.toE (G : Ready X.prog X.w X.K X.mg X.base x (e :: es).length k g) (gA : X.A.guards = some []) (hr : Room k X.A) (ha : DA X (e :: es) da) (hg : Gl X x := by rfl)
    (hdb : (x == ("__debug__" : Str)) = false := by decide) (he : starEach (e :: es) X.env = (false, eval e X.env) :: starEach es X.env := by rfl) (hpl : (backTo pos (starEach es X.env)).any (·.1) = false := by rfl) : DE X (.Call (.Name x p) (e :: es) [] pos) (dFn g da) := by
  obtain ⟨f, fd, ps, G1, hm, hk, hb⟩ := G.ex
  exact de_fn G1 gA hr hm hk hb ha hg hdb he hpl
theorem Ready.toL (G : Ready X.prog X.w X.K X.mg X.base x (e :: es).length k g) (gA : X.A.guards = some []) (hr : Room k X.A) (ha : DA X (e :: es) da) (hg : Gl X x := by rfl)
    (hdb : (x == ("__debug__" : Str)) = false := by decide) (he : starEach (e :: es) X.env = (false, eval e X.env) :: starEach es X.env := by rfl) (hpl : (backTo pos (starEach es X.env)).any (·.1) = false := by rfl) : DLs X (.Call (.Name x p) (e :: es) [] pos) (lFn g da) := by
  obtain ⟨f, fd, ps, G1, hm, hk, hb⟩ := G.ex
  exact dl_fn G1 gA hr hm hk hb ha hg hdb he hpl
end
theorem Ready.mono {P : Program} {w : World} {K : Frag} {mg : Str → Option Value} {base : Heap} {x : Str} {n k j : Nat} {g : FD} (G : Ready P w K mg base x n k g) (h : k ≤ j) : Ready P w K mg base x n j g := by
  obtain ⟨f, fd, ps, G1, hm, hk, hb⟩ := G.ex
  exact ⟨f, fd, ps, G1.mono h, hm, hk, hb⟩
end DL

namespace DL
open PySem PySem.Spec PyProof.Rows L2

/-! ### the law's end -/
theorem dp_ints {K : Frag} {H : Hp} : ∀ ns : List Int, DpAll K H (ns.map V.int) (ns.map PyData.int)
  | [] => .nil
  | n :: ns => .cons (.int n) (dp_ints ns)
/-- the heap in which nothing but the script may be tracked -/
theorem script_heap {K : Frag} {s : Shared} {P : Program} {w : World} {a : Addr} {vs : List Value} {ns : List Int} (KX : K.In s.heap)
    (ha : s.heap.get? a = some { cls := .type "list", data := .seq vs.toArray }) (rv : Vals (ns.map V.int) vs) (hl : ns.length ≤ sizeLine) :
    ∃ H : Hp, Only H ∧ SqL K H a (ns.map V.int) ∧ HOk P w H s.heap ∧ (∀ b, H b ≠ none → b = a ∧ K.lookup a = none) := by
  have lv : vs.length = ns.length := by rw [← rv.length, List.length_map]
  by_cases hk : ∃ o, K.lookup a = some o
  · obtain ⟨o, hk⟩ := hk
    obtain rfl := Option.some.inj (ha.symm.trans (KX a o hk))
    have no : ∀ b, (fun _ => none : Hp) b = none := fun _ => rfl
    refine ⟨fun _ => none, fun b => .inl rfl, .inr ⟨_, vs.toArray, _, hk, rfl, rfl, rfl, ?_, by simpa using rv⟩, fun b u z => (show False from (nomatch (show (none : Option HO) = some u from z))).elim, fun b z => (z rfl).elim⟩
    simpa [lv] using hl
  · have hk : K.lookup a = none := by
      cases q : K.lookup a with
      | none => rfl
      | some o => exact (hk ⟨o, q⟩).elim
    let ob : Obj := { cls := .type "list", data := .seq vs.toArray }
    let H : Hp := upd (fun _ => none) a (.frz ob (.lst (ns.map V.int)))
    have at_a : H a = some (.frz ob (.lst (ns.map V.int))) := upd_same
    have off : ∀ b, b ≠ a → H b = none := fun b h => upd_ne h
    have here : ∀ {b : Addr}, H b ≠ none → b = a := fun {b} z => Classical.byContradiction fun n => z (off b n)
    refine ⟨H, fun b => ?_, .inl (.inr ⟨ob, at_a⟩), fun b u z => ?_, fun b z => ⟨here z, hk⟩⟩
    · by_cases e : b = a
      · exact .inr ⟨ob, _, by rw [e]; exact at_a⟩
      · exact .inl (off b e)
    · obtain rfl := here (b := b) (by rw [z]; simp)
      obtain rfl := Option.some.inj (at_a.symm.trans z)
      exact ⟨ha, by rw [List.length_map]; exact hl, vs, _, rv, ha⟩
theorem law_callG {P : Program} {w : World} {K : Frag} {mg mb : Str → Option Value} {k : Nat} {fa a : Addr} {fd : FuncData} {x : Str} {g : FD} {s : Shared} {vs : List Value} {ns : List Int}
    (KX : K.In s.heap) (nm : s.heap.Ns mainGlobals mg) (nb : s.heap.Ns builtinsNs mb) (bb : ∀ x : Str, x ≠ "__name__" → mb x = bootBuiltins x) (lim : s.heap.NoLimit) (dig : s.heap.NoDigits) (ng : s.gens = #[])
    (ha : s.heap.get? a = some { cls := .type "list", data := .seq vs.toArray }) (hi : IntsAre vs ns) (hl : ns.length ≤ sizeLine) (room : Room k callerA)
    (F : ∀ base : Heap, K.In base → base.Ns mainGlobals mg → base.NoDigits → FnG P w K mg base k fa fd [x] (SpD K 1 g)) (hb : ∀ (s : Shared) (u : Value), BindsTo s fd ⟨[u], []⟩ [(x, u)]) (hg : g [.list (ns.map .int)] fun r => r = .val (.bool true)) :
    codeAny (model P w) callerA (.call (.ref fa) ⟨[.ref a], []⟩) (fun r s' => r = .ok (.ret (.bool true)) ∧ OldK s.heap s'.heap ∧ s'.os = s.os ∧ AllBare s'.gens) s := by
  obtain ⟨H, only, seq, hok, one⟩ := script_heap (P := P) (w := w) KX ha (vals_ints hi) hl
  have tracked : ∀ {b : Addr} {o : Obj}, s.heap.get? b = some o → (H b ≠ none → False) → (hidT s.heap H).get? b = some o := fun {b o} e n => hidT_get e (Classical.byContradiction n)
  have ns' : ∀ {b : Addr} {m : Str → Option Value}, s.heap.Ns b m → (hidT s.heap H).Ns b m := by
    rintro b m ⟨o, es, ep, e, d, r⟩
    refine ⟨o, es, ep, tracked e fun z => ?_, d, r⟩
    obtain ⟨rfl, _⟩ := one b z
    obtain rfl := Option.some.inj (ha.symm.trans e)
    exact nomatch d
  have inK : K.In (hidT s.heap H) := fun b o e => tracked (KX b o e) fun z => by
    obtain ⟨rfl, q⟩ := one b z
    rw [q] at e
    cases e
  obtain ⟨mc, l1, l2⟩ := lim
  obtain ⟨md, d1, d2⟩ := dig
  have e0 : Env0 P w K mg (hidT s.heap H) callerA [] s H :=
    ⟨rfl, ⟨inK, ns' nm, ⟨mb, ns' nb, bb⟩, ⟨mc, ns' l1, l2⟩⟩, fun b o e => of_hidT e, Nat.le_of_eq (hidT_size _ _), trivial, fun b z => absurd (show b ∈ ([] : List Addr) from z) (by simp), hok, .of_eq ng⟩
  have call : SpD K 1 g [.ref a] H (fun v _ => v = .bl true) fun _ _ _ => False := by
    refine ⟨H, [.list (ns.map .int)], _, Same.refl H, rfl, .cons (.lst seq (dp_ints ns)) .nil, hg, ?_⟩
    rintro r rfl v F' H' _ z
    cases z
    rfl
  refine codeAny_mono ((F _ inK (ns' nm) ⟨md, ns' d1, d2⟩).run callerA [] s H ⟨[.ref a], []⟩ [.ref a] [.ref a] _ _ rfl room e0 (hb s (.ref a)) (.cons rfl .nil) call) ?_
  intro r s' h
  match r, h with
  | .error e, h => exact h.elim
  | .ok (.ret u), h =>
    obtain ⟨v, H', os, bare, un, hok', ru, qv⟩ := h
    obtain rfl : v = V.bl true := qv
    obtain rfl : u = Value.bool true := ru
    refine ⟨rfl, .of_keep fun b o e => ?_, os, bare⟩
    rcases only b with z | ⟨ob, xs, z⟩
    · exact un.keep b o e z (fun q => nomatch (show b ∈ ([] : List Addr) from q)) (by simp)
    · have old := (hok b _ z).1
      obtain rfl := Option.some.inj (old.symm.trans e)
      exact (hok' b _ (un.frzs b ob _ z)).1
theorem walk_G {l : PySem.W.OpenLaw} {n k : Nat} {q : Program} {loose : List Str} {XP : (Str → Option Value) → Heap → Prop} {YP : World → Heap → Prop} {d : DefRec} {K : Params → Frag} {g : FD} {x : Str}
    (hn : l.most = some n) (hn2 : n ≤ sizeLine) (hdf : d.params.defaults = []) (room : Room k callerA) (hY : ∀ (w : World) (h : Heap), YP w h → (K w.params).In h)
    (F : ∀ (w : World) (mg : Str → Option Value) (fa : Addr) (h : Heap), (K w.params).In h → h.Ns mainGlobals mg → mg d.name = some (.ref fa) →
      ∃ fd : FuncData, (∀ (s : Shared) (u : Value), BindsTo s fd ⟨[u], []⟩ [(x, u)]) ∧ ∀ base : Heap, (K w.params).In base → base.Ns mainGlobals mg → base.NoDigits → FnG l.prog w (K w.params) mg base k fa fd [x] (SpD (K w.params) 1 g))
    (hg : ∀ ns : List Int, ns.length ≤ n → (∀ i ∈ ns, Builtin.Int.intBits i ≤ 1048576) → g [.list (ns.map .int)] fun r => r = .val (.bool true)) :
    PySem.W.WalkO q loose XP YP l.row.toRowW d [] (fun f vs => PySem.call f vs) := by
  refine Att.attach_callB hn hdf fun w s₀ s₁ mg mb fa o pm cd doc a vs ns G Y ho hd hcd hmg hobj hints hlen hbits hng => ?_
  obtain ⟨fd, b1, b2⟩ := F w mg fa _ (hY w _ Y) G.T.g hmg
  exact law_callG (hY w _ Y) G.T.g G.T.b G.T.builtins G.T.nolimit G.T.nodigits hng hobj hints (Nat.le_trans hlen hn2) room b2 b1 (hg ns hlen hbits)
end DL

namespace DL
open PySem PySem.Spec PyProof.Rows L2 Builtin.Int

/-! ### rules for bodies -/
theorem sq_i {t u : RS} {DD : DEnds} {ρ : Rho} (h : ∀ k, k = u DD → t { DD with nx := k } ρ) : sSeq t u DD ρ := by rw [sSeq_c]; exact h _ rfl
theorem if_in {c : RT} {t u : RS} {DD : DEnds} {ρ : Rho} (h : ∀ T U : Prop, T = t DD ρ → U = u DD ρ → c ρ fun b => (b = true → T) ∧ (b = false → U)) : sIf c t u DD ρ := h _ _ rfl rfl
theorem if_n {c : RT} {t : RS} {DD : DEnds} {ρ : Rho} (h : ∀ T : Prop, T = t DD ρ → c ρ fun b => (b = true → T) ∧ (b = false → DD.nx ρ)) : sIf c t sNext DD ρ := h _ rfl
theorem for_in {di : RL} {g : RG} {b : RS} {DD : DEnds} {ρ : Rho} (h : ∀ (W : List D → Prop), (W = fun items => forD g b DD items ρ) → di ρ W) : sFor di g b DD ρ := h _ rfl
/-- a for: P i tells the names' values before the item at i -/
theorem for_ix {g : RG} {body : RS} {DD : DEnds} (P : Nat → Rho → Prop) (xs : List D) {ρ : Rho} (h0 : P 0 ρ) (hn : ∀ ρ, P xs.length ρ → DD.nx ρ)
    (hs : ∀ (i : Nat) (d : D) (ρ : Rho), xs[i]? = some d → P i ρ → ∀ k : Rho → Prop, (∀ ρ', P (i + 1) ρ' → k ρ') → g d ρ fun ρ1 => body { DD with nx := k, ct := k, bk := DD.nx } ρ1) : forD g body DD xs ρ := by
  have : ∀ (r : List D) (i : Nat) (ρ : Rho), xs.drop i = r → i ≤ xs.length → P i ρ → forD g body DD r ρ := by
    intro r
    induction r with
    | nil =>
      intro i ρ e hi h
      have : i = xs.length := by
        have := congrArg List.length e
        simp at this
        omega
      subst this
      exact hn ρ h
    | cons d r ih =>
      intro i ρ e hi h
      have hlt : i < xs.length := by
        have := congrArg List.length e
        simp at this
        omega
      have e2 := (List.drop_eq_getElem_cons hlt).symm.trans e
      obtain ⟨e3, e4⟩ := List.cons.inj e2
      refine hs i d ρ (by rw [List.getElem?_eq_getElem hlt, e3]) h _ fun ρ' h' => ?_
      exact ih (i + 1) ρ' e4 hlt h'
  exact this xs 0 ρ rfl (Nat.zero_le _) h0
/-- over what remains: xs.map emb -/
theorem for_map {α : Type} {emb : α → D} {g : RG} {body : RS} {DD : DEnds} (P : List α → Rho → Prop) (xs : List α) {ρ : Rho} (h0 : P xs ρ) (hn : ∀ ρ, P [] ρ → DD.nx ρ)
    (hs : ∀ (a : α) (r : List α) (ρ : Rho), P (a :: r) ρ → ∀ k : Rho → Prop, (∀ ρ', P r ρ' → k ρ') → g (emb a) ρ fun ρ1 => body { DD with nx := k, ct := k, bk := DD.nx } ρ1) : forD g body DD (xs.map emb) ρ := by
  induction xs generalizing ρ with
  | nil => exact hn ρ h0
  | cons a r ih => exact hs a r ρ h0 _ fun ρ' h' => ih h'
/-- over range -/
theorem for_up {g : RG} {body : RS} {DD : DEnds} (P : Nat → Rho → Prop) (lo : Int) (n : Nat) {ρ : Rho} (h0 : P 0 ρ) (hn : ∀ ρ, P n ρ → DD.nx ρ)
    (hs : ∀ (i : Nat) (ρ : Rho), i < n → P i ρ → ∀ k : Rho → Prop, (∀ ρ', P (i + 1) ρ' → k ρ') → g (.int (lo + i)) ρ fun ρ1 => body { DD with nx := k, ct := k, bk := DD.nx } ρ1) : forD g body DD (upTo lo n) ρ := by
  refine for_ix P _ h0 (fun ρ h => hn ρ (by rwa [upTo_length] at h)) fun i d ρ e h k hk => ?_
  have hi : i < n := by
    have := (List.getElem?_eq_some_iff.mp e).1
    rwa [upTo_length] at this
  rw [upTo_get lo n i hi] at e
  cases e
  exact hs i ρ hi h k hk
/-- a while: P m tells the names' values, m falls -/
theorem while_m {c : RT} {body : RS} {DD : DEnds} {ρ : Rho} (P : Nat → Rho → Prop) (m0 : Nat) (h0 : P m0 ρ)
    (hs : ∀ m ρ, P m ρ → c ρ fun b => (b = true → ∀ k : Rho → Prop, (∀ m' ρ', m' < m → P m' ρ' → k ρ') → body { DD with nx := k, ct := k, bk := DD.nx } ρ) ∧ (b = false → DD.nx ρ))
    (mono : ∀ (ρ : Rho) (q q' : Bool → Prop), (∀ b, q b → q' b) → c ρ q → c ρ q') : sWhile c body DD ρ :=
  ⟨P, ⟨m0, h0⟩, fun m ρ h => mono ρ _ _ (fun b hb => ⟨fun e => hb.1 e _ fun m' ρ' h1 h2 => ⟨m', h1, h2⟩, hb.2⟩) (hs m ρ h)⟩
theorem while_i {c : RT} {body : RS} {DD : DEnds} {ρ : Rho} (P : Nat → Rho → Prop) (m0 : Nat) (h0 : P m0 ρ)
    (hs : ∀ m ρ, P m ρ → ∀ k : Rho → Prop, k = (fun ρ' => ∃ m', m' < m ∧ P m' ρ') → c ρ fun b => (b = true → body { DD with nx := k, ct := k, bk := DD.nx } ρ) ∧ (b = false → DD.nx ρ)) : sWhile c body DD ρ :=
  ⟨P, ⟨m0, h0⟩, fun m ρ h => hs m ρ h _ rfl⟩
/-- a comprehension without test -/
theorem lc_map {g : RG} {tt : RT} {de : RE} {vs : List Nat} {ρ : Rho} {q : List D → Prop} {α : Type} {emb : α → D} {P : α → D → Prop} (xs : List α)
    (hs : ∀ a ∈ xs, ∀ q : D → Prop, (∀ d, P a d → q d) → g (emb a) (wipeD ρ vs) fun ρ1 => tt ρ1 fun b => b = true ∧ de ρ1 q)
    (hq : ∀ ys : List D, ys.length = xs.length → (∀ (i : Nat) a d, xs[i]? = some a → ys[i]? = some d → P a d) → q ys)
    (mono : ∀ (d : D) (ρ : Rho) (q q' : Rho → Prop), (∀ ρ, q ρ → q' ρ) → g d ρ q → g d ρ q') (monot : ∀ (ρ : Rho) (q q' : Bool → Prop), (∀ b, q b → q' b) → tt ρ q → tt ρ q') : lcD g tt de vs (xs.map emb) ρ q := by
  induction xs generalizing q with
  | nil => exact hq [] rfl (by simp)
  | cons a r ih =>
    refine mono _ _ _ _ (fun ρ1 z => monot _ _ _ (fun b z => ⟨fun _ => z.2, fun e => absurd z.1 (by rw [e]; decide)⟩) z) (hs a List.mem_cons_self _ fun d hd => ?_)
    refine ih (fun a ha => hs a (List.mem_cons_of_mem _ ha)) fun ys h1 h2 => hq _ (by simp [h1]) fun i a' d' e1 e2 => ?_
    cases i with
    | zero => cases e1; cases e2; exact hd
    | succ i => exact h2 i a' d' (by simpa using e1) (by simpa using e2)

instance {i j : Int} : Decidable (PowOk i j) := decidable_of_iff (0 ≤ j ∧ j ≤ 1000000 ∧ i.natAbs < 2 ^ 64) ⟨fun h => ⟨h⟩, fun h => h.ok⟩
instance {i j : Int} : Decidable (ShlOk i j) := decidable_of_iff (0 ≤ j ∧ (Builtin.Int.intBits i : Int) + j ≤ 2 ^ 27) ⟨fun h => ⟨h⟩, fun h => h.ok⟩
theorem isTy_none_int : isTy .none "int" = false := by simp [isTy, tyD]
theorem isTy_none_bool : isTy .none "bool" = false := by simp [isTy, tyD]
theorem isTy_none_str : isTy .none "str" = false := by simp [isTy, tyD]
theorem isTy_none_list : isTy .none "list" = false := by simp [isTy, tyD]
theorem isTy_none_tuple : isTy .none "tuple" = false := by simp [isTy, tyD]
theorem isTy_bool_int {x : Bool} : isTy (.bool x) "int" = true := by simp [isTy, tyD]
theorem isTy_bool_bool {x : Bool} : isTy (.bool x) "bool" = true := by simp [isTy, tyD]
theorem isTy_bool_str {x : Bool} : isTy (.bool x) "str" = false := by simp [isTy, tyD]
theorem isTy_bool_list {x : Bool} : isTy (.bool x) "list" = false := by simp [isTy, tyD]
theorem isTy_bool_tuple {x : Bool} : isTy (.bool x) "tuple" = false := by simp [isTy, tyD]
theorem isTy_int_int {x : Int} : isTy (.int x) "int" = true := by simp [isTy, tyD]
theorem isTy_int_bool {x : Int} : isTy (.int x) "bool" = false := by simp [isTy, tyD]
theorem isTy_int_str {x : Int} : isTy (.int x) "str" = false := by simp [isTy, tyD]
theorem isTy_int_list {x : Int} : isTy (.int x) "list" = false := by simp [isTy, tyD]
theorem isTy_int_tuple {x : Int} : isTy (.int x) "tuple" = false := by simp [isTy, tyD]
theorem isTy_str_int {x : Str} : isTy (.str x) "int" = false := by simp [isTy, tyD]
theorem isTy_str_bool {x : Str} : isTy (.str x) "bool" = false := by simp [isTy, tyD]
theorem isTy_str_str {x : Str} : isTy (.str x) "str" = true := by simp [isTy, tyD]
theorem isTy_str_list {x : Str} : isTy (.str x) "list" = false := by simp [isTy, tyD]
theorem isTy_str_tuple {x : Str} : isTy (.str x) "tuple" = false := by simp [isTy, tyD]
theorem isTy_list_int {x : List D} : isTy (.list x) "int" = false := by simp [isTy, tyD]
theorem isTy_list_bool {x : List D} : isTy (.list x) "bool" = false := by simp [isTy, tyD]
theorem isTy_list_str {x : List D} : isTy (.list x) "str" = false := by simp [isTy, tyD]
theorem isTy_list_list {x : List D} : isTy (.list x) "list" = true := by simp [isTy, tyD]
theorem isTy_list_tuple {x : List D} : isTy (.list x) "tuple" = false := by simp [isTy, tyD]
theorem isTy_tuple_int {x : List D} : isTy (.tuple x) "int" = false := by simp [isTy, tyD]
theorem isTy_tuple_bool {x : List D} : isTy (.tuple x) "bool" = false := by simp [isTy, tyD]
theorem isTy_tuple_str {x : List D} : isTy (.tuple x) "str" = false := by simp [isTy, tyD]
theorem isTy_tuple_list {x : List D} : isTy (.tuple x) "list" = false := by simp [isTy, tyD]
theorem isTy_tuple_tuple {x : List D} : isTy (.tuple x) "tuple" = true := by simp [isTy, tyD]
theorem ix2_0 : ixN 2 0 = some 0 := rfl
theorem ix2_1 : ixN 2 1 = some 1 := rfl
/-! ### items of a list -/
theorem gIx_P {xs : List D} {i : Int} {q : D → Prop} (P : D → Prop) (h0 : 0 ≤ i) (h1 : i < xs.length) (hP : ∀ d, xs[i.toNat]? = some d → P d) (hq : ∀ d, P d → q d) : gIx (.list xs) (.int i) q := by
  obtain ⟨j, rfl⟩ : ∃ j : Nat, i = (j : Int) := ⟨i.toNat, by omega⟩
  have hj : j < xs.length := by omega
  simp only [Int.toNat_natCast] at hP
  have e : atI xs (j : Int) = some xs[j] := atI_nat (List.getElem?_eq_getElem hj)
  show (match atI xs (j : Int) with | some d => q d | none => False)
  rw [e]
  exact hq _ (hP _ (List.getElem?_eq_getElem hj))
theorem gIx_T {xs : List D} {i : Int} {q : D → Prop} (P : D → Prop) (h0 : 0 ≤ i) (h1 : i < xs.length) (hP : ∀ d, xs[i.toNat]? = some d → P d) (hq : ∀ d, P d → q d) : gIx (.tuple xs) (.int i) q := gIx_P P h0 h1 hP hq
theorem gIx_N {xs : List D} {j : Nat} {d : D} {q : D → Prop} (h : xs[j]? = some d) (hq : q d) : gIx (.list xs) (.int (j : Nat)) q := by
  show (match atI xs (j : Nat) with | some d => q d | none => False)
  rw [atI_nat h]
  exact hq
theorem gIx_NT {xs : List D} {j : Nat} {d : D} {q : D → Prop} (h : xs[j]? = some d) (hq : q d) : gIx (.tuple xs) (.int (j : Nat)) q := gIx_N (xs := xs) h hq
/-- a list of whole numbers -/
theorem gIx_ints {ns : List Int} {i : Int} {q : D → Prop} (P : Int → Prop) (h0 : 0 ≤ i) (h1 : i < ns.length) (hP : ∀ n, ns[i.toNat]? = some n → P n) (hq : ∀ n, P n → q (.int n)) : gIx (.list (ns.map .int)) (.int i) q := by
  refine gIx_P (fun d => ∃ n, d = .int n ∧ P n) h0 (by simpa using h1) (fun d e => ?_) fun d ⟨n, e, p⟩ => by rw [e]; exact hq n p
  rw [List.getElem?_map] at e
  cases h : ns[i.toNat]? with
  | none => rw [h] at e; cases e
  | some n => rw [h] at e; cases e; exact ⟨n, rfl, hP n h⟩

/-! items at written places -/
theorem gIx_l0 {x0 : D} {r : List D} {q : D → Prop} : gIx (.list (x0 :: r)) (.int 0) q = q x0 := by
  show (match atI (x0 :: r) ((0 : Nat) : Int) with | some d => q d | none => False) = _
  rw [atI_nat (j := 0) (v := x0) rfl]
theorem gIx_l1 {x0 x1 : D} {r : List D} {q : D → Prop} : gIx (.list (x0 :: x1 :: r)) (.int 1) q = q x1 := by
  show (match atI (x0 :: x1 :: r) ((1 : Nat) : Int) with | some d => q d | none => False) = _
  rw [atI_nat (j := 1) (v := x1) rfl]
theorem gIx_l2 {x0 x1 x2 : D} {r : List D} {q : D → Prop} : gIx (.list (x0 :: x1 :: x2 :: r)) (.int 2) q = q x2 := by
  show (match atI (x0 :: x1 :: x2 :: r) ((2 : Nat) : Int) with | some d => q d | none => False) = _
  rw [atI_nat (j := 2) (v := x2) rfl]
theorem gIx_l3 {x0 x1 x2 x3 : D} {r : List D} {q : D → Prop} : gIx (.list (x0 :: x1 :: x2 :: x3 :: r)) (.int 3) q = q x3 := by
  show (match atI (x0 :: x1 :: x2 :: x3 :: r) ((3 : Nat) : Int) with | some d => q d | none => False) = _
  rw [atI_nat (j := 3) (v := x3) rfl]
theorem gIx_l4 {x0 x1 x2 x3 x4 : D} {r : List D} {q : D → Prop} : gIx (.list (x0 :: x1 :: x2 :: x3 :: x4 :: r)) (.int 4) q = q x4 := by
  show (match atI (x0 :: x1 :: x2 :: x3 :: x4 :: r) ((4 : Nat) : Int) with | some d => q d | none => False) = _
  rw [atI_nat (j := 4) (v := x4) rfl]
theorem gIx_l5 {x0 x1 x2 x3 x4 x5 : D} {r : List D} {q : D → Prop} : gIx (.list (x0 :: x1 :: x2 :: x3 :: x4 :: x5 :: r)) (.int 5) q = q x5 := by
  show (match atI (x0 :: x1 :: x2 :: x3 :: x4 :: x5 :: r) ((5 : Nat) : Int) with | some d => q d | none => False) = _
  rw [atI_nat (j := 5) (v := x5) rfl]
theorem gIx_l6 {x0 x1 x2 x3 x4 x5 x6 : D} {r : List D} {q : D → Prop} : gIx (.list (x0 :: x1 :: x2 :: x3 :: x4 :: x5 :: x6 :: r)) (.int 6) q = q x6 := by
  show (match atI (x0 :: x1 :: x2 :: x3 :: x4 :: x5 :: x6 :: r) ((6 : Nat) : Int) with | some d => q d | none => False) = _
  rw [atI_nat (j := 6) (v := x6) rfl]
theorem gIx_l7 {x0 x1 x2 x3 x4 x5 x6 x7 : D} {r : List D} {q : D → Prop} : gIx (.list (x0 :: x1 :: x2 :: x3 :: x4 :: x5 :: x6 :: x7 :: r)) (.int 7) q = q x7 := by
  show (match atI (x0 :: x1 :: x2 :: x3 :: x4 :: x5 :: x6 :: x7 :: r) ((7 : Nat) : Int) with | some d => q d | none => False) = _
  rw [atI_nat (j := 7) (v := x7) rfl]
theorem gIx_l8 {x0 x1 x2 x3 x4 x5 x6 x7 x8 : D} {r : List D} {q : D → Prop} : gIx (.list (x0 :: x1 :: x2 :: x3 :: x4 :: x5 :: x6 :: x7 :: x8 :: r)) (.int 8) q = q x8 := by
  show (match atI (x0 :: x1 :: x2 :: x3 :: x4 :: x5 :: x6 :: x7 :: x8 :: r) ((8 : Nat) : Int) with | some d => q d | none => False) = _
  rw [atI_nat (j := 8) (v := x8) rfl]
theorem gIx_l9 {x0 x1 x2 x3 x4 x5 x6 x7 x8 x9 : D} {r : List D} {q : D → Prop} : gIx (.list (x0 :: x1 :: x2 :: x3 :: x4 :: x5 :: x6 :: x7 :: x8 :: x9 :: r)) (.int 9) q = q x9 := by
  show (match atI (x0 :: x1 :: x2 :: x3 :: x4 :: x5 :: x6 :: x7 :: x8 :: x9 :: r) ((9 : Nat) : Int) with | some d => q d | none => False) = _
  rw [atI_nat (j := 9) (v := x9) rfl]
theorem gIx_l10 {x0 x1 x2 x3 x4 x5 x6 x7 x8 x9 x10 : D} {r : List D} {q : D → Prop} : gIx (.list (x0 :: x1 :: x2 :: x3 :: x4 :: x5 :: x6 :: x7 :: x8 :: x9 :: x10 :: r)) (.int 10) q = q x10 := by
  show (match atI (x0 :: x1 :: x2 :: x3 :: x4 :: x5 :: x6 :: x7 :: x8 :: x9 :: x10 :: r) ((10 : Nat) : Int) with | some d => q d | none => False) = _
  rw [atI_nat (j := 10) (v := x10) rfl]
theorem gIx_l11 {x0 x1 x2 x3 x4 x5 x6 x7 x8 x9 x10 x11 : D} {r : List D} {q : D → Prop} : gIx (.list (x0 :: x1 :: x2 :: x3 :: x4 :: x5 :: x6 :: x7 :: x8 :: x9 :: x10 :: x11 :: r)) (.int 11) q = q x11 := by
  show (match atI (x0 :: x1 :: x2 :: x3 :: x4 :: x5 :: x6 :: x7 :: x8 :: x9 :: x10 :: x11 :: r) ((11 : Nat) : Int) with | some d => q d | none => False) = _
  rw [atI_nat (j := 11) (v := x11) rfl]
theorem gIx_l12 {x0 x1 x2 x3 x4 x5 x6 x7 x8 x9 x10 x11 x12 : D} {r : List D} {q : D → Prop} : gIx (.list (x0 :: x1 :: x2 :: x3 :: x4 :: x5 :: x6 :: x7 :: x8 :: x9 :: x10 :: x11 :: x12 :: r)) (.int 12) q = q x12 := by
  show (match atI (x0 :: x1 :: x2 :: x3 :: x4 :: x5 :: x6 :: x7 :: x8 :: x9 :: x10 :: x11 :: x12 :: r) ((12 : Nat) : Int) with | some d => q d | none => False) = _
  rw [atI_nat (j := 12) (v := x12) rfl]
theorem gIx_l13 {x0 x1 x2 x3 x4 x5 x6 x7 x8 x9 x10 x11 x12 x13 : D} {r : List D} {q : D → Prop} : gIx (.list (x0 :: x1 :: x2 :: x3 :: x4 :: x5 :: x6 :: x7 :: x8 :: x9 :: x10 :: x11 :: x12 :: x13 :: r)) (.int 13) q = q x13 := by
  show (match atI (x0 :: x1 :: x2 :: x3 :: x4 :: x5 :: x6 :: x7 :: x8 :: x9 :: x10 :: x11 :: x12 :: x13 :: r) ((13 : Nat) : Int) with | some d => q d | none => False) = _
  rw [atI_nat (j := 13) (v := x13) rfl]
theorem gIx_l14 {x0 x1 x2 x3 x4 x5 x6 x7 x8 x9 x10 x11 x12 x13 x14 : D} {r : List D} {q : D → Prop} : gIx (.list (x0 :: x1 :: x2 :: x3 :: x4 :: x5 :: x6 :: x7 :: x8 :: x9 :: x10 :: x11 :: x12 :: x13 :: x14 :: r)) (.int 14) q = q x14 := by
  show (match atI (x0 :: x1 :: x2 :: x3 :: x4 :: x5 :: x6 :: x7 :: x8 :: x9 :: x10 :: x11 :: x12 :: x13 :: x14 :: r) ((14 : Nat) : Int) with | some d => q d | none => False) = _
  rw [atI_nat (j := 14) (v := x14) rfl]
theorem gIx_l15 {x0 x1 x2 x3 x4 x5 x6 x7 x8 x9 x10 x11 x12 x13 x14 x15 : D} {r : List D} {q : D → Prop} : gIx (.list (x0 :: x1 :: x2 :: x3 :: x4 :: x5 :: x6 :: x7 :: x8 :: x9 :: x10 :: x11 :: x12 :: x13 :: x14 :: x15 :: r)) (.int 15) q = q x15 := by
  show (match atI (x0 :: x1 :: x2 :: x3 :: x4 :: x5 :: x6 :: x7 :: x8 :: x9 :: x10 :: x11 :: x12 :: x13 :: x14 :: x15 :: r) ((15 : Nat) : Int) with | some d => q d | none => False) = _
  rw [atI_nat (j := 15) (v := x15) rfl]
theorem gIx_t0 {x0 : D} {r : List D} {q : D → Prop} : gIx (.tuple (x0 :: r)) (.int 0) q = q x0 := by
  show (match atI (x0 :: r) ((0 : Nat) : Int) with | some d => q d | none => False) = _
  rw [atI_nat (j := 0) (v := x0) rfl]
theorem gIx_t1 {x0 x1 : D} {r : List D} {q : D → Prop} : gIx (.tuple (x0 :: x1 :: r)) (.int 1) q = q x1 := by
  show (match atI (x0 :: x1 :: r) ((1 : Nat) : Int) with | some d => q d | none => False) = _
  rw [atI_nat (j := 1) (v := x1) rfl]
theorem gIx_t2 {x0 x1 x2 : D} {r : List D} {q : D → Prop} : gIx (.tuple (x0 :: x1 :: x2 :: r)) (.int 2) q = q x2 := by
  show (match atI (x0 :: x1 :: x2 :: r) ((2 : Nat) : Int) with | some d => q d | none => False) = _
  rw [atI_nat (j := 2) (v := x2) rfl]
theorem gIx_t3 {x0 x1 x2 x3 : D} {r : List D} {q : D → Prop} : gIx (.tuple (x0 :: x1 :: x2 :: x3 :: r)) (.int 3) q = q x3 := by
  show (match atI (x0 :: x1 :: x2 :: x3 :: r) ((3 : Nat) : Int) with | some d => q d | none => False) = _
  rw [atI_nat (j := 3) (v := x3) rfl]
theorem gIx_t4 {x0 x1 x2 x3 x4 : D} {r : List D} {q : D → Prop} : gIx (.tuple (x0 :: x1 :: x2 :: x3 :: x4 :: r)) (.int 4) q = q x4 := by
  show (match atI (x0 :: x1 :: x2 :: x3 :: x4 :: r) ((4 : Nat) : Int) with | some d => q d | none => False) = _
  rw [atI_nat (j := 4) (v := x4) rfl]
theorem gIx_t5 {x0 x1 x2 x3 x4 x5 : D} {r : List D} {q : D → Prop} : gIx (.tuple (x0 :: x1 :: x2 :: x3 :: x4 :: x5 :: r)) (.int 5) q = q x5 := by
  show (match atI (x0 :: x1 :: x2 :: x3 :: x4 :: x5 :: r) ((5 : Nat) : Int) with | some d => q d | none => False) = _
  rw [atI_nat (j := 5) (v := x5) rfl]
theorem gIx_t6 {x0 x1 x2 x3 x4 x5 x6 : D} {r : List D} {q : D → Prop} : gIx (.tuple (x0 :: x1 :: x2 :: x3 :: x4 :: x5 :: x6 :: r)) (.int 6) q = q x6 := by
  show (match atI (x0 :: x1 :: x2 :: x3 :: x4 :: x5 :: x6 :: r) ((6 : Nat) : Int) with | some d => q d | none => False) = _
  rw [atI_nat (j := 6) (v := x6) rfl]
theorem gIx_t7 {x0 x1 x2 x3 x4 x5 x6 x7 : D} {r : List D} {q : D → Prop} : gIx (.tuple (x0 :: x1 :: x2 :: x3 :: x4 :: x5 :: x6 :: x7 :: r)) (.int 7) q = q x7 := by
  show (match atI (x0 :: x1 :: x2 :: x3 :: x4 :: x5 :: x6 :: x7 :: r) ((7 : Nat) : Int) with | some d => q d | none => False) = _
  rw [atI_nat (j := 7) (v := x7) rfl]
theorem gIx_t8 {x0 x1 x2 x3 x4 x5 x6 x7 x8 : D} {r : List D} {q : D → Prop} : gIx (.tuple (x0 :: x1 :: x2 :: x3 :: x4 :: x5 :: x6 :: x7 :: x8 :: r)) (.int 8) q = q x8 := by
  show (match atI (x0 :: x1 :: x2 :: x3 :: x4 :: x5 :: x6 :: x7 :: x8 :: r) ((8 : Nat) : Int) with | some d => q d | none => False) = _
  rw [atI_nat (j := 8) (v := x8) rfl]
theorem gIx_t9 {x0 x1 x2 x3 x4 x5 x6 x7 x8 x9 : D} {r : List D} {q : D → Prop} : gIx (.tuple (x0 :: x1 :: x2 :: x3 :: x4 :: x5 :: x6 :: x7 :: x8 :: x9 :: r)) (.int 9) q = q x9 := by
  show (match atI (x0 :: x1 :: x2 :: x3 :: x4 :: x5 :: x6 :: x7 :: x8 :: x9 :: r) ((9 : Nat) : Int) with | some d => q d | none => False) = _
  rw [atI_nat (j := 9) (v := x9) rfl]
theorem gIx_t10 {x0 x1 x2 x3 x4 x5 x6 x7 x8 x9 x10 : D} {r : List D} {q : D → Prop} : gIx (.tuple (x0 :: x1 :: x2 :: x3 :: x4 :: x5 :: x6 :: x7 :: x8 :: x9 :: x10 :: r)) (.int 10) q = q x10 := by
  show (match atI (x0 :: x1 :: x2 :: x3 :: x4 :: x5 :: x6 :: x7 :: x8 :: x9 :: x10 :: r) ((10 : Nat) : Int) with | some d => q d | none => False) = _
  rw [atI_nat (j := 10) (v := x10) rfl]
theorem gIx_t11 {x0 x1 x2 x3 x4 x5 x6 x7 x8 x9 x10 x11 : D} {r : List D} {q : D → Prop} : gIx (.tuple (x0 :: x1 :: x2 :: x3 :: x4 :: x5 :: x6 :: x7 :: x8 :: x9 :: x10 :: x11 :: r)) (.int 11) q = q x11 := by
  show (match atI (x0 :: x1 :: x2 :: x3 :: x4 :: x5 :: x6 :: x7 :: x8 :: x9 :: x10 :: x11 :: r) ((11 : Nat) : Int) with | some d => q d | none => False) = _
  rw [atI_nat (j := 11) (v := x11) rfl]
theorem gIx_t12 {x0 x1 x2 x3 x4 x5 x6 x7 x8 x9 x10 x11 x12 : D} {r : List D} {q : D → Prop} : gIx (.tuple (x0 :: x1 :: x2 :: x3 :: x4 :: x5 :: x6 :: x7 :: x8 :: x9 :: x10 :: x11 :: x12 :: r)) (.int 12) q = q x12 := by
  show (match atI (x0 :: x1 :: x2 :: x3 :: x4 :: x5 :: x6 :: x7 :: x8 :: x9 :: x10 :: x11 :: x12 :: r) ((12 : Nat) : Int) with | some d => q d | none => False) = _
  rw [atI_nat (j := 12) (v := x12) rfl]
theorem gIx_t13 {x0 x1 x2 x3 x4 x5 x6 x7 x8 x9 x10 x11 x12 x13 : D} {r : List D} {q : D → Prop} : gIx (.tuple (x0 :: x1 :: x2 :: x3 :: x4 :: x5 :: x6 :: x7 :: x8 :: x9 :: x10 :: x11 :: x12 :: x13 :: r)) (.int 13) q = q x13 := by
  show (match atI (x0 :: x1 :: x2 :: x3 :: x4 :: x5 :: x6 :: x7 :: x8 :: x9 :: x10 :: x11 :: x12 :: x13 :: r) ((13 : Nat) : Int) with | some d => q d | none => False) = _
  rw [atI_nat (j := 13) (v := x13) rfl]
theorem gIx_t14 {x0 x1 x2 x3 x4 x5 x6 x7 x8 x9 x10 x11 x12 x13 x14 : D} {r : List D} {q : D → Prop} : gIx (.tuple (x0 :: x1 :: x2 :: x3 :: x4 :: x5 :: x6 :: x7 :: x8 :: x9 :: x10 :: x11 :: x12 :: x13 :: x14 :: r)) (.int 14) q = q x14 := by
  show (match atI (x0 :: x1 :: x2 :: x3 :: x4 :: x5 :: x6 :: x7 :: x8 :: x9 :: x10 :: x11 :: x12 :: x13 :: x14 :: r) ((14 : Nat) : Int) with | some d => q d | none => False) = _
  rw [atI_nat (j := 14) (v := x14) rfl]
theorem gIx_t15 {x0 x1 x2 x3 x4 x5 x6 x7 x8 x9 x10 x11 x12 x13 x14 x15 : D} {r : List D} {q : D → Prop} : gIx (.tuple (x0 :: x1 :: x2 :: x3 :: x4 :: x5 :: x6 :: x7 :: x8 :: x9 :: x10 :: x11 :: x12 :: x13 :: x14 :: x15 :: r)) (.int 15) q = q x15 := by
  show (match atI (x0 :: x1 :: x2 :: x3 :: x4 :: x5 :: x6 :: x7 :: x8 :: x9 :: x10 :: x11 :: x12 :: x13 :: x14 :: x15 :: r) ((15 : Nat) : Int) with | some d => q d | none => False) = _
  rw [atI_nat (j := 15) (v := x15) rfl]
/-! ### plain facts of readings -/
theorem eqv_int (i j : Int) : PyData.eqv (.int i) (.int j) = (i == j) := by simp [PyData.eqv]
theorem eqv_str (i j : Str) : PyData.eqv (.str i) (.str j) = (i == j) := by simp [PyData.eqv]
theorem eqv_bool (i j : Bool) : PyData.eqv (.bool i) (.bool j) = (i == j) := by simp [PyData.eqv]

/-! ### repr of plain data -/
theorem log2_lt_of {n k : Nat} (h : n < 2 ^ k) (hk : 0 < k) : n.log2 < k := by
  by_cases h0 : n = 0
  · subst h0
    have : Nat.log2 0 = 0 := by decide
    omega
  · exact (Nat.log2_lt h0).mpr h
theorem rpAll_ints : ∀ ns : List Int, (∀ n ∈ ns, n.natAbs < bigLine) → rpAll (ns.map .int) = true
  | [], _ => by simp [rpAll]
  | n :: r, h => by
    simp only [List.map_cons, rpAll, rpD, Bool.and_eq_true, decide_eq_true_eq]
    exact ⟨h n List.mem_cons_self, rpAll_ints r fun m hm => h m (List.mem_cons_of_mem _ hm)⟩
theorem cellsAll_ints : ∀ ns : List Int, cellsAll (ns.map .int) = ns.length
  | [] => by simp [cellsAll]
  | n :: r => by
    simp only [List.map_cons, cellsAll, cells, cellsAll_ints r, List.length_cons]
    omega
theorem depthAll_ints : ∀ ns : List Int, PyData.depthAll (ns.map .int) = 0
  | [] => by simp [PyData.depthAll]
  | n :: r => by simp [PyData.depthAll, PyData.depth, depthAll_ints r]
theorem gRepr_ints {ns : List Int} {q : D → Prop} (h : ∀ n ∈ ns, n.natAbs < bigLine) (hl : ns.length ≤ 4000) (hq : q (.str (PyData.shown (.list (ns.map .int))))) : gRepr [.list (ns.map .int)] q :=
  ⟨⟨rfl, by simp only [rpD]; exact rpAll_ints ns h, by simp only [cells, cellsAll_ints]; omega, by simp [PyData.depth, depthAll_ints]⟩, hq⟩
theorem big_bits {n : Int} {k : Nat} (h : intBits n ≤ k) (hk : k ≤ 12000) : n.natAbs < bigLine := Nat.lt_of_lt_of_le (intBits_le_iff.mp h) (Nat.pow_le_pow_right (by decide) hk)
end DL

namespace DL
open PySem

/-! ### whole square roots -/
theorem sq4 (a b : Nat) : 4 * (a * b) ≤ (a + b) * (a + b) := by
  have key : ∀ a d : Nat, 4 * (a * (a + d)) ≤ (a + (a + d)) * (a + (a + d)) := by
    intro a d
    have e : (a + (a + d)) * (a + (a + d)) = 4 * (a * (a + d)) + d * d := by
      simp only [Nat.add_mul, Nat.mul_add, Nat.mul_comm d a]; omega
    omega
  rcases Nat.le_total a b with h | h
  · obtain ⟨d, rfl⟩ := Nat.le.dest h
    exact key a d
  · obtain ⟨d, rfl⟩ := Nat.le.dest h
    rw [Nat.mul_comm (b + d) b, Nat.add_comm (b + d) b]
    exact key b d
/-- a turn of Newton's stays above -/
theorem newton_up {n x : Nat} (hx : 0 < x) : n < ((x + n / x) / 2 + 1) * ((x + n / x) / 2 + 1) := by
  have h1 : n < (n / x + 1) * x := by
    have := Nat.lt_succ_self (n / x)
    rw [Nat.mul_comm]
    exact Nat.lt_mul_div_succ n hx
  have h2 := sq4 (n / x + 1) x
  have h3 : n / x + 1 + x ≤ 2 * ((x + n / x) / 2 + 1) := by omega
  have h4 : (n / x + 1 + x) * (n / x + 1 + x) ≤ (2 * ((x + n / x) / 2 + 1)) * (2 * ((x + n / x) / 2 + 1)) := Nat.mul_le_mul h3 h3
  have h5 : ∀ y : Nat, (2 * y) * (2 * y) = 4 * (y * y) := fun y => by
    rw [Nat.mul_mul_mul_comm]
  rw [h5] at h4
  omega
/-- r is the whole root of n -/
def IsRoot (n r : Nat) : Prop := r * r ≤ n ∧ n < (r + 1) * (r + 1)
theorem lt_of_sq {a b : Nat} (h : a * a < b * b) : a < b := by
  apply Classical.byContradiction
  intro q
  have := Nat.mul_le_mul (Nat.le_of_not_lt q) (Nat.le_of_not_lt q)
  omega
theorem IsRoot.uniq {n r s : Nat} (h : IsRoot n r) (g : IsRoot n s) : r = s := by
  have h1 : r < s + 1 := lt_of_sq (Nat.lt_of_le_of_lt h.1 g.2)
  have h2 : s < r + 1 := lt_of_sq (Nat.lt_of_le_of_lt g.1 h.2)
  omega
theorem root_step {n r k : Nat} (h8 : 8 ≤ n) (hk : k = (n.log2 + 1) / 4) (hr : IsRoot (n / 4 ^ k) r) :
    IsRoot n (let x := (r + 1) * 2 ^ k; let y := (x + n / x) / 2; if y * y > n then y - 1 else y) := by
  have p4 : (4 : Nat) ^ k = 2 ^ k * 2 ^ k := by rw [← Nat.mul_pow]
  have hb : 0 < 2 ^ k := Nat.two_pow_pos k
  have p4' : 0 < (4 : Nat) ^ k := Nat.pow_pos (by decide)
  obtain ⟨r1, r2⟩ := hr
  generalize hx : (r + 1) * 2 ^ k = x
  have xx : n < x * x := by
    have e : x * x = (r + 1) * (r + 1) * 4 ^ k := by rw [← hx, p4, Nat.mul_mul_mul_comm]
    rw [e]
    exact (Nat.div_lt_iff_lt_mul p4').mp r2
  have aa : (r * 2 ^ k) * (r * 2 ^ k) ≤ n := by
    rw [Nat.mul_mul_mul_comm, ← p4]
    exact (Nat.le_div_iff_mul_le p4').mp r1
  have hxp : 0 < x := by
    rw [← hx]
    exact Nat.mul_pos (by omega) hb
  have ll : 2 ^ n.log2 ≤ n := Nat.log2_self_le (by omega)
  have bb : 2 ^ k * 2 ^ k ≤ 2 * x := by
    apply Classical.byContradiction
    intro q
    have q : 2 * x < 4 ^ k := by rw [p4]; omega
    have q2 := Nat.mul_lt_mul'' q q
    have e1 : (4 : Nat) ^ k * 4 ^ k = 2 ^ (4 * k) := by
      rw [p4, ← Nat.pow_add, ← Nat.pow_add]; congr 1; omega
    have e2 : (2 : Nat) ^ (4 * k) ≤ 2 ^ (n.log2 + 1) := Nat.pow_le_pow_right (by decide) (by omega)
    rw [Nat.pow_succ] at e2
    have e3 : (2 * x) * (2 * x) = 4 * (x * x) := by rw [Nat.mul_mul_mul_comm]
    omega
  show IsRoot n (if (x + n / x) / 2 * ((x + n / x) / 2) > n then (x + n / x) / 2 - 1 else (x + n / x) / 2)
  have up := newton_up (n := n) hxp
  generalize hy : (x + n / x) / 2 = y at up ⊢
  by_cases h : y * y > n
  · rw [if_pos h]
    have y1 : 0 < y := by
      rcases Nat.eq_zero_or_pos y with z | z
      · rw [z] at h; omega
      · exact z
    obtain ⟨z, rfl⟩ : ∃ z, y = z + 1 := ⟨y - 1, by omega⟩
    refine ⟨?_, h⟩
    show z * z ≤ n
    apply Classical.byContradiction
    intro q
    have q : n < z * z := Nat.lt_of_not_le q
    have za : r * 2 ^ k < z := lt_of_sq (Nat.lt_of_le_of_lt aa q)
    have qx : n / x * x ≤ n := Nat.div_mul_le_self n x
    have nx : n / x < x := (Nat.div_lt_iff_lt_mul hxp).mpr xx
    have zx : z < x := by omega
    obtain ⟨d, rfl⟩ := Nat.le.dest (Nat.le_of_lt zx)
    have hd : d < 2 ^ k := by
      have : z + d = r * 2 ^ k + 2 ^ k := by rw [← hx, Nat.add_mul, Nat.one_mul]
      omega
    have dd : d * d < 2 ^ k * 2 ^ k := Nat.mul_lt_mul'' hd hd
    -- 2 (z + 1) ≤ x + n / x, so 2 (z + 1) x ≤ x x + n < x x + z z
    have t1 : 2 * (z + 1) ≤ z + d + n / (z + d) := by omega
    have t2 : 2 * (z + 1) * (z + d) ≤ (z + d + n / (z + d)) * (z + d) := Nat.mul_le_mul_right _ t1
    rw [Nat.add_mul] at t2
    have t3 : 2 * (z + 1) * (z + d) < (z + d) * (z + d) + z * z := by omega
    have e1 : 2 * (z + 1) * (z + d) = 2 * (z * z) + 2 * (z * d) + 2 * (z + d) := by
      simp only [Nat.add_mul, Nat.mul_add, Nat.mul_assoc]; omega
    have e2 : (z + d) * (z + d) = z * z + 2 * (z * d) + d * d := by
      simp only [Nat.add_mul, Nat.mul_add, Nat.mul_comm d z]; omega
    omega
  · rw [if_neg h]
    exact ⟨by omega, up⟩
theorem below8 {n : Nat} (h : n < 8) : IsRoot n (Float64.rootBelow8 n) := by
  have : n = 0 ∨ n = 1 ∨ n = 2 ∨ n = 3 ∨ n = 4 ∨ n = 5 ∨ n = 6 ∨ n = 7 := by omega
  rcases this with rfl | rfl | rfl | rfl | rfl | rfl | rfl | rfl <;> exact ⟨by decide, by decide⟩
theorem root_halves : ∀ (l n : Nat), n < 2 ^ (l + 1) → IsRoot n (Float64.rootByHalves l n)
  | 0, n, h => below8 (by omega)
  | l + 1, n, h => by
    unfold Float64.rootByHalves
    by_cases h8 : n < 8
    · rw [if_pos h8]
      exact below8 h8
    · rw [if_neg h8]
      have h3 : 3 ≤ n.log2 := (Nat.le_log2 (by omega)).mpr (by omega)
      refine root_step (by omega) rfl (root_halves l _ ?_)
      have k1 : 1 ≤ (n.log2 + 1) / 4 := by omega
      generalize (n.log2 + 1) / 4 = k at k1
      have : 4 ≤ 4 ^ k := by
        have := Nat.pow_le_pow_right (n := 4) (by decide) k1
        omega
      refine Nat.lt_of_le_of_lt (Nat.div_le_div_left this (by decide)) ?_
      have e : 2 ^ (l + 1 + 1) = 2 ^ (l + 1) * 2 := Nat.pow_succ ..
      omega
theorem isqrt_root (n : Nat) : IsRoot n (Float64.isqrt n) := by
  by_cases h : n = 0
  · subst h
    exact ⟨by decide, by decide⟩
  · exact root_halves _ _ (Nat.lt_log2_self)
end DL

namespace DL
open PySem PySem.Spec PyProof.Rows L2
section
variable {X : Cx} {a b : Expr} {db da : RE} {dl : RL} {pos : Pos}
/-- [..] * k: a new list -/
def lRepL (dl : RL) (db : RE) : RL := fun ρ q => dl ρ fun xs => db ρ fun d => match d with | .int k => (-(2 ^ 62) ≤ k ∧ k < 2 ^ 62 ∧ Fit (xs.length * k.toNat)) ∧ q (List.replicate k.toNat xs).flatten | _ => False
theorem dl_rep (ha : DLs X a dl) (hb : DE X b db) : DLs X (.BinOp a .Mult b pos) (lRepL dl db) := by
  obtain ⟨ta, a1, a2⟩ := ha
  obtain ⟨tb, b1, b2⟩ := hb
  refine ⟨_, pe_op op_rep a1 b1, fun B F H ρ σ E q hq Q k => a2 B F H ρ σ E _ hq _ fun p vs ds F1 H1 g1 hp hf hh r1 z1 => b2 B F1 H1 ρ σ (E.grow g1) _ z1 _ fun u y F2 H2 g2 r2 z2 => ?_⟩
  cases r2 with
  | int j =>
    obtain ⟨⟨h1, h2, h3⟩, z⟩ := z2
    refine ⟨p, j, vs, rfl, rfl, g2.hh p _ hh, by omega, by omega, by rw [r1.length]; exact h3.le, fun p2 hp2 => ?_⟩
    exact k p2 _ _ F2 _ ((g1.trans g2).trans (Gr.newO g2.fh hp2)) ((g1.trans g2).hh.free hp2) (g2.fh.free hp2) upd_same ((r1.mono g2.ff).flatRep _) z
  | _ => exact z2.elim
/-- (..) * k, two times or more: a new tuple -/
def gRepT : G2 := fun x y q => match x, y with | .tuple xs, .int k => (xs ≠ [] ∧ 2 ≤ k ∧ k ≤ 1000 ∧ xs.length ≤ 1000) ∧ q (.tuple (List.replicate k.toNat xs).flatten) | _, _ => False
theorem o_repT : OpD X (binaryOp .Mult) gRepT := by
  refine ⟨_, op_repT, fun F H v u x y fh bx bY q hq Q k => ?_⟩
  unfold gRepT at hq
  split at hq
  · rename_i xs j
    obtain ⟨⟨h1, h2, h3, h4⟩, z⟩ := hq
    obtain ⟨p, vs, rfl, _, s1, d1⟩ := bx.tup fh
    refine ⟨p, j, vs, rfl, bY.int, s1, fun e => h1 ?_, h2, h3, by rw [d1.length]; exact h4, fun p2 hp2 => ?_⟩
    · subst e
      cases d1
      rfl
    · have g := Gr.new (o := .tup (List.replicate j.toNat vs).flatten) fh hp2
      exact k _ _ _ _ g (.tup (.inl (.inl upd_same)) ((d1.flatRep _).mono g.ff)) z
  · exact hq.elim
/-- sorted(ns), fewer than 64 whole numbers -/
def lSorted : List D → (List D → Prop) → Prop := fun xs q => ∃ ns : List Int, xs = [.list (ns.map .int)] ∧ ns.length < 64 ∧ ∀ ns' : List Int, ns'.Perm ns → ns'.Pairwise (· ≤ ·) → q (ns'.map .int)
theorem c_sorted : CallL X (.builtin "sorted") lSorted := by
  refine ⟨_, cr_sorted, fun F H vs xs fh bx q hq Q k => ?_⟩
  obtain ⟨ns, rfl, h64, hq⟩ := hq
  obtain ⟨v, rfl, b⟩ := bx.one
  obtain ⟨p, rfl, h1⟩ := lst_ints fh b
  exact ⟨p, ns, rfl, h1, h64, fun ns' p2 e1 e2 hp2 => k p2 _ _ F _ (Gr.newO fh hp2) hp2 (fh.free hp2) upd_same (DpAll.ints ns') (hq ns' e1 e2)⟩
end
end DL
namespace DL
open PySem PySem.Spec PyProof.Rows L2
/-- a promise that can't be asked -/
theorem FnG.no {P : Program} {w : World} {K : Frag} {mg : Str → Option Value} {base : Heap} {k : Nat} {f : Addr} {fd : FuncData} {ps : List Str} {n : Nat} {g : FD} (h : ∀ ds q, g ds q → False) : FnG P w K mg base k f fd ps (SpD K n g) :=
  ⟨fun _ _ _ _ ⟨_, ds, q, _, _, _, z, _⟩ => (h ds q z).elim, fun _ _ _ _ _ _ _ _ _ _ _ _ _ _ ⟨_, ds, q, _, _, _, z, _⟩ => (h ds q z).elim⟩
end DL

namespace DL
open PySem PySem.Spec PyProof.Rows L2 Builtin.Int
/-! ### a statement that changes one or two names, and what comes behind it -/
theorem sj_i {t u : RS} {DD : DEnds} {ρ : Rho} (i : Nat) (P : D → Prop) (hk : ∀ d, P d → u DD (ρ.set i (some (.val d))))
    (h : ∀ k : Rho → Prop, (∀ d, P d → k (ρ.set i (some (.val d)))) → t { DD with nx := k } ρ) : sSeq t u DD ρ := by
  rw [sSeq_c]
  exact h _ hk
theorem sj_i2 {t u : RS} {DD : DEnds} {ρ : Rho} (i j : Nat) (P : D → D → Prop) (hk : ∀ d e, P d e → u DD ((ρ.set i (some (.val d))).set j (some (.val e))))
    (h : ∀ k : Rho → Prop, (∀ d e, P d e → k ((ρ.set i (some (.val d))).set j (some (.val e)))) → t { DD with nx := k } ρ) : sSeq t u DD ρ := by
  rw [sSeq_c]
  exact h _ hk
theorem sj_iO {t u : RS} {DD : DEnds} {ρ : Rho} (i : Nat) (P : List D → Prop) (hk : ∀ d, P d → u DD (ρ.set i (some (.own d))))
    (h : ∀ k : Rho → Prop, (∀ d, P d → k (ρ.set i (some (.own d)))) → t { DD with nx := k } ρ) : sSeq t u DD ρ := by
  rw [sSeq_c]
  exact h _ hk
/-- what comes behind, by a fact of the names' values -/
theorem sj_r {t u : RS} {DD : DEnds} {ρ : Rho} (R : Rho → Prop) (hk : ∀ ρ', R ρ' → u DD ρ')
    (h : ∀ k : Rho → Prop, (∀ ρ', R ρ' → k ρ') → t { DD with nx := k } ρ) : sSeq t u DD ρ := by
  rw [sSeq_c]
  exact h _ hk
end DL

namespace DL
open PySem PySem.Spec PyProof.Rows L2 Builtin.Int
/-! ### zip of two sequences, each a list or a tuple -/
/-- one side of a zip: its iterator c over what stands at a -/
structure Side (P : Program) (w : World) (K : Frag) (c a : Addr) (S : Hp → List V → Prop) (T : Nat → Heap → Prop) (O : Array Value → Heap → Prop) : Prop where
  read : ∀ (X : Cx), X.prog = P → X.w = w → X.K = K → ∀ pins σ H s xs, Inv X pins σ H s → S H xs → ∃ its : List Value, Vals xs its ∧ O its.toArray s.heap
  inj : ∀ (X : Cx), X.prog = P → X.w = w → X.K = K → ∀ pins σ H s xs ys, Inv X pins σ H s → S H xs → S H ys → xs = ys
  draws : ∀ A : Around, A.handled = none → ∀ items : Array Value, Draws P w A c [c, a] items.size (fun i v => items[i]? = some v) fun i h => T i h ∧ O items h
  obj : ∀ i h, T i h → ∃ o, h.get? c = some o ∧ ∀ v, o.data ≠ .cell v
  keep : ∀ i h h', T i h → (∀ o, h.get? c = some o → h'.get? c = some o) → T i h'
theorem sideT {P : Program} {w : World} {K : Frag} {c a : Addr} (hne : a ≠ c) : Side P w K c a (fun H xs => SqT K H a xs) (fun i h => h.IsTupleIter c a i) (fun items h => h.IsTuple a items) where
  read := fun X h1 h2 h3 pins σ H s xs I q => by
    subst h3
    obtain ⟨its, r, p, _⟩ := I.tuple q
    exact ⟨its, r, p⟩
  inj := fun X h1 h2 h3 pins σ H s xs ys I q q' => by
    subst h3
    exact I.tuple_inj q q'
  draws := fun A hA items => Draws.tuple hA c a hne items
  obj := fun i h ⟨o, e, _, d⟩ => ⟨o, e, fun v q => by rw [d] at q; cases q⟩
  keep := fun i h h' st k => st.at fun o q => k o q
theorem sideL {P : Program} {w : World} {K : Frag} {c a : Addr} (hne : a ≠ c) : Side P w K c a (fun H xs => SqL K H a xs) (fun i h => h.IsListIter c a i) (fun items h => h.IsList a items) where
  read := fun X h1 h2 h3 pins σ H s xs I q => by
    subst h3
    obtain ⟨its, r, p, _⟩ := I.list q
    exact ⟨its, r, p.isList⟩
  inj := fun X h1 h2 h3 pins σ H s xs ys I q q' => by
    subst h3
    exact I.list_inj q q'
  draws := fun A hA items => Draws.list hA c a hne items
  obj := fun i h ⟨o, e, _, d⟩ => ⟨o, e, fun v q => by rw [d] at q; cases q⟩
  keep := fun i h h' st k => st.at fun o q => k o q
/-- pairs, each new, of what stands at the time -/
def ItM (S1 S2 : Hp → List V → Prop) : It :=
  ⟨fun i H => ∃ (xs ys : List V) (x y : V), S1 H xs ∧ S2 H ys ∧ xs[i]? = some x ∧ ys[i]? = some y,
    fun i H v H' => ∃ T x y, v = .ref T ∧ H T = none ∧ H' = upd H T (.tup [x, y]) ∧ (∀ xs, S1 H xs → xs[i]? = some x) ∧ ∀ ys, S2 H ys → ys[i]? = some y,
    fun i H => ∃ xs ys : List V, S1 H xs ∧ S2 H ys ∧ i = min xs.length ys.length⟩
def tnM (z TI TO c1 c2 : Addr) (T1 T2 : Nat → Heap → Prop) (i : Nat) (h : Heap) : Prop := IsZip h z TI TO .none ∧ IsTupOf2 h TI (.ref c1) (.ref c2) ∧ (∃ x y, IsTupOf2 h TO x y) ∧ T1 i h ∧ T2 i h
theorem five {z TI TO c1 c2 b : Addr} (h : b ∈ [z, TI, TO, c1, c2]) : b = z ∨ b = TI ∨ b = TO ∨ b = c1 ∨ b = c2 := by simpa using h
theorem turnM {P : Program} {w : World} {K : Frag} {elts : List Expr} {kk : Nat} {tpos : Pos} {z TI TO c1 c2 a1 a2 : Addr} {S1 S2 : Hp → List V → Prop} {T1 T2 : Nat → Heap → Prop} {O1 O2 : Array Value → Heap → Prop}
    (Z : ZipSep2 z TI TO c1 c2 [c1, a1] [c2, a2]) (A1 : Side P w K c1 a1 S1 T1 O1) (A2 : Side P w K c2 a2 S2 T2 O2) :
    Turn P w K (.Tuple elts kk tpos) (ItM S1 S2) [z, TI, TO, c1, c2] z (tnM z TI TO c1 c2 T1 T2) where
  mem := List.mem_cons_self
  obj := fun i h st b hb => by
    obtain ⟨q1, q2, ⟨x, y, q3⟩, q4, q5⟩ := st
    rcases five hb with rfl | rfl | rfl | rfl | rfl
    · exact ⟨_, q1, fun v q => nomatch q⟩
    · exact ⟨_, q2, fun v q => nomatch q⟩
    · exact ⟨_, q3, fun v q => nomatch q⟩
    · exact A1.obj i h q4
    · exact A2.obj i h q5
  keep := fun i h h' st k => by
    obtain ⟨q1, q2, ⟨x, y, q3⟩, q4, q5⟩ := st
    exact ⟨k _ (by simp) _ q1, k _ (by simp) _ q2, ⟨x, y, k _ (by simp) _ q3⟩, A1.keep i h h' q4 (k _ (by simp)), A2.keep i h h' q5 (k _ (by simp))⟩
  item := by
    intro X hP hw hK hc i pins s σ H E I hf st hg
    obtain ⟨q1, q2, q3, q4, q5⟩ := st
    obtain ⟨xs, ys, x, y, s1, s2, e1, e2⟩ := hg
    obtain ⟨its1, v1, o1⟩ := A1.read X hP hw hK pins σ H s xs I s1
    obtain ⟨its2, v2, o2⟩ := A2.read X hP hw hK pins σ H s ys I s2
    obtain ⟨u1, g1, r1⟩ := v1.get e1
    obtain ⟨u2, g2, r2⟩ := v2.get e2
    have hA : X.A.in1.handled = none := I.ok.hd hc
    have G := GoesN.zip2 (elts := elts) (x1 := kk) (pos := tpos) (A := X.A) Z (A1.draws X.A.in1 hA its1.toArray) (A2.draws X.A.in1 hA its2.toArray)
    have l1 : i < its1.length := (List.getElem?_eq_some_iff.mp g1).1
    have l2 : i < its2.length := (List.getElem?_eq_some_iff.mp g2).1
    refine G.goes i s _ E (by simp; omega) ⟨q1, q2, q3, ⟨q4, o1⟩, ⟨q5, o2⟩⟩ fun v h' tk Y st' hk htk => ?_
    obtain ⟨T, w1, w2, rfl, hT, p1, p2, hTup⟩ := Y
    obtain ⟨z1, z2, z3, ⟨z4, _⟩, ⟨z5, _⟩⟩ := st'
    have p1 : some u1 = some w1 := by rw [← g1, ← p1]; simp
    have p2 : some u2 = some w2 := by rw [← g2, ← p2]; simp
    cases p1
    cases p2
    have new : ObjOk X.prog X.w (upd H T (.tup [x, y])) h' T (.tup [x, y]) := ⟨by show 2 ≤ sizeLine; rw [sizeLine_eq]; decide, [u1, u2], .cons r1 (.cons r2 .nil), hTup⟩
    have I1 : Inv X pins σ (upd H T (.tup [x, y])) { s with heap := h', toks := tk } := I.turnedNew (t' := tk) (ch := [z, TI, TO, c1, c2])
      (fun b o hb e => hk b o (fun m => hb (by simp only [List.mem_cons, List.not_mem_nil, or_false] at m ⊢; rcases m with m | m | m | m <;> simp [m])) e) hf hT new
    refine ⟨.ref T, _, I1, rfl, ⟨T, x, y, rfl, I.hok.fresh hT, rfl, fun l hl => by rw [A1.inj X hP hw hK pins σ H s l xs I hl s1]; exact e1, fun l hl => by rw [A2.inj X hP hw hK pins σ H s l ys I hl s2]; exact e2⟩, ⟨z1, z2, z3, z4, z5⟩, fun b hb => ?_⟩
    have hb' : b < s.heap.objs.size := by
      rcases five hb with rfl | rfl | rfl | rfl | rfl
      · exact Heap.lt_size q1
      · exact Heap.lt_size q2
      · obtain ⟨_, _, q3⟩ := q3; exact Heap.lt_size q3
      · obtain ⟨_, q, _⟩ := A1.obj _ _ q4; exact Heap.lt_size q
      · obtain ⟨_, q, _⟩ := A2.obj _ _ q5; exact Heap.lt_size q
    rw [upd_ne (Nat.ne_of_lt (Nat.lt_of_lt_of_le hb' hT))]
    exact (hf b hb).1
  done := by
    intro X hP hw hK hc i pins s σ H E I hf st hg
    obtain ⟨q1, q2, q3, q4, q5⟩ := st
    obtain ⟨xs, ys, s1, s2, hend⟩ := hg
    obtain ⟨its1, v1, o1⟩ := A1.read X hP hw hK pins σ H s xs I s1
    obtain ⟨its2, v2, o2⟩ := A2.read X hP hw hK pins σ H s ys I s2
    have hA : X.A.in1.handled = none := I.ok.hd hc
    have G := GoesN.zip2 (elts := elts) (x1 := kk) (pos := tpos) (A := X.A) Z (A1.draws X.A.in1 hA its1.toArray) (A2.draws X.A.in1 hA its2.toArray)
    have ei : i = min its1.toArray.size its2.toArray.size := by
      have := v1.length
      have := v2.length
      simp only [List.size_toArray]
      omega
    refine G.stops s (fun s1 => Inv X pins σ H s1) E (by rw [← ei]; exact ⟨q1, q2, q3, ⟨q4, o1⟩, ⟨q5, o2⟩⟩) fun h' tk hk htk => I.turnedL (t' := tk) (ch := [z, TI, TO, c1, c2])
      (fun b o hb e => hk b o (fun m => hb (by simp only [List.mem_cons, List.not_mem_nil, or_false] at m ⊢; rcases m with m | m | m | m <;> simp [m])) e) hf
  self := fun A i s Q E st h => wpAny_pyIter_zip st.1 h
/-! ### zip(x, y): how it begins -/
structure Starts (P : Program) (w : World) (K : Frag) (a : Addr) (S : Hp → List V → Prop) (o : Obj) (T : Addr → Nat → Heap → Prop) (O : Array Value → Heap → Prop) : Prop where
  side : ∀ c, a ≠ c → Side P w K c a S (T c) O
  beg : ∀ items : Array Value, Begins (.ref a) o (O items)
  made : ∀ (c : Addr) (h : Heap), h.get? c = some o → T c 0 h
  lt : ∀ (items : Array Value) (h : Heap), O items h → a < h.objs.size
theorem startsL (P : Program) (w : World) (K : Frag) (a : Addr) : Starts P w K a (fun H xs => SqL K H a xs) { cls := .type "list_iterator", data := .fields #[.ref a, .int 0 0] } (fun c i h => h.IsListIter c a i) (fun items h => h.IsList a items) where
  side := fun c h => sideL h
  beg := fun items => begins_list a items
  made := fun c h e => ⟨_, e, rfl, rfl⟩
  lt := fun items h ⟨o, e, _⟩ => Heap.lt_size e
theorem startsT (P : Program) (w : World) (K : Frag) (a : Addr) : Starts P w K a (fun H xs => SqT K H a xs) { cls := .type "tuple_iterator", data := .fields #[.ref a, .int 0 0] } (fun c i h => h.IsTupleIter c a i) (fun items h => h.IsTuple a items) where
  side := fun c h => sideT h
  beg := fun items => begins_tuple a items
  made := fun c h e => ⟨_, e, rfl, rfl⟩
  lt := fun items h ⟨o, e, _⟩ => Heap.lt_size e
/-- a sequence at a: what reads it -/
inductive SqB (K : Frag) (a : Addr) : (Hp → List V → Prop) → Prop
  | l : SqB K a (fun H xs => SqL K H a xs)
  | t : SqB K a (fun H xs => SqT K H a xs)
theorem SqB.starts {K : Frag} {a : Addr} {S : Hp → List V → Prop} (h : SqB K a S) (P : Program) (w : World) : ∃ o T O, Starts P w K a S o T O := by
  cases h with
  | l => exact ⟨_, _, _, startsL P w K a⟩
  | t => exact ⟨_, _, _, startsT P w K a⟩
def iZipM (K : Frag) (ta : TA) : TI := fun σ H R => ta σ H fun vs H1 => ∃ a b S1 S2 xs ys, vs = [.ref a, .ref b] ∧ SqB K a S1 ∧ SqB K b S2 ∧ S1 H1 xs ∧ S2 H1 ys ∧ R (ItM S1 S2) H1
theorem pi_zipM {X : Cx} {e e2 : Expr} {ta : TA} {p pos tpos : Pos} {elts : List Expr} {kk : Nat} (hg : Gl X "zip") (hm : X.mg "zip" = none) (ha : PA X [e, e2] ta)
    (hs : starEach [e, e2] X.env = (false, eval e X.env) :: starEach [e2] X.env := by rfl) (hpl : (backTo pos (starEach [e2] X.env)).any (·.1) = false := by rfl) :
    PI X (.Tuple elts kk tpos) (.Call (.Name "zip" p) [e, e2] [] pos) (iZipM X.K ta) := by
  refine ⟨fun pins s σ H R I h => ?_⟩
  refine Call_ (ld_blt I hg hm PyProof.Rows.boot_zip (PyProof.Rows.callWith_type1 (thn (ha.run pos pins s σ H _ I h) fun us s1 ⟨vs, H1, I1, r1, q1⟩ => ?_) hs hpl))
  obtain ⟨a, b, S1, S2, xs, ys, rfl, b1, b2, s1', s2', q⟩ := q1
  obtain ⟨oa, Ta, Oa, A1⟩ := b1.starts X.prog X.w
  obtain ⟨ob, Tb, Ob, A2⟩ := b2.starts X.prog X.w
  cases r1 with
  | cons r rr =>
    cases rr with
    | cons r' rr =>
      cases rr
      cases r
      cases r'
      obtain ⟨n, hn⟩ : ∃ n : Nat, n = s1.heap.objs.size := ⟨_, rfl⟩
      have dummy : a ≠ a + 1 := Nat.ne_of_lt (Nat.lt_succ_self a)
      have dummy2 : b ≠ b + 1 := Nat.ne_of_lt (Nat.lt_succ_self b)
      obtain ⟨its1, v1, o1⟩ := (A1.side (a + 1) dummy).read X rfl rfl rfl pins σ H1 s1 xs I1 s1'
      obtain ⟨its2, v2, o2⟩ := (A2.side (b + 1) dummy2).read X rfl rfl rfl pins σ H1 s1 ys I1 s2'
      have la := A1.lt _ _ o1
      have lb := A2.lt _ _ o2
      refine zip_begins2 (A1.beg its1.toArray) (A2.beg its2.toArray) o1 o2 fun h' hz hTI hTO h1 h2 hsz hk => wpAny_pyIter_zip hz ?_
      have I2 : Inv X pins σ H1 { s1 with heap := h' } := I1.kept (t' := s1.toks) hk
      have na : a ≠ s1.heap.objs.size := Nat.ne_of_lt la
      have nb : b ≠ s1.heap.objs.size + 1 := Nat.ne_of_lt (Nat.lt_succ_of_lt lb)
      refine ⟨s1.heap.objs.size + 4, [s1.heap.objs.size + 4, s1.heap.objs.size + 2, s1.heap.objs.size + 3, s1.heap.objs.size, s1.heap.objs.size + 1], _, _, H1, rfl, I2,
        turnM (zip_sep2 (fp1 := [a]) (fp2 := [b]) (by simpa using la) (by simpa using lb)) (A1.side _ na) (A2.side _ nb), ⟨hz, hTI, ⟨_, _, hTO⟩, A1.made _ _ h1, A2.made _ _ h2⟩, fun c hcm => ?_, q⟩
      have hle : s1.heap.objs.size ≤ c := by
        rcases five hcm with rfl | rfl | rfl | rfl | rfl
        · exact Nat.le_add_right _ _
        · exact Nat.le_add_right _ _
        · exact Nat.le_add_right _ _
        · exact Nat.le_refl _
        · exact Nat.le_add_right _ _
      exact I1.fpOk hle (I1.hok.fresh hle)
/-! ### over data -/
def seqD : D → Option (List D)
  | .list xs => some xs
  | .tuple xs => some xs
  | _ => none
def twoD (x y : D) : D := .tuple [x, y]
def gZip : D → D → (List D → Prop) → Prop := fun x y q => match seqD x, seqD y with | some xs, some ys => q (List.zipWith twoD xs ys) | _, _ => False
def iZipD (da db : RE) : RL := fun ρ q => da ρ fun x => db ρ fun y => gZip x y q
theorem SqB.of {K : Frag} {F H : Hp} {v : V} {d : D} {xs : List D} (fh : Same F H) (r : Bor K F H v d) (h : seqD d = some xs) : ∃ a S vs, v = .ref a ∧ SqB K a S ∧ S H vs ∧ DpAll K F vs xs := by
  cases d with
  | list ys =>
    cases h
    obtain ⟨a, vs, rfl, s1, d1⟩ := r.lst fh
    exact ⟨a, _, vs, rfl, .l, s1, d1⟩
  | tuple ys =>
    cases h
    obtain ⟨a, vs, rfl, s0, s1, d1⟩ := r.tup fh
    exact ⟨a, _, vs, rfl, .t, s1, d1⟩
  | _ => cases h
theorem SqB.up {K : Frag} {a : Addr} {S : Hp → List V → Prop} (h : SqB K a S) {H H' : Hp} (e : Same H H') {xs : List V} (q : S H xs) : S H' xs := by
  cases h with
  | l => exact e.seq q
  | t => exact e.seqT q
theorem iter_zipM {K : Frag} {a b : Addr} {S1 S2 : Hp → List V → Prop} {us vs : List V} {xs ys : List D} {F G : Hp} (b1 : SqB K a S1) (b2 : SqB K b S2) (h1 : S1 G us) (h2 : S2 G vs) (d1 : DpAll K F us xs) (d2 : DpAll K F vs ys) :
    IterOk K (ItM S1 S2) F G (List.zipWith twoD xs ys) := fun F1 H1 sF sG s1 i => by
  have q1 := b1.up sG h1
  have q2 := b2.up sG h2
  have l1 := d1.length
  have l2 := d2.length
  have ll : (List.zipWith twoD xs ys).length = min xs.length ys.length := List.length_zipWith
  refine ⟨fun hi => ?_, fun hi => ⟨us, vs, q1, q2, by omega⟩⟩
  have hx : i < xs.length := by omega
  have hy : i < ys.length := by omega
  obtain ⟨u, hu, ru⟩ := d1.get (List.getElem?_eq_getElem hx)
  obtain ⟨v, hv, rv⟩ := d2.get (List.getElem?_eq_getElem hy)
  refine ⟨⟨us, vs, u, v, q1, q2, hu, hv⟩, fun x H2 y => ?_⟩
  obtain ⟨T, x', y', rfl, hT, rfl, f1, f2⟩ := y
  have e1 := f1 us q1
  have e2 := f2 vs q2
  rw [hu] at e1
  rw [hv] at e2
  cases e1
  cases e2
  refine ⟨upd F1 T (.tup [u, v]), Gr.new s1 hT, twoD xs[i] ys[i], ?_, ?_⟩
  · rw [List.getElem?_zipWith, List.getElem?_eq_getElem hx, List.getElem?_eq_getElem hy]
  · have g := Gr.new (o := .tup [u, v]) s1 hT
    exact .tup (.inl (.inl upd_same)) (.cons (ru.mono (sF.trans g.ff)) (.cons (rv.mono (sF.trans g.ff)) .nil))
section
variable {X : Cx} {a b : Expr} {da db : RE} {pos : Pos}
theorem i_zipC {elts : List Expr} {kk : Nat} {tpos p : Pos} (h : DB X a da) (g' : DB X b db) (hm : X.mg "zip" = none) (hg : Gl X "zip" := by rfl) (hs2 : starEach [b] X.env = (false, eval b X.env) :: starEach [] X.env := by rfl)
    (hs : starEach [a, b] X.env = (false, eval a X.env) :: starEach [b] X.env := by rfl) (hpl : (backTo pos (starEach [b] X.env)).any (·.1) = false := by rfl) : DIc X (.Tuple elts kk tpos) (.Call (.Name "zip" p) [a, b] [] pos) (iZipD da db) := by
  obtain ⟨te, h1, h2⟩ := h
  obtain ⟨ue, u1, u2⟩ := g'
  refine ⟨_, pi_zipM hg hm (pa_cons h1 (pa_cons u1 pa_nil hs2) hs) hs hpl, fun B F H ρ σ E q hq R k => h2 B F H ρ σ E _ hq _ fun v x F1 H1 g1 r z => u2 B F1 H1 ρ σ (E.grow g1) _ z _ fun u y F2 H2 g2 r2 z => ?_⟩
  unfold gZip at z
  cases hx : seqD x with
  | none => rw [hx] at z; exact z.elim
  | some xs =>
    cases hy : seqD y with
    | none => rw [hx, hy] at z; exact z.elim
    | some ys =>
      rw [hx, hy] at z
      obtain ⟨a1, S1, vs, rfl, b1, s1, d1⟩ := SqB.of g2.fh (r.grow g2) hx
      obtain ⟨a2, S2, us, rfl, b2, s2, d2⟩ := SqB.of g2.fh r2 hy
      exact ⟨a1, a2, S1, S2, vs, us, rfl, b1, b2, s1, s2, k _ _ F2 H2 (g1.trans g2) (iter_zipM b1 b2 s1 s2 d1 d2) z⟩
theorem i_zip {elts : List Expr} {kk : Nat} {tpos p : Pos} (h : DE X a da) (g' : DE X b db) (hm : X.mg "zip" = none) (hg : Gl X "zip" := by rfl) (hs2 : starEach [b] X.env = (false, eval b X.env) :: starEach [] X.env := by rfl)
    (hs : starEach [a, b] X.env = (false, eval a X.env) :: starEach [b] X.env := by rfl) (hpl : (backTo pos (starEach [b] X.env)).any (·.1) = false := by rfl) : DI X (.Tuple elts kk tpos) (.Call (.Name "zip" p) [a, b] [] pos) (iZipD da db) := by
  obtain ⟨te, h1, h2⟩ := h
  obtain ⟨ue, u1, u2⟩ := g'
  refine ⟨_, pi_zipM hg hm (pa_cons h1 (pa_cons u1 pa_nil hs2) hs) hs hpl, fun B F H ρ σ E q hq R k => h2 B F H ρ σ E _ hq _ fun v x F1 H1 g1 r z => u2 B F1 H1 ρ σ (E.grow g1) _ z _ fun u y F2 H2 g2 r2 z => ?_⟩
  unfold gZip at z
  cases hx : seqD x with
  | none => rw [hx] at z; exact z.elim
  | some xs =>
    cases hy : seqD y with
    | none => rw [hx, hy] at z; exact z.elim
    | some ys =>
      rw [hx, hy] at z
      have F22 : Same F2 F2 := Same.refl F2
      obtain ⟨a1, S1, vs, rfl, b1, s1, d1⟩ := SqB.of (H := F2) F22 (.inl (r.mono g2.ff)) hx
      obtain ⟨a2, S2, us, rfl, b2, s2, d2⟩ := SqB.of (H := F2) F22 (.inl r2) hy
      exact ⟨a1, a2, S1, S2, vs, us, rfl, b1, b2, b1.up g2.fh s1, b2.up g2.fh s2, k _ _ F2 H2 (g1.trans g2) (iter_zipM b1 b2 s1 s2 d1 d2) z⟩
end
end DL
namespace DL
open PySem PySem.Spec PyProof.Rows L2 Builtin.Int
/-! ### any, all over data -/
def gAnyD : GA := fun xs q => match xs with | [d] => ∃ ds, seqD d = some ds ∧ (PyData.plainAll ds = true ∧ ∀ x ∈ ds, x.fits63) ∧ q (.bool (ds.any PyData.truthy)) | _ => False
def gAllD : GA := fun xs q => match xs with | [d] => ∃ ds, seqD d = some ds ∧ (PyData.plainAll ds = true ∧ ∀ x ∈ ds, x.fits63) ∧ q (.bool (ds.all PyData.truthy)) | _ => False
theorem sq_data {X : Cx} {pins : List (Addr × Obj)} {σ : L2.St} {H : Hp} {s : Shared} {v : V} {d : D} {ds : List D} {u : Value} (I : Inv X pins σ H s) (hd : Dp X.K H v d) (ru : RelV v u) (h : seqD d = some ds) :
    ∃ (l : Addr) (vs : Array Value) (as : List Addr), u = .ref l ∧ ReadsAll s.heap vs.toList ds as ∧ (s.heap.IsList l vs ∧ d = .list ds ∨ s.heap.IsTuple l vs ∧ d = .tuple ds) := by
  obtain ⟨as, rd⟩ := Dp.reads I d v u hd ru
  cases rd with
  | list h1 h2 h3 h4 =>
    cases h
    exact ⟨_, _, _, rfl, h4, .inl ⟨⟨_, h1, h2, _, h3⟩, rfl⟩⟩
  | tuple h1 h2 h3 h4 =>
    cases h
    exact ⟨_, _, _, rfl, h4, .inr ⟨⟨_, h1, h2, _, h3⟩, rfl⟩⟩
  | _ => cases h
section
variable {X : Cx}
theorem c_anyD (hc : X.calm = true := by rfl) : CallD X (.builtin "any") gAnyD := by
  refine ⟨fun vs H Q => ∃ v d ds, vs = [v] ∧ Dp X.K H v d ∧ seqD d = some ds ∧ (PyData.plainAll ds = true ∧ ∀ x ∈ ds, x.fits63) ∧ Q (.bl (ds.any PyData.truthy)) H, ?_, ?_⟩
  · rintro pins s σ H vs us Q I r ⟨v, d, ds, rfl, hd, hs, ⟨h1, h2⟩, q⟩
    cases r with
    | cons ru rt =>
      cases rt
      obtain ⟨l, vs, as, rfl, hr, ⟨hl, _⟩ | ⟨hl, _⟩⟩ := sq_data I hd ru hs
      · exact PySem.W.any_list_data (I.ok.hd hc) hl hr h1 h2 fun h' tk hk => ⟨.bl _, H, I.kept hk, rfl, q⟩
      · exact PySem.W.any_tuple_data (I.ok.hd hc) hl hr h1 h2 fun h' tk hk => ⟨.bl _, H, I.kept hk, rfl, q⟩
  · intro F H vs xs fh b q hq Q k
    cases b with
    | nil => exact hq.elim
    | cons b1 bt =>
      cases bt with
      | nil =>
        obtain ⟨ds, h1, h2, h3⟩ := hq
        exact ⟨_, _, ds, rfl, b1.dp fh, h1, h2, k _ _ F H (Gr.refl fh) (.bl _) h3⟩
      | cons _ _ => exact hq.elim
theorem c_allD (hc : X.calm = true := by rfl) : CallD X (.builtin "all") gAllD := by
  refine ⟨fun vs H Q => ∃ v d ds, vs = [v] ∧ Dp X.K H v d ∧ seqD d = some ds ∧ (PyData.plainAll ds = true ∧ ∀ x ∈ ds, x.fits63) ∧ Q (.bl (ds.all PyData.truthy)) H, ?_, ?_⟩
  · rintro pins s σ H vs us Q I r ⟨v, d, ds, rfl, hd, hs, ⟨h1, h2⟩, q⟩
    cases r with
    | cons ru rt =>
      cases rt
      obtain ⟨l, vs, as, rfl, hr, ⟨hl, _⟩ | ⟨hl, _⟩⟩ := sq_data I hd ru hs
      · exact PySem.W.all_list_data (I.ok.hd hc) hl hr h1 h2 fun h' tk hk => ⟨.bl _, H, I.kept hk, rfl, q⟩
      · exact PySem.W.all_tuple_data (I.ok.hd hc) hl hr h1 h2 fun h' tk hk => ⟨.bl _, H, I.kept hk, rfl, q⟩
  · intro F H vs xs fh b q hq Q k
    cases b with
    | nil => exact hq.elim
    | cons b1 bt =>
      cases bt with
      | nil =>
        obtain ⟨ds, h1, h2, h3⟩ := hq
        exact ⟨_, _, ds, rfl, b1.dp fh, h1, h2, k _ _ F H (Gr.refl fh) (.bl _) h3⟩
      | cons _ _ => exact hq.elim
end
theorem plain_ints : ∀ ns : List Int, PyData.plainAll (ns.map .int) = true
  | [] => rfl
  | n :: r => by simp [PyData.plainAll, PyData.plain, plain_ints r]
theorem fits_ints {ns : List Int} : ∀ x ∈ ns.map PyData.int, x.fits63 := by
  intro x hx
  obtain ⟨n, _, rfl⟩ := List.mem_map.mp hx
  exact trivial
theorem any_ints (ns : List Int) : (ns.map PyData.int).any PyData.truthy = ns.any (· != 0) := by
  rw [List.any_map]
  congr 1
theorem gAnyD_ints {d : D} {ns : List Int} {q : D → Prop} (h : seqD d = some (ns.map .int)) (hq : q (.bool (ns.any (· != 0)))) : gAnyD [d] q :=
  ⟨_, h, ⟨plain_ints ns, fits_ints⟩, by rw [any_ints]; exact hq⟩
theorem plain_bools : ∀ ns : List Bool, PyData.plainAll (ns.map .bool) = true
  | [] => rfl
  | n :: r => by simp [PyData.plainAll, PyData.plain, plain_bools r]
theorem fits_bools {ns : List Bool} : ∀ x ∈ ns.map PyData.bool, x.fits63 := by
  intro x hx
  obtain ⟨n, _, rfl⟩ := List.mem_map.mp hx
  exact trivial
theorem all_bools (ns : List Bool) : (ns.map PyData.bool).all PyData.truthy = ns.all id := by
  rw [List.all_map]
  congr 1
theorem gAllD_bools {d : D} {ns : List Bool} {q : D → Prop} (h : seqD d = some (ns.map .bool)) (hq : q (.bool (ns.all id))) : gAllD [d] q :=
  ⟨_, h, ⟨plain_bools ns, fits_bools⟩, by rw [all_bools]; exact hq⟩
theorem any_bools (ns : List Bool) : (ns.map PyData.bool).any PyData.truthy = ns.any id := by
  rw [List.any_map]
  congr 1
theorem gAnyD_bools {d : D} {ns : List Bool} {q : D → Prop} (h : seqD d = some (ns.map .bool)) (hq : q (.bool (ns.any id))) : gAnyD [d] q :=
  ⟨_, h, ⟨plain_bools ns, fits_bools⟩, by rw [any_bools]; exact hq⟩
end DL

namespace DL
open PySem PySem.Spec PyProof.Rows L2
/-! ### (..) * k for any small k -/
theorem tup_once (l : Addr) (items : Array Value) (n : Nat) (dd : Option Addr) (sl : Array (Option Value)) (u : Tok) :
    Meets (Builtin.«tuple.__mul__» ⟨[.ref l, .int 1 u], []⟩) (fun _ R s => s.heap.get? l = some { cls := .type "tuple", dict := dd, data := .seq items n, slots := sl } ∧ R (.ok (.ret (.ref l))) s) :=
  .of_wp fun prog w A R s h => by
    obtain ⟨hp, g, d, tk, os⟩ := s
    obtain ⟨hl, h⟩ := h
    have f1 := AutoSeq1.idx_int
    wp_walk using wpAny_loadPart' hl
    exact ⟨_, rfl, h⟩
theorem tup_never (l : Addr) (items : Array Value) (n : Nat) (dd : Option Addr) (sl : Array (Option Value)) (x : Int) (u : Tok) (h0 : x ≤ 0) (h1 : -1000 ≤ x) (hne : items.isEmpty = false) :
    Meets (Builtin.«tuple.__mul__» ⟨[.ref l, .int x u], []⟩) (fun _ R s => s.heap.get? l = some { cls := .type "tuple", dict := dd, data := .seq items n, slots := sl } ∧
      R (.ok (.ret (Value.ref s.heap.objs.size))) { s with heap := s.heap.push { cls := Value.type "tuple", data := Data.seq #[] }, toks := s.toks }) :=
  .of_wp fun prog w A R s h => by
    obtain ⟨hp, g, d, tk, os⟩ := s
    obtain ⟨hl, h⟩ := h
    have f1 := AutoSeq1.idx_int
    have c0 : (decide (x < -(2 ^ 63)) || decide (x ≥ 2 ^ 63)) = false := by
      rw [decide_eq_false (by omega), decide_eq_false (by omega)] <;> rfl
    have c1 : (items.isEmpty || x == 1) = false := by
      rw [hne, Bool.false_or]
      exact beq_eq_false_iff_ne.mpr (by omega)
    have c2 : (decide (x ≤ 0) || items.isEmpty) = true := by rw [decide_eq_true h0]; rfl
    wp_walk using wpAny_loadPart' hl
    refine wpAny_ite_false (decide_eq_false (by rw [c0]; exact Bool.false_ne_true)) ?_
    wp_walk using wpAny_loadPart' hl
    refine wpAny_ite_false (decide_eq_false (by rw [c1]; exact Bool.false_ne_true)) ?_
    wp_walk using wpAny_loadPart' hl
    exact ⟨_, rfl, h⟩
def rRepLow (K : Frag) : R2 := fun x y H Q => ∃ l k xs, x = .ref l ∧ y = .int k ∧ SqT K H l xs ∧ xs ≠ [] ∧ (k = 1 ∧ Q (.ref l) H ∨ -1000 ≤ k ∧ k ≤ 0 ∧ ∀ p, H p = none → Q (.ref p) (upd H p (.tup [])))
section
variable {X : Cx}
theorem op_repLow : OpR X (binaryOp .Mult) (rRepLow X.K) := by
  intro pins s σ H x y v u Q I rx ry h
  obtain ⟨l, k, xs, rfl, rfl, hT, hne, h⟩ := h
  cases rx
  obtain ⟨t, rfl⟩ := ry
  obtain ⟨its, r, ⟨⟨cls, dd, data, sl⟩, ho, hc, n, hd⟩, hs⟩ := I.tuple hT
  simp only at hc hd
  subst hc hd
  have hi : its.toArray.isEmpty = false := by
    have := r.length
    cases its with
    | nil => exact absurd (List.eq_nil_of_length_eq_zero this) hne
    | cons a b => rfl
  refine wpAny_binaryOp_repeat_ref (T := "tuple") (U := "int") (by decide) ⟨_, ho, rfl⟩ (fun s' => typeIs_int s' k t) noFill_tuple_mul F.fills_int_mul F.slot_int_rmul repeat_tuple F.slot_int_index.lookup
    (call_meets F.slot_int_rmul (typeIs_int s k t) F.entry_int_rmul (F.args_int_rmul_2 _ _) (int_rmul_tuple k t l its.toArray n dd sl) ⟨ho, rfl, ⟨_, ho, rfl⟩, ?_⟩)
  rcases h with ⟨rfl, q⟩ | ⟨h1, h2, q⟩
  · exact call_meets F.slot_tuple_mul ⟨_, ho, rfl⟩ F.entry_tuple_mul (F.args_tuple_mul_2 _ _) (tup_once l its.toArray n dd sl t) ⟨ho, ⟨.ref l, H, I, rfl, q⟩⟩
  · refine call_meets F.slot_tuple_mul ⟨_, ho, rfl⟩ F.entry_tuple_mul (F.args_tuple_mul_2 _ _) (tup_never l its.toArray n dd sl k t h2 h1 hi) ⟨ho, ?_⟩
    refine ⟨.ref s.heap.objs.size, _, I.laid (t' := s.toks) (o := .tup []) (fun b ob q => Heap.get?_push_of_some _ q) (Nat.le_refl _) ?_, rfl, q _ (I.hok.fresh (Nat.le_refl _))⟩
    exact ⟨Nat.zero_le _, _, .nil, IsTup.new _ _⟩
end
def gRepT2 : G2 := fun x y q => match x, y with | .tuple xs, .int k => (xs ≠ [] ∧ -1000 ≤ k ∧ k ≤ 1000 ∧ xs.length ≤ 1000) ∧ q (.tuple (List.replicate k.toNat xs).flatten) | _, _ => False
theorem o_repLow {X : Cx} : OpD X (binaryOp .Mult) (fun x y q => gRepT2 x y q ∧ ∀ k, y = .int k → k ≤ 1) := by
  refine ⟨_, op_repLow, fun F H v u x y fh bx bY q hq Q k => ?_⟩
  obtain ⟨hq, hk⟩ := hq
  unfold gRepT2 at hq
  split at hq
  · rename_i xs j
    obtain ⟨⟨h1, h2, h3, h4⟩, z⟩ := hq
    have hj := hk j rfl
    obtain ⟨p, vs, rfl, s0, s1, d1⟩ := bx.tup fh
    refine ⟨p, j, vs, rfl, bY.int, s1, fun e => h1 ?_, ?_⟩
    · subst e
      cases d1
      rfl
    · rcases Int.lt_or_le 0 j with c | c
      · have : j = 1 := by omega
        subst this
        refine .inl ⟨rfl, k _ (.tuple xs) F H (Gr.refl fh) (.tup s0 d1) ?_⟩
        simpa using z
      · refine .inr ⟨h2, c, fun p2 hp2 => ?_⟩
        have g := Gr.new (o := .tup []) fh hp2
        refine k _ (.tuple []) _ _ g (.tup (.inl (.inl upd_same)) .nil) ?_
        have e : j.toNat = 0 := by omega
        rw [e] at z
        exact z
  · exact hq.elim
theorem o_repT2 {X : Cx} : OpD X (binaryOp .Mult) gRepT2 := OpD.or o_repT o_repLow fun x y q h => by
  unfold gRepT2 at h
  split at h
  · rename_i xs j
    by_cases c : 2 ≤ j
    · exact .inl ⟨⟨h.1.1, c, h.1.2.2.1, h.1.2.2.2⟩, h.2⟩
    · exact .inr ⟨h, fun k e => by cases e; omega⟩
  · exact h.elim
end DL
namespace DL
open PySem PySem.Spec PyProof.Rows L2
/-! ### a tuple or a list -/
def sqD (t : Bool) (xs : List D) : D := if t then .tuple xs else .list xs
theorem sqD_t (xs : List D) : .tuple xs = sqD true xs := rfl
theorem sqD_l (xs : List D) : .list xs = sqD false xs := rfl
theorem seqD_sq (t : Bool) (xs : List D) : seqD (sqD t xs) = some xs := by cases t <;> rfl
theorem seqD_l (xs : List D) : seqD (.list xs) = some xs := rfl
theorem seqD_t (xs : List D) : seqD (.tuple xs) = some xs := rfl
theorem gSl_l {xs : List D} {lo hi : Option Int} {q : D → Prop} : gSl (.list xs) lo hi q = q (.list (cutD xs lo hi)) := rfl
theorem gSl_t {xs : List D} {lo hi : Option Int} {q : D → Prop} : gSl (.tuple xs) lo hi q = q (.tuple (cutD xs lo hi)) := rfl
theorem gSl_sq {t : Bool} {xs : List D} {lo hi : Option Int} {q : D → Prop} : gSl (sqD t xs) lo hi q = q (sqD t (cutD xs lo hi)) := by cases t <;> rfl
theorem gSq_l {xs : List D} {q : List D → Prop} : gSq (.list xs) q = q xs := rfl
theorem gSq_t {xs : List D} {q : List D → Prop} : gSq (.tuple xs) q = q xs := rfl
theorem gSq_sq {t : Bool} {xs : List D} {q : List D → Prop} : gSq (sqD t xs) q = q xs := by cases t <;> rfl
theorem gIx_sq {t : Bool} {xs : List D} {i : Int} {q : D → Prop} : gIx (sqD t xs) (.int i) q = gIx (.list xs) (.int i) q := by cases t <;> rfl
theorem gLen_sq {t : Bool} {xs : List D} {q : D → Prop} : gLen [sqD t xs] q = q (.int xs.length) := by cases t <;> rfl
theorem gLen_l {xs : List D} {q : D → Prop} : gLen [.list xs] q = q (.int xs.length) := rfl
theorem gLen_t {xs : List D} {q : D → Prop} : gLen [.tuple xs] q = q (.int xs.length) := rfl
theorem gLen_s {z : Str} {q : D → Prop} : gLen [.str z] q = (Fit z.length ∧ q (.int z.length)) := rfl
theorem gTuple_l {xs : List D} {q : D → Prop} : gTuple [.list xs] q = q (.tuple xs) := rfl
theorem gTuple_t {xs : List D} {q : D → Prop} : gTuple [.tuple xs] q = q (.tuple xs) := rfl
theorem lList_l {xs : List D} {q : List D → Prop} : lList [.list xs] q = q xs := rfl
theorem lList_t {xs : List D} {q : List D → Prop} : lList [.tuple xs] q = q xs := rfl
theorem gTuple_sq {t : Bool} {xs : List D} {q : D → Prop} : gTuple [sqD t xs] q = q (.tuple xs) := by cases t <;> rfl
theorem lList_sq {t : Bool} {xs : List D} {q : List D → Prop} : lList [sqD t xs] q = q xs := by cases t <;> rfl
theorem gZip_sq {t u : Bool} {xs ys : List D} {q : List D → Prop} : gZip (sqD t xs) (sqD u ys) q = q (List.zipWith twoD xs ys) := by cases t <;> cases u <;> rfl
theorem gZip_ts {u : Bool} {xs ys : List D} {q : List D → Prop} : gZip (.tuple xs) (sqD u ys) q = q (List.zipWith twoD xs ys) := by cases u <;> rfl
theorem gZip_st {u : Bool} {xs ys : List D} {q : List D → Prop} : gZip (sqD u xs) (.tuple ys) q = q (List.zipWith twoD xs ys) := by cases u <;> rfl
theorem gZip_ls {u : Bool} {xs ys : List D} {q : List D → Prop} : gZip (.list xs) (sqD u ys) q = q (List.zipWith twoD xs ys) := by cases u <;> rfl
theorem gZip_sl {u : Bool} {xs ys : List D} {q : List D → Prop} : gZip (sqD u xs) (.list ys) q = q (List.zipWith twoD xs ys) := by cases u <;> rfl
theorem gZip_tt {xs ys : List D} {q : List D → Prop} : gZip (.tuple xs) (.tuple ys) q = q (List.zipWith twoD xs ys) := rfl
theorem gZip_ll {xs ys : List D} {q : List D → Prop} : gZip (.list xs) (.list ys) q = q (List.zipWith twoD xs ys) := rfl
theorem gZip_lt {xs ys : List D} {q : List D → Prop} : gZip (.list xs) (.tuple ys) q = q (List.zipWith twoD xs ys) := rfl
theorem gZip_tl {xs ys : List D} {q : List D → Prop} : gZip (.tuple xs) (.list ys) q = q (List.zipWith twoD xs ys) := rfl
/-- both parts of a vector of 2 * n items -/
theorem cut_low {xs : List D} {n : Nat} (h : n ≤ xs.length) : cutD xs none (some (n : Int)) = xs.take n := by
  unfold cutD
  rw [HT.sIx_none, HT.sIx_nat, List.drop_zero, Nat.sub_zero, Nat.min_eq_left h]
theorem cut_high {xs : List D} {n : Nat} (h : n ≤ xs.length) : cutD xs (some (n : Int)) none = xs.drop n := by
  unfold cutD
  rw [HT.sIx_none, HT.sIx_nat, Nat.min_eq_left h, List.take_of_length_le (by simp)]
/-- str(i) of a whole number -/
def gStr1 : GA := fun xs q => match xs with | [.int i] => i.natAbs.log2 < 1920 ∧ q (.str (toString i)) | _ => False
section
variable {X : Cx}
theorem c_str : CallD X (.type "str") gStr1 := by
  refine ⟨_, call_str_int, fun F H vs xs fh bx q hq Q k => ?_⟩
  unfold gStr1 at hq
  split at hq
  · obtain ⟨v, rfl, b⟩ := bx.one
    exact ⟨_, by rw [b.int], hq.1, k _ _ F H (Gr.refl fh) (.str _) hq.2⟩
  · exact hq.elim
end
/-- (a, b, ..) = a tuple or a list -/
def rTL (n : Nat) (g : RGs) : RG := fun d ρ q => match d with | .tuple xs => xs.length = n ∧ g xs ρ q | .list xs => xs.length = n ∧ g xs ρ q | _ => False
theorem rTL_sq {n : Nat} {g : RGs} {t : Bool} {xs : List D} {ρ : Rho} {q : Rho → Prop} : rTL n g (sqD t xs) ρ q = (xs.length = n ∧ g xs ρ q) := by cases t <;> rfl
theorem rTL_t {n : Nat} {g : RGs} {xs : List D} {ρ : Rho} {q : Rho → Prop} : rTL n g (.tuple xs) ρ q = (xs.length = n ∧ g xs ρ q) := rfl
theorem rTL_l {n : Nat} {g : RGs} {xs : List D} {ρ : Rho} {q : Rho → Prop} : rTL n g (.list xs) ρ q = (xs.length = n ∧ g xs ρ q) := rfl
section
variable {X : Cx} {pos : Pos}
theorem pg_or {e : Expr} {g1 g2 : TG} (h1 : PG X e g1) (h2 : PG X e g2) : PG X e (fun v σ H Q => g1 v σ H Q ∨ g2 v σ H Q) :=
  ⟨fun pins s σ H v u Q I r hw => hw.elim (h1.run pins s σ H v u Q I r) (h2.run pins s σ H v u Q I r)⟩
theorem tg_tl {es : List Expr} {k : Nat} {dg : RGs} {n : Nat} (h : DGs X es dg) (hc : X.calm = true := by rfl)
    (hn : (assignEach es X.env).length = n := by rfl) (hst : (assignEach es X.env).findIdx? (·.1) = none := by rfl) : DG X (.Tuple es k pos) (rTL n dg) := by
  obtain ⟨g, a1, a2⟩ := h
  refine ⟨_, pg_or (pg_tup hc a1 hn hst) (pg_unl hc a1 hn hst), fun B F H ρ σ v d E r q h Q k => ?_⟩
  cases d with
  | tuple xs =>
    cases r with
    | tup hs ha => exact .inl ⟨_, _, rfl, E.fh.seqT hs, by rw [ha.length]; exact h.1, a2 B F H ρ σ _ xs E ha q h.2 Q k⟩
  | list xs =>
    cases r with
    | lst hs ha => exact .inr ⟨_, _, rfl, E.fh.seq hs, by rw [ha.length]; exact h.1, a2 B F H ρ σ _ xs E ha q h.2 Q k⟩
  | _ => exact h.elim
end
/-- text * int -/
def gMulS : G2 := fun x y q => match x, y with | .str x, .int n => (x.length ≤ 10 ∧ 0 ≤ n ∧ n ≤ 1000) ∧ q (.str (PySem.Txt.mul x n)) | _, _ => False
section
variable {X : Cx}
theorem op_mulS : OpR X (binaryOp .Mult) (fun x y H Q => ∃ i n, x = .str i ∧ y = .int n ∧ (i.length ≤ 10 ∧ 0 ≤ n ∧ n ≤ 1000) ∧ Q (.str (PySem.Txt.mul i n)) H) := by
  intro pins s σ H x y v u Q I rx ry h
  obtain ⟨i, n, rfl, rfl, hz, q⟩ := h
  obtain ⟨t, rfl⟩ := rx
  obtain ⟨t', rfl⟩ := ry
  exact PySem.SB.mul (mulOk_of 10 1000 hz.1 (by omega) (by omega) (by decide) (by decide)) (fun t' tk => ⟨.str _, H, I.tok _, ⟨_, rfl⟩, q⟩)
theorem o_mulS : OpD X (binaryOp .Mult) gMulS := by
  refine ⟨_, op_mulS, fun F H v u x y fh bx bY q hq Q k => ?_⟩
  unfold gMulS at hq
  split at hq
  · exact ⟨_, _, bx.str, bY.int, hq.1, k _ _ F H (Gr.refl fh) (.str _) hq.2⟩
  · exact hq.elim
end
theorem gMulS_s {x : Str} {n : Int} {q : D → Prop} : gMulS (.str x) (.int n) q = ((x.length ≤ 10 ∧ 0 ≤ n ∧ n ≤ 1000) ∧ q (.str (PySem.Txt.mul x n))) := rfl
theorem gStr1_i {i : Int} {q : D → Prop} : gStr1 [.int i] q = (i.natAbs.log2 < 1920 ∧ q (.str (toString i))) := rfl
theorem rp_strI {a : Int} (h : Builtin.Int.intBits a ≤ 200) : rpD (.str (toString a)) = true := by
  simp only [rpD]
  refine decide_eq_true ?_
  have e := int_text_length_le10 (a := a) (k := 300) (by decide) (Nat.lt_of_lt_of_le ((PySem.intBits_le_iff.mp h)) (by decide))
  have e2 := PySem.StrLaws.reprText_len (Str.ofString (toString a)) fun c hc => by
    rw [Str.ofString_eq_toList] at hc
    simp only [List.toList_toArray, List.mem_map] at hc
    obtain ⟨ch, _, rfl⟩ := hc
    exact ch.val.toNat_lt
  rw [PySem.ofString_length] at e2
  show (reprText (Str.ofString (toString a))).length + 2 ≤ 3700
  omega
end DL

namespace TV
/-! #### the ring -/
open Lean.Grind
local instance natI {R : Type} [CommRing R] : NatCast R := Semiring.natCast
local instance intI {R : Type} [CommRing R] : IntCast R := Ring.intCast
section
variable {R : Type} [CommRing R]
structure Q (R : Type) (v : R) where
  a : R
  b : R
theorem Q.ext' {v : R} {x y : Q R v} (h1 : x.a = y.a) (h2 : x.b = y.b) : x = y := by
  cases x; cases y; cases h1; cases h2; rfl
def Q.npow {v : R} (x : Q R v) : Nat → Q R v
  | 0 => ⟨1, 0⟩
  | n + 1 => ⟨(Q.npow x n).a * x.a + v * ((Q.npow x n).b * x.b), (Q.npow x n).a * x.b + (Q.npow x n).b * x.a⟩
instance (v : R) : CommRing (Q R v) where
  add x y := ⟨x.a + y.a, x.b + y.b⟩
  mul x y := ⟨x.a * y.a + v * (x.b * y.b), x.a * y.b + x.b * y.a⟩
  natCast := ⟨fun n => ⟨(n : R), 0⟩⟩
  ofNat n := ⟨⟨OfNat.ofNat n, 0⟩⟩
  nsmul := ⟨fun n x => ⟨(n : R) * x.a + v * (0 * x.b), (n : R) * x.b + 0 * x.a⟩⟩
  npow := ⟨Q.npow⟩
  neg x := ⟨-x.a, -x.b⟩
  sub x y := ⟨x.a - y.a, x.b - y.b⟩
  intCast := ⟨fun n => ⟨(n : R), 0⟩⟩
  zsmul := ⟨fun n x => ⟨(n : R) * x.a, (n : R) * x.b⟩⟩
  add_zero x := Q.ext' (Semiring.add_zero _) (Semiring.add_zero _)
  add_comm x y := Q.ext' (Semiring.add_comm _ _) (Semiring.add_comm _ _)
  add_assoc x y z := Q.ext' (Semiring.add_assoc _ _ _) (Semiring.add_assoc _ _ _)
  mul_assoc x y z := Q.ext' (show (x.a * y.a + v * (x.b * y.b)) * z.a + v * ((x.a * y.b + x.b * y.a) * z.b) = x.a * (y.a * z.a + v * (y.b * z.b)) + v * (x.b * (y.a * z.b + y.b * z.a)) by grind) (show (x.a * y.a + v * (x.b * y.b)) * z.b + (x.a * y.b + x.b * y.a) * z.a = x.a * (y.a * z.b + y.b * z.a) + x.b * (y.a * z.a + v * (y.b * z.b)) by grind)
  mul_one x := Q.ext' (show x.a * 1 + v * (x.b * 0) = x.a by grind) (show x.a * 0 + x.b * 1 = x.b by grind)
  one_mul x := Q.ext' (show 1 * x.a + v * (0 * x.b) = x.a by grind) (show 1 * x.b + 0 * x.a = x.b by grind)
  left_distrib x y z := Q.ext' (show x.a * (y.a + z.a) + v * (x.b * (y.b + z.b)) = (x.a * y.a + v * (x.b * y.b)) + (x.a * z.a + v * (x.b * z.b)) by grind) (show x.a * (y.b + z.b) + x.b * (y.a + z.a) = (x.a * y.b + x.b * y.a) + (x.a * z.b + x.b * z.a) by grind)
  right_distrib x y z := Q.ext' (show (x.a + y.a) * z.a + v * ((x.b + y.b) * z.b) = (x.a * z.a + v * (x.b * z.b)) + (y.a * z.a + v * (y.b * z.b)) by grind) (show (x.a + y.a) * z.b + (x.b + y.b) * z.a = (x.a * z.b + x.b * z.a) + (y.a * z.b + y.b * z.a) by grind)
  zero_mul x := Q.ext' (show 0 * x.a + v * (0 * x.b) = 0 by grind) (show 0 * x.b + 0 * x.a = 0 by grind)
  mul_zero x := Q.ext' (show x.a * 0 + v * (x.b * 0) = 0 by grind) (show x.a * 0 + x.b * 0 = 0 by grind)
  pow_zero x := rfl
  pow_succ x n := rfl
  ofNat_succ n := Q.ext' (Semiring.ofNat_succ n) (show (0 : R) = 0 + 0 by grind)
  ofNat_eq_natCast n := Q.ext' (Semiring.ofNat_eq_natCast n) rfl
  nsmul_eq_natCast_mul n x := rfl
  neg_add_cancel x := Q.ext' (Ring.neg_add_cancel _) (Ring.neg_add_cancel _)
  sub_eq_add_neg x y := Q.ext' (Ring.sub_eq_add_neg _ _) (Ring.sub_eq_add_neg _ _)
  neg_zsmul i x := Q.ext' (show ((-i : Int) : R) * x.a = -((i : R) * x.a) by rw [Ring.intCast_neg]; grind) (show ((-i : Int) : R) * x.b = -((i : R) * x.b) by rw [Ring.intCast_neg]; grind)
  zsmul_natCast_eq_nsmul n x := Q.ext' (show (((n : Int)) : R) * x.a = (n : R) * x.a + v * (0 * x.b) by rw [Ring.intCast_natCast]; grind) (show (((n : Int)) : R) * x.b = (n : R) * x.b + 0 * x.a by rw [Ring.intCast_natCast]; grind)
  intCast_ofNat n := Q.ext' (Ring.intCast_ofNat n) rfl
  intCast_neg i := Q.ext' (Ring.intCast_neg i) (show (0 : R) = -0 by grind)
  mul_comm x y := Q.ext' (show x.a * y.a + v * (x.b * y.b) = y.a * x.a + v * (y.b * x.b) by grind) (show x.a * y.b + x.b * y.a = y.a * x.b + y.b * x.a by grind)
end
/-! #### the tower: each letter the root of a vector over the letters before -/
structure Lv where
  T : Type
  R : CommRing T
  f : (Nat → Int) → T
  c : T → Nat → Int
/-- rs k j: item j of radicand k -/
def lev (rs : Nat → Nat → Int) : Nat → Lv
  | 0 => ⟨Int, inferInstance, fun g => g 0, fun t _ => t⟩
  | n + 1 => ⟨Q (lev rs n).T ((lev rs n).f (rs n)), @instCommRingQ _ (lev rs n).R _, fun g => ⟨(lev rs n).f g, (lev rs n).f fun j => g (j + 2 ^ n)⟩, fun t j => if j < 2 ^ n then (lev rs n).c t.a j else (lev rs n).c t.b (j - 2 ^ n)⟩
def T (rs : Nat → Nat → Int) (n : Nat) : Type := (lev rs n).T
instance (rs : Nat → Nat → Int) (n : Nat) : CommRing (T rs n) := (lev rs n).R
section
variable {rs : Nat → Nat → Int}
def Tf (rs : Nat → Nat → Int) (n : Nat) (g : Nat → Int) : T rs n := (lev rs n).f g
def cf {rs : Nat → Nat → Int} {n : Nat} (t : T rs n) : Nat → Int := (lev rs n).c t
def rad (rs : Nat → Nat → Int) (n : Nat) : T rs n := Tf rs n (rs n)
def mk {n : Nat} (x y : T rs n) : T rs (n + 1) := (⟨x, y⟩ : Q (T rs n) (rad rs n))
def lo {n : Nat} (x : T rs (n + 1)) : T rs n := Q.a (v := rad rs n) x
def hi {n : Nat} (x : T rs (n + 1)) : T rs n := Q.b (v := rad rs n) x
theorem mk_eta {n : Nat} (x : T rs (n + 1)) : mk (lo x) (hi x) = x := rfl
theorem lo_mk {n : Nat} (x y : T rs n) : lo (mk x y) = x := rfl
theorem hi_mk {n : Nat} (x y : T rs n) : hi (mk x y) = y := rfl
theorem mk_add {n : Nat} (a b c d : T rs n) : mk a b + mk c d = mk (a + c) (b + d) := rfl
theorem mk_sub {n : Nat} (a b c d : T rs n) : mk a b - mk c d = mk (a - c) (b - d) := rfl
theorem mk_neg {n : Nat} (a b : T rs n) : -mk a b = mk (-a) (-b) := rfl
theorem mk_mul {n : Nat} (a b c d : T rs n) : mk a b * mk c d = mk (a * c + rad rs n * (b * d)) (a * d + b * c) := rfl
theorem mk_zero {n : Nat} : (0 : T rs (n + 1)) = mk 0 0 := rfl
theorem mk_one {n : Nat} : (1 : T rs (n + 1)) = mk 1 0 := rfl
theorem mk_inj {n : Nat} {a b c d : T rs n} (h : mk a b = mk c d) : a = c ∧ b = d := ⟨congrArg lo h, congrArg hi h⟩
theorem Tf_zero (g : Nat → Int) : Tf rs 0 g = g 0 := rfl
theorem Tf_succ (n : Nat) (g : Nat → Int) : Tf rs (n + 1) g = mk (Tf rs n g) (Tf rs n fun j => g (j + 2 ^ n)) := rfl
theorem cf_zero (t : T rs 0) (j : Nat) : cf t j = t := rfl
theorem cf_mk {n : Nat} (a b : T rs n) (j : Nat) : cf (mk a b) j = if j < 2 ^ n then cf a j else cf b (j - 2 ^ n) := rfl
theorem two_pow_succ' (n : Nat) : 2 ^ (n + 1) = 2 ^ n + 2 ^ n := by rw [Nat.pow_succ]; omega
theorem Tf_congr : ∀ {n : Nat} {g h : Nat → Int}, (∀ j, j < 2 ^ n → g j = h j) → Tf rs n g = Tf rs n h
  | 0, g, h, e => e 0 (by decide)
  | n + 1, g, h, e => by
    have e2 := two_pow_succ' n
    rw [Tf_succ, Tf_succ, Tf_congr fun j hj => e j (by omega), Tf_congr (g := fun j => g (j + 2 ^ n)) (h := fun j => h (j + 2 ^ n)) fun j hj => e (j + 2 ^ n) (by omega)]
theorem cf_Tf : ∀ {n : Nat} {g : Nat → Int} {j : Nat}, j < 2 ^ n → cf (Tf rs n g) j = g j
  | 0, g, j, h => by
    have : j = 0 := by simpa using h
    subst this
    rfl
  | n + 1, g, j, h => by
    have e2 := two_pow_succ' n
    rw [Tf_succ, cf_mk]
    split
    · rename_i c; exact cf_Tf c
    · rename_i c
      rw [cf_Tf (by omega)]
      congr 1
      omega
theorem Tf_cf : ∀ {n : Nat} (t : T rs n), Tf rs n (cf t) = t
  | 0, t => rfl
  | n + 1, t => by
    rw [← mk_eta t, Tf_succ]
    generalize lo t = a
    generalize hi t = b
    have h1 : Tf rs n (cf (mk a b)) = a := by
      refine (Tf_congr (h := cf a) fun j hj => ?_).trans (Tf_cf a)
      rw [cf_mk, if_pos hj]
    have h2 : (Tf rs n fun j => cf (mk a b) (j + 2 ^ n)) = b := by
      refine (Tf_congr (h := cf b) fun j hj => ?_).trans (Tf_cf b)
      show cf (mk a b) (j + 2 ^ n) = _
      rw [cf_mk, if_neg (by omega), Nat.add_sub_cancel]
    rw [h1, h2]
theorem cf_inj {n : Nat} {s t : T rs n} (h : ∀ j, j < 2 ^ n → cf s j = cf t j) : s = t := by
  rw [← Tf_cf s, ← Tf_cf t]
  exact Tf_congr h
theorem Tf_add : ∀ {n : Nat} (g h : Nat → Int), Tf rs n (fun j => g j + h j) = Tf rs n g + Tf rs n h
  | 0, g, h => rfl
  | n + 1, g, h => by rw [Tf_succ, Tf_succ, Tf_succ, mk_add, Tf_add, Tf_add (fun j => g (j + 2 ^ n))]
theorem Tf_neg : ∀ {n : Nat} (g : Nat → Int), Tf rs n (fun j => -g j) = -Tf rs n g
  | 0, g => rfl
  | n + 1, g => by rw [Tf_succ, Tf_succ, mk_neg, Tf_neg, Tf_neg (fun j => g (j + 2 ^ n))]
theorem Tf_sub {n : Nat} (g h : Nat → Int) : Tf rs n (fun j => g j - h j) = Tf rs n g - Tf rs n h := by
  rw [Ring.sub_eq_add_neg, ← Tf_neg, ← Tf_add]
  rfl
theorem Tf_nil : ∀ {n : Nat}, Tf rs n (fun _ => 0) = 0
  | 0 => rfl
  | n + 1 => by rw [Tf_succ, mk_zero, Tf_nil]
/-- a whole number -/
def wh (rs : Nat → Nat → Int) (n : Nat) (k : Int) : T rs n := Tf rs n fun j => if j = 0 then k else 0
theorem wh_succ {n : Nat} {k : Int} : wh rs (n + 1) k = mk (wh rs n k) 0 := by
  unfold wh
  rw [Tf_succ]
  congr 1
  rw [← Tf_nil]
  refine Tf_congr fun j _ => ?_
  show (if j + 2 ^ n = 0 then k else 0) = 0
  have := Nat.two_pow_pos n
  rw [if_neg (by omega)]
theorem wh_mul : ∀ {n : Nat} (k : Int) (g : Nat → Int), Tf rs n (fun j => k * g j) = wh rs n k * Tf rs n g
  | 0, k, g => rfl
  | n + 1, k, g => by
    rw [Tf_succ, Tf_succ, wh_succ, mk_mul, wh_mul k g, wh_mul k fun j => g (j + 2 ^ n)]
    congr 1 <;> grind
theorem wh_one {n : Nat} : wh rs n 1 = 1 := by
  induction n with
  | zero => rfl
  | succ n ih => rw [wh_succ, ih, mk_one]
theorem wh_zero {n : Nat} : wh rs n 0 = 0 := by
  unfold wh
  rw [← Tf_nil]
  exact Tf_congr fun j _ => by split <;> rfl
theorem wh_add {n : Nat} (a b : Int) : wh rs n (a + b) = wh rs n a + wh rs n b := by
  unfold wh
  rw [← Tf_add]
  exact Tf_congr fun j _ => by split <;> simp
theorem wh_mm {n : Nat} (a b : Int) : wh rs n (a * b) = wh rs n a * wh rs n b := by
  show _ = wh rs n a * Tf rs n _
  rw [← wh_mul]
  exact Tf_congr fun j _ => by split <;> simp
/-! #### letters -/
def lt (rs : Nat → Nat → Int) : (n p : Nat) → T rs n
  | 0, _ => 0
  | n + 1, p => if p = n then mk 0 1 else mk (lt rs n p) 0
theorem lt_top {n : Nat} : lt rs (n + 1) n = mk 0 1 := if_pos rfl
theorem lt_low {n p : Nat} (h : p < n) : lt rs (n + 1) p = mk (lt rs n p) 0 := if_neg (Nat.ne_of_lt h)
/-- items at places with a letter, from the places without it -/
def up (p : Nat) (g : Nat → Int) : Nat → Int := fun j => if j / 2 ^ p % 2 = 1 then g (j - 2 ^ p) else 0
def dn (p : Nat) (g : Nat → Int) : Nat → Int := fun j => if j / 2 ^ p % 2 = 0 then g (j + 2 ^ p) else 0
theorem bit_shift {n p j : Nat} (h : p < n) : (j + 2 ^ n) / 2 ^ p % 2 = j / 2 ^ p % 2 := by
  have e : 2 ^ n = 2 ^ p * (2 * 2 ^ (n - p - 1)) := by
    rw [← Nat.pow_succ', ← Nat.pow_add]
    congr 1
    omega
  rw [e, Nat.add_mul_div_left _ _ (Nat.two_pow_pos p), Nat.add_mul_mod_self_left]
theorem bit_small {p j : Nat} (h : j < 2 ^ p) : j / 2 ^ p % 2 = 0 := by rw [Nat.div_eq_of_lt h]
theorem bit_high {p j : Nat} (h : j < 2 ^ p) : (j + 2 ^ p) / 2 ^ p % 2 = 1 := by rw [Nat.add_div_right _ (Nat.two_pow_pos p), Nat.div_eq_of_lt h]
/-- a vector over the letters before p, among more letters -/
theorem Tf_sup {n : Nat} {g : Nat → Int} (h : ∀ j, 2 ^ n ≤ j → g j = 0) : Tf rs (n + 1) g = mk (Tf rs n g) 0 := by
  rw [Tf_succ]
  congr 1
  rw [← Tf_nil]
  exact Tf_congr fun j _ => h _ (by omega)
theorem bit_ge {p j : Nat} (h : j / 2 ^ p % 2 = 1) : 2 ^ p ≤ j := by
  refine Nat.not_lt.mp fun c => ?_
  rw [bit_small c] at h
  omega
theorem mul_letter {p : Nat} (hr : ∀ j, 2 ^ p ≤ j → rs p j = 0) : ∀ {n : Nat} (g : Nat → Int), p < n → Tf rs n (up p g) + Tf rs n (dn p g) * Tf rs n (rs p) = Tf rs n g * lt rs n p := by
  intro n
  induction n with
  | zero => intro g h; omega
  | succ n ih =>
    intro g h
    by_cases c : p = n
    · subst c
      rw [Tf_sup hr, lt_top, Tf_succ, Tf_succ, Tf_succ, mk_mul, mk_mul, mk_add]
      have e1 : Tf rs p (up p g) = 0 := by
        rw [← Tf_nil]
        refine Tf_congr fun j hj => ?_
        unfold up
        rw [bit_small hj, if_neg (by decide)]
      have e2 : (Tf rs p fun j => up p g (j + 2 ^ p)) = Tf rs p g := Tf_congr fun j hj => by
        unfold up
        rw [bit_high hj, if_pos rfl, Nat.add_sub_cancel]
      have e3 : Tf rs p (dn p g) = Tf rs p fun j => g (j + 2 ^ p) := Tf_congr fun j hj => by
        unfold dn
        rw [bit_small hj, if_pos rfl]
      have e4 : (Tf rs p fun j => dn p g (j + 2 ^ p)) = 0 := by
        rw [← Tf_nil]
        refine Tf_congr fun j hj => ?_
        unfold dn
        rw [bit_high hj, if_neg (by decide)]
      rw [e1, e2, e3, e4]
      show mk _ _ = mk _ _
      unfold rad
      congr 1 <;> grind
    · have hp : p < n := by omega
      have hr2 : ∀ j, 2 ^ n ≤ j → rs p j = 0 := fun j hj => hr j (Nat.le_trans (Nat.pow_le_pow_right (by decide) (by omega)) hj)
      rw [Tf_sup hr2, lt_low hp, Tf_succ, Tf_succ, Tf_succ, mk_mul, mk_mul, mk_add]
      have e1 : (Tf rs n fun j => up p g (j + 2 ^ n)) = Tf rs n (up p fun j => g (j + 2 ^ n)) := Tf_congr fun j hj => by
        unfold up
        rw [bit_shift hp]
        split
        · rename_i q
          have := bit_ge q
          congr 1
          omega
        · rfl
      have e2 : (Tf rs n fun j => dn p g (j + 2 ^ n)) = Tf rs n (dn p fun j => g (j + 2 ^ n)) := Tf_congr fun j hj => by
        unfold dn
        rw [bit_shift hp]
        split
        · congr 1
          omega
        · rfl
      rw [e1, e2]
      have a1 := ih g hp
      have a2 := ih (fun j => g (j + 2 ^ n)) hp
      congr 1 <;> grind
/-- the product of the letters of a place, those below p -/
def pb (rs : Nat → Nat → Int) (n k : Nat) : Nat → T rs n
  | 0 => 1
  | p + 1 => if k / 2 ^ p % 2 = 1 then pb rs n k p * lt rs n p else pb rs n k p
theorem pb_up {n k : Nat} : ∀ {p : Nat}, p ≤ n → pb rs (n + 1) k p = mk (pb rs n k p) 0
  | 0, _ => mk_one
  | p + 1, h => by
    unfold pb
    rw [pb_up (by omega), lt_low (by omega), mk_mul]
    split
    · congr 1 <;> grind
    · rfl
theorem pb_bits {n k k' : Nat} : ∀ {p : Nat}, (∀ q, q < p → k / 2 ^ q % 2 = k' / 2 ^ q % 2) → pb rs n k p = pb rs n k' p
  | 0, _ => rfl
  | p + 1, h => by
    unfold pb
    rw [h p (by omega), pb_bits fun q hq => h q (by omega)]
theorem unit_pb : ∀ {n k : Nat} (c : Int), k < 2 ^ n → Tf rs n (fun j => if j = k then c else 0) = wh rs n c * pb rs n k n
  | 0, k, c, h => by
    have : k = 0 := by simpa using h
    subst this
    show (if 0 = 0 then c else 0) = (if 0 = 0 then c else 0) * (1 : Int)
    simp
  | n + 1, k, c, h => by
    have e2 := two_pow_succ' n
    rw [wh_succ, Tf_succ]
    unfold pb
    by_cases hk : k < 2 ^ n
    · rw [bit_small hk, if_neg (by decide), pb_up (Nat.le_refl _), mk_mul, unit_pb c hk]
      have : (Tf rs n fun j => if j + 2 ^ n = k then c else 0) = 0 := by
        rw [← Tf_nil]
        exact Tf_congr fun j _ => if_neg (by omega)
      rw [this]
      congr 1 <;> grind
    · obtain ⟨i, rfl⟩ : ∃ i, k = i + 2 ^ n := ⟨k - 2 ^ n, by omega⟩
      have hi' : i < 2 ^ n := by omega
      rw [bit_high hi', if_pos rfl, pb_up (Nat.le_refl _), lt_top, pb_bits (k' := i) fun q hq => bit_shift hq, mk_mul, mk_mul]
      have a1 : (Tf rs n fun j => if j = i + 2 ^ n then c else 0) = 0 := by
        rw [← Tf_nil]
        exact Tf_congr fun j hj => if_neg (by omega)
      have a2 : (Tf rs n fun j => if j + 2 ^ n = i + 2 ^ n then c else 0) = wh rs n c * pb rs n i n := by
        rw [← unit_pb c hi']
        refine Tf_congr fun j hj => ?_
        by_cases e : j = i
        · subst e; rw [if_pos rfl, if_pos rfl]
        · rw [if_neg e, if_neg (by omega)]
      rw [a1, a2]
      congr 1 <;> grind
end
/-! #### how great the items grow -/
section
open PySem.Builtin.Int PySem PyProof PySem.Spec PyProof.Rows L2
variable {rs : Nat → Nat → Int}
def Bd {n : Nat} (m : Nat) (t : T rs n) : Prop := ∀ j, j < 2 ^ n → intBits (cf t j) ≤ m
theorem cf_add : ∀ {n : Nat} (s t : T rs n) (j : Nat), cf (s + t) j = cf s j + cf t j
  | 0, s, t, j => rfl
  | n + 1, s, t, j => by
    rw [← mk_eta s, ← mk_eta t, mk_add, cf_mk, cf_mk, cf_mk]
    split <;> rw [cf_add]
theorem cf_neg : ∀ {n : Nat} (s : T rs n) (j : Nat), cf (-s) j = -cf s j
  | 0, s, j => rfl
  | n + 1, s, j => by
    rw [← mk_eta s, mk_neg, cf_mk, cf_mk]
    split <;> rw [cf_neg]
theorem cf_sub {n : Nat} (s t : T rs n) (j : Nat) : cf (s - t) j = cf s j - cf t j := by
  rw [Ring.sub_eq_add_neg, cf_add, cf_neg, Int.sub_eq_add_neg]
theorem Bd.lo {n m : Nat} {t : T rs (n + 1)} (h : Bd m t) : Bd m (lo t) := fun j hj => by
  have e2 := two_pow_succ' n
  have := h j (by omega)
  rwa [← mk_eta t, cf_mk, if_pos hj] at this
theorem Bd.hi {n m : Nat} {t : T rs (n + 1)} (h : Bd m t) : Bd m (hi t) := fun j hj => by
  have e2 := two_pow_succ' n
  have := h (j + 2 ^ n) (by omega)
  rwa [← mk_eta t, cf_mk, if_neg (by omega), Nat.add_sub_cancel] at this
theorem Bd.mk {n m : Nat} {a b : T rs n} (h : Bd m a) (g : Bd m b) : Bd m (mk a b) := fun j hj => by
  have e2 := two_pow_succ' n
  rw [cf_mk]
  split
  · rename_i c; exact h j c
  · exact g _ (by omega)
theorem Bd.up {n m m' : Nat} {t : T rs n} (h : Bd m t) (e : m ≤ m') : Bd m' t := fun j hj => Nat.le_trans (h j hj) e
theorem Bd.add {n m : Nat} {s t : T rs n} (h : Bd m s) (g : Bd m t) : Bd (m + 1) (s + t) := fun j hj => by
  rw [cf_add]
  have := intBits_add_le (h j hj) (g j hj)
  omega
theorem Bd.neg {n m : Nat} {s : T rs n} (h : Bd m s) : Bd m (-s) := fun j hj => by
  rw [cf_neg]
  exact intBits_neg_le (h j hj)
theorem Bd.sub {n m : Nat} {s t : T rs n} (h : Bd m s) (g : Bd m t) : Bd (m + 1) (s - t) := by
  rw [Ring.sub_eq_add_neg]
  exact h.add g.neg
def gro (r : Nat) : Nat → Nat
  | 0 => 0
  | n + 1 => 2 * gro r n + r + 1
theorem mul_bd {r : Nat} : ∀ {n : Nat}, (∀ k j, k < n → intBits (rs k j) ≤ r) → ∀ {a b : Nat} {s t : T rs n}, Bd a s → Bd b t → Bd (a + b + gro r n) (s * t)
  | 0, hr, a, b, s, t, hs, ht => fun j hj => by
    have key : ∀ x y : Int, intBits x ≤ a → intBits y ≤ b → intBits (x * y) ≤ a + b := fun x y h g => intBits_mul_le h g
    exact key s t (hs j hj) (ht j hj)
  | n + 1, hr, a, b, s, t, hs, ht => by
    have hr' : ∀ k j, k < n → intBits (rs k j) ≤ r := fun k j h => hr k j (by omega)
    have hv : Bd r (rad rs n) := fun j hj => by
      show intBits (cf (Tf rs n (rs n)) j) ≤ r
      rw [cf_Tf hj]
      exact hr n j (by omega)
    rw [← mk_eta s, ← mk_eta t, mk_mul]
    have e1 := mul_bd hr' hs.lo ht.lo
    have e2 := mul_bd hr' hs.hi ht.hi
    have e3 := mul_bd hr' hs.lo ht.hi
    have e4 := mul_bd hr' hs.hi ht.lo
    have e5 := mul_bd hr' hv e2
    have g : gro r (n + 1) = 2 * gro r n + r + 1 := rfl
    refine Bd.mk ?_ ?_
    · exact (Bd.add (e1.up (m' := a + b + 2 * gro r n + r) (by omega)) (e5.up (by omega))).up (by omega)
    · exact (Bd.add (e3.up (m' := a + b + 2 * gro r n + r) (by omega)) (e4.up (by omega))).up (by omega)
end
/-! #### as lists -/
def fn (l : List Int) : Nat → Int := fun j => l.getD j 0
section
variable {rs : Nat → Nat → Int}
def ofT {n : Nat} (t : T rs n) : List Int := (List.range (2 ^ n)).map (cf t)
def toT (rs : Nat → Nat → Int) (n : Nat) (l : List Int) : T rs n := Tf rs n (fn l)
theorem ofT_length {n : Nat} (t : T rs n) : (ofT t).length = 2 ^ n := by simp [ofT]
theorem fn_ofT {n : Nat} (t : T rs n) (j : Nat) (h : j < 2 ^ n) : fn (ofT t) j = cf t j := by
  simp [fn, ofT, h]
theorem toT_ofT {n : Nat} (t : T rs n) : toT rs n (ofT t) = t := by
  unfold toT
  rw [Tf_congr (fn_ofT t), Tf_cf]
theorem ofT_toT {n : Nat} (l : List Int) (h : l.length = 2 ^ n) : ofT (toT rs n l) = l := by
  refine List.ext_getElem (by simp [ofT, h]) fun i h1 h2 => ?_
  simp only [ofT, toT, List.getElem_map, List.getElem_range]
  rw [cf_Tf (by omega)]
  simp [fn, h2]
theorem toT_inj {n : Nat} {l m : List Int} (hl : l.length = 2 ^ n) (hm : m.length = 2 ^ n) (h : toT rs n l = toT rs n m) : l = m := by
  rw [← ofT_toT (rs := rs) l hl, h, ofT_toT m hm]
theorem ofT_get {n : Nat} (t : T rs n) (j : Nat) (h : j < 2 ^ n) : (ofT t)[j]? = some (cf t j) := by simp [ofT, h]
theorem toT_ext {n : Nat} {l : List Int} {g : Nat → Int} (h : ∀ j, j < 2 ^ n → l.getD j 0 = g j) : toT rs n l = Tf rs n g := Tf_congr h
theorem ofT_mk {n : Nat} (a b : T rs n) : ofT (mk a b) = ofT a ++ ofT b := by
  unfold ofT
  rw [two_pow_succ', List.range_add, List.map_append, List.map_map]
  congr 1
  · refine List.map_congr_left fun j hj => ?_
    rw [cf_mk, if_pos (by simpa using hj)]
  · refine List.map_congr_left fun j hj => ?_
    show cf (mk a b) (2 ^ n + j) = _
    rw [cf_mk, if_neg (by omega), Nat.add_sub_cancel_left]
theorem toT_succ {n : Nat} (l : List Int) : toT rs (n + 1) l = mk (toT rs n (l.take (2 ^ n))) (toT rs n (l.drop (2 ^ n))) := by
  unfold toT
  rw [Tf_succ]
  congr 1
  · refine Tf_congr fun j hj => ?_
    simp [fn, List.getD_eq_getElem?_getD, List.getElem?_take, hj]
  · refine Tf_congr fun j hj => ?_
    simp [fn, List.getD_eq_getElem?_getD, List.getElem?_drop, Nat.add_comm]
end
section
open PySem.Builtin.Int PySem PyProof PySem.Spec PyProof.Rows L2
variable {rs : Nat → Nat → Int}
def BdL (m : Nat) (l : List Int) : Prop := ∀ i ∈ l, intBits i ≤ m
theorem bits0 (m : Nat) : intBits 0 ≤ m := Nat.le_trans (show intBits 0 ≤ 0 by decide) (Nat.zero_le m)
theorem BdL.fn {m : Nat} {l : List Int} (h : BdL m l) (j : Nat) : intBits (fn l j) ≤ m := by
  unfold TV.fn
  rw [List.getD_eq_getElem?_getD]
  cases e : l[j]? with
  | none => exact bits0 m
  | some i => exact h i (List.mem_of_getElem? e)
theorem BdL.toT {m n : Nat} {l : List Int} (h : BdL m l) : Bd m (toT rs n l) := fun j hj => by
  unfold TV.toT
  rw [cf_Tf hj]
  exact h.fn j
theorem Bd.ofT {m n : Nat} {t : T rs n} (h : Bd m t) : BdL m (ofT t) := fun i hi => by
  unfold TV.ofT at hi
  obtain ⟨j, hj, rfl⟩ := List.mem_map.mp hi
  exact h j (by simpa using hj)
theorem BdL.up {m m' : Nat} {l : List Int} (h : BdL m l) (e : m ≤ m') : BdL m' l := fun i hi => Nat.le_trans (h i hi) e
theorem BdL.take {m k : Nat} {l : List Int} (h : BdL m l) : BdL m (l.take k) := fun i hi => h i (List.mem_of_mem_take hi)
theorem BdL.drop {m k : Nat} {l : List Int} (h : BdL m l) : BdL m (l.drop k) := fun i hi => h i (List.mem_of_mem_drop hi)
end
end TV

namespace TV
open Lean.Grind
section
variable {rs : Nat → Nat → Int}
/-! ### a weight of vectors -/
def wf {rs : Nat → Nat → Int} : {n : Nat} → T rs n → Nat
  | 0, t => (cf t 0).natAbs
  | n + 1, t => wf (lo t) + 4096 * wf (hi t)
theorem wf_mk {n : Nat} (a b : T rs n) : wf (mk a b) = wf a + 4096 * wf b := rfl
theorem wf_neg : ∀ {n : Nat} (a : T rs n), wf (-a) = wf a
  | 0, a => by show (cf (-a) 0).natAbs = (cf a 0).natAbs; rw [cf_neg, Int.natAbs_neg]
  | n + 1, a => by rw [← mk_eta a, mk_neg, wf_mk, wf_mk, wf_neg, wf_neg]
theorem wf_add : ∀ {n : Nat} (a b : T rs n), wf (a + b) ≤ wf a + wf b
  | 0, a, b => by show (cf (a + b) 0).natAbs ≤ (cf a 0).natAbs + (cf b 0).natAbs; rw [cf_add]; exact Int.natAbs_add_le _ _
  | n + 1, a, b => by
    rw [← mk_eta a, ← mk_eta b, mk_add, wf_mk, wf_mk, wf_mk]
    have h1 := wf_add (lo a) (lo b)
    have h2 := wf_add (hi a) (hi b)
    omega
theorem wf_sub {n : Nat} (a b : T rs n) : wf (a - b) ≤ wf a + wf b := by
  rw [Ring.sub_eq_add_neg]
  have := wf_add a (-b)
  rwa [wf_neg] at this
theorem wf_zero : ∀ {n : Nat}, wf (0 : T rs n) = 0
  | 0 => rfl
  | n + 1 => by rw [mk_zero, wf_mk, wf_zero]
theorem wf_one : ∀ {n : Nat}, wf (1 : T rs n) = 1
  | 0 => rfl
  | n + 1 => by rw [mk_one, wf_mk, wf_one, wf_zero]
theorem wf_mul : ∀ {n : Nat}, (∀ k, k < n → wf (rad rs k) ≤ 16777216) → ∀ a b : T rs n, wf (a * b) ≤ wf a * wf b
  | 0, _, a, b => by
    have : ∀ x y : Int, (x * y).natAbs ≤ x.natAbs * y.natAbs := fun x y => Nat.le_of_eq (Int.natAbs_mul x y)
    exact this a b
  | n + 1, h, a, b => by
    have h' : ∀ k, k < n → wf (rad rs k) ≤ 16777216 := fun k hk => h k (by omega)
    rw [← mk_eta a, ← mk_eta b, mk_mul, wf_mk, wf_mk, wf_mk]
    generalize lo a = p
    generalize hi a = q
    generalize lo b = r
    generalize hi b = s
    have e1 := Nat.le_trans (wf_add (p * r) (rad rs n * (q * s))) (Nat.add_le_add (wf_mul h' p r) (wf_mul h' (rad rs n) (q * s)))
    have e2 := Nat.le_trans (wf_add (p * s) (q * r)) (Nat.add_le_add (wf_mul h' p s) (wf_mul h' q r))
    have e3 : wf (rad rs n) * wf (q * s) ≤ 16777216 * (wf q * wf s) := Nat.mul_le_mul (h n (by omega)) (wf_mul h' q s)
    have e4 : (wf p + 4096 * wf q) * (wf r + 4096 * wf s) = wf p * wf r + 16777216 * (wf q * wf s) + 4096 * (wf p * wf s + wf q * wf r) := by grind
    omega
theorem cf_le : ∀ {n : Nat} (t : T rs n) (j : Nat), j < 2 ^ n → (cf t j).natAbs ≤ wf t
  | 0, t, j, h => by
    have : j = 0 := by simpa using h
    subst this
    exact Nat.le_refl _
  | n + 1, t, j, h => by
    have e2 := two_pow_succ' n
    rw [← mk_eta t, cf_mk, wf_mk]
    split
    · rename_i c; have := cf_le (lo t) j c; omega
    · have := cf_le (hi t) (j - 2 ^ n) (by omega); omega
theorem wf_small : ∀ {n : Nat} {B : Nat} (t : T rs n), (∀ j, j < 2 ^ n → (cf t j).natAbs ≤ B) → wf t ≤ B * 4097 ^ n
  | 0, B, t, h => by
    have := h 0 (by decide)
    show (cf t 0).natAbs ≤ B * 1
    omega
  | n + 1, B, t, h => by
    have e2 := two_pow_succ' n
    rw [← mk_eta t] at h ⊢
    rw [wf_mk]
    have h1 := wf_small (B := B) (lo t) fun j hj => by have := h j (by omega); rwa [cf_mk, if_pos hj] at this
    have h2 := wf_small (B := B) (hi t) fun j hj => by have := h (j + 2 ^ n) (by omega); rwa [cf_mk, if_neg (by omega), Nat.add_sub_cancel] at this
    rw [Nat.pow_succ, ← Nat.mul_assoc]
    omega
theorem wf_eq_zero : ∀ {n : Nat} {t : T rs n}, wf t = 0 → t = 0 := fun {n t} h => cf_inj fun j hj => by
  have h1 := cf_le t j hj
  have h2 := cf_le (0 : T rs n) j hj
  rw [wf_zero] at h2
  omega
open PySem PySem.Builtin.Int PyProof PyProof.Rows L2 in
theorem wf_bd {n m : Nat} {t : T rs n} (h : wf t < 2 ^ m) : Bd m t := fun j hj => intBits_le_iff.mpr (Nat.lt_of_le_of_lt (cf_le t j hj) h)
/-! ### no square, no divisors of zero -/
def Dom (rs : Nat → Nat → Int) (n : Nat) : Prop := ∀ x y : T rs n, x * y = 0 → x = 0 ∨ y = 0
def NS {n : Nat} (v : T rs n) : Prop := ∀ x y : T rs n, x * x = v * (y * y) → y = 0
def nm {n : Nat} (x : T rs (n + 1)) : T rs n := lo x * lo x - rad rs n * (hi x * hi x)
theorem nm_mk {n : Nat} (a b : T rs n) : nm (mk a b) = a * a - rad rs n * (b * b) := rfl
theorem nm_mul {n : Nat} (x y : T rs (n + 1)) : nm (x * y) = nm x * nm y := by
  rw [← mk_eta x, ← mk_eta y, mk_mul, nm_mk, nm_mk, nm_mk]
  grind
def cj {n : Nat} (x : T rs (n + 1)) : T rs (n + 1) := mk (lo x) (-hi x)
theorem mul_cj {n : Nat} (x : T rs (n + 1)) : x * cj x = mk (nm x) 0 := by
  rw [← mk_eta x]
  show mk (lo x) (hi x) * mk (lo x) (-hi x) = mk (nm (mk (lo x) (hi x))) 0
  rw [mk_mul, nm_mk]
  congr 1 <;> grind
theorem dom_zero : Dom rs 0 := fun x y h => by
  have : ∀ a b : Int, a * b = 0 → a = 0 ∨ b = 0 := fun a b h => Int.mul_eq_zero.mp h
  exact this x y h
theorem Dom.sq {n : Nat} (h : Dom rs n) {x : T rs n} (e : x * x = 0) : x = 0 := (h x x e).elim id id
theorem nm_zero {n : Nat} (hd : Dom rs n) (hv : NS (rad rs n)) {x : T rs (n + 1)} (h : nm x = 0) : x = 0 := by
  have e1 : lo x * lo x = rad rs n * (hi x * hi x) := by
    have : lo x * lo x - rad rs n * (hi x * hi x) = 0 := h
    grind
  have e2 := hv _ _ e1
  rw [e2] at e1
  have e3 : lo x * lo x = 0 := by rw [e1]; grind
  have e4 := hd.sq e3
  rw [← mk_eta x, e2, e4, mk_zero]
theorem dom_succ {n : Nat} (hd : Dom rs n) (hv : NS (rad rs n)) : Dom rs (n + 1) := fun x y h => by
  have e : mk (nm x) 0 * y = 0 := by
    rw [← mul_cj]
    have : x * cj x * y = cj x * (x * y) := by grind
    rw [this, h]
    grind
  rw [← mk_eta y, mk_mul, mk_zero] at e
  obtain ⟨e1, e2⟩ := mk_inj e
  have e1 : nm x * lo y = 0 := by grind
  have e2 : nm x * hi y = 0 := by grind
  by_cases c : nm x = 0
  · exact .inl (nm_zero hd hv c)
  · refine .inr ?_
    have h1 := (hd _ _ e1).resolve_left c
    have h2 := (hd _ _ e2).resolve_left c
    rw [← mk_eta y, h1, h2, mk_zero]
theorem two_zero {n : Nat} {x : T rs n} (h : x + x = 0) : x = 0 := cf_inj fun j hj => by
  have := congrArg (fun t => cf t j) h
  simp only [cf_add] at this
  have z : cf (0 : T rs n) j = 0 := by
    have := cf_le (0 : T rs n) j hj
    rw [wf_zero] at this
    omega
  omega
theorem ns_norm {n : Nat} (hd : Dom rs n) (hv : NS (rad rs n)) {v : T rs (n + 1)} (h : NS (nm v)) : NS v := fun x y e => by
  have e1 : nm x * nm x = nm v * (nm y * nm y) := by rw [← nm_mul, e, nm_mul, nm_mul]
  exact nm_zero hd hv (h _ _ e1)
theorem ns_low {n : Nat} (hd : Dom rs n) (hv : NS (rad rs n)) {v : T rs n} (h1 : NS v) (h2 : NS (v * rad rs n)) : NS (mk v 0 : T rs (n + 1)) := fun x y e => by
  have e1 : (x * cj y) * (x * cj y) = mk (v * (nm y * nm y)) 0 := by
    have e2 : (x * cj y) * (x * cj y) = mk v 0 * ((y * cj y) * (y * cj y)) := by
      have : (x * cj y) * (x * cj y) = (x * x) * (cj y * cj y) := by grind
      rw [this, e]
      grind
    rw [e2, mul_cj, mk_mul, mk_mul]
    congr 1 <;> grind
  generalize x * cj y = p at e1
  rw [← mk_eta p, mk_mul] at e1
  obtain ⟨e2, e3⟩ := mk_inj e1
  have e4 : lo p * hi p = 0 := two_zero (by grind)
  refine nm_zero hd hv ?_
  rcases hd _ _ e4 with c | c
  · rw [c] at e2
    refine h2 (rad rs n * hi p) _ ?_
    have : rad rs n * (hi p * hi p) = v * (nm y * nm y) := by grind
    grind
  · rw [c] at e2
    exact h1 (lo p) _ (by grind)
theorem ns_sq {n : Nat} (hd : Dom rs n) {v s : T rs n} (hs : s ≠ 0) (h : NS v) : NS (v * (s * s)) := fun x y e => by
  have := h x (s * y) (by rw [e]; grind)
  exact (hd _ _ this).resolve_left hs
theorem wh_ne {n : Nat} {k : Int} (h : k ≠ 0) : wh rs n k ≠ 0 := fun e => by
  have this : cf (wh rs n k) 0 = cf (0 : T rs n) 0 := congrArg (fun t => cf t 0) e
  have hp := Nat.two_pow_pos n
  unfold wh at this
  rw [cf_Tf hp, if_pos rfl] at this
  have z := cf_le (0 : T rs n) 0 hp
  rw [wf_zero] at z
  omega
/-! ### whole numbers without a root -/
theorem int_sq {c x y : Int} (h : x * x = c * (y * y)) (hy : y ≠ 0) : ∃ z : Nat, c = (z * z : Nat) := by
  have hc : 0 ≤ c := by
    refine Int.not_lt.mp fun hc => ?_
    have h1 : 0 ≤ x * x := by
      rcases Int.le_total 0 x with q | q
      · exact Int.mul_nonneg q q
      · exact Int.mul_nonneg_of_nonpos_of_nonpos q q
    have h2 : 0 < y * y := by
      rcases Int.lt_or_gt_of_ne hy with q | q
      · exact Int.mul_pos_of_neg_of_neg q q
      · exact Int.mul_pos q q
    have := Int.mul_neg_of_neg_of_pos hc h2
    omega
  obtain ⟨c', rfl⟩ := Int.eq_ofNat_of_zero_le hc
  have h1 : x.natAbs * x.natAbs = c' * (y.natAbs * y.natAbs) := by
    have := congrArg Int.natAbs h
    rwa [Int.natAbs_mul, Int.natAbs_mul, Int.natAbs_mul, Int.natAbs_natCast] at this
  generalize x.natAbs = a at h1
  have hb : 0 < y.natAbs := by omega
  generalize y.natAbs = b at h1 hb
  obtain ⟨g, a', b', hg, hcop, rfl, rfl⟩ := Nat.exists_coprime' (m := a) (n := b) (Nat.gcd_pos_of_pos_right _ hb)
  have h2 : a' * a' = c' * (b' * b') := by
    have e : a' * g * (a' * g) = a' * a' * (g * g) := by grind
    have e' : c' * (b' * g * (b' * g)) = c' * (b' * b') * (g * g) := by grind
    rw [e, e'] at h1
    exact Nat.eq_of_mul_eq_mul_right (Nat.mul_pos hg hg) h1
  have h3 : b' ∣ a' * a' := ⟨c' * b', by rw [h2]; grind⟩
  have h4 : b' ∣ a' := Nat.Coprime.dvd_of_dvd_mul_left hcop.symm h3
  have h5 : b' = 1 := Nat.Coprime.eq_one_of_dvd hcop.symm h4
  subst h5
  exact ⟨a', by simp at h2; rw [h2]⟩
open PySem in
def sqB (c : Int) : Bool := decide (0 ≤ c) && Float64.isqrt c.toNat * Float64.isqrt c.toNat == c.toNat
theorem ns_zero {c : Int} (h : sqB c = false) : NS (wh rs 0 c) := fun x y e => by
  have key : ∀ x y : Int, x * x = c * (y * y) → y = 0 := fun x y e => by
    refine Decidable.byContradiction fun hy => ?_
    obtain ⟨z, rfl⟩ := int_sq e hy
    have h1 : DL.IsRoot (z * z) z := ⟨Nat.le_refl _, by rw [Nat.add_mul, Nat.mul_add]; omega⟩
    have h2 := (DL.isqrt_root (z * z)).uniq h1
    unfold sqB at h
    rw [Int.toNat_natCast, h2, decide_eq_true (Int.natCast_nonneg _)] at h
    simp at h
  exact key x y e
/-! ### rows of radicands -/
def Pr (rs : Nat → Nat → Int) (n : Nat) : Prop := ∀ k, k < n → NS (rad rs k)
theorem Pr.dom : ∀ {n : Nat}, Pr rs n → Dom rs n
  | 0, _ => dom_zero
  | n + 1, h => dom_succ (Pr.dom fun k hk => h k (by omega)) (h n (by omega))
theorem Pr.low {n m : Nat} (h : Pr rs n) (e : m ≤ n) : Pr rs m := fun k hk => h k (by omega)
theorem wh_sub {n : Nat} (a b : Int) : wh rs n (a - b) = wh rs n a - wh rs n b := by
  have : wh rs n (a - b) + wh rs n b = wh rs n a := by rw [← wh_add]; congr 1; omega
  grind
theorem rad_wh {k : Nat} {c : Int} (h : ∀ j, j < 2 ^ k → rs k j = if j = 0 then c else 0) : rad rs k = wh rs k c := Tf_congr h
theorem rad_succ {k : Nat} (g h : Nat → Int) (e1 : ∀ j, j < 2 ^ k → rs (k + 1) j = g j) (e2 : ∀ j, j < 2 ^ k → rs (k + 1) (j + 2 ^ k) = h j) : rad rs (k + 1) = mk (Tf rs k g) (Tf rs k h) := by
  unfold rad
  rw [Tf_succ, Tf_congr e1, Tf_congr e2]
/-- 2, 2 + r0, 2 + r1, .. -/
theorem pr_tower {n : Nat} (h : ∀ k j, k < n → j < 2 ^ k → rs k j = if j = 0 then 2 else if 0 < k ∧ j = 2 ^ (k - 1) then 1 else 0) : Pr rs n := by
  have r0 : 0 < n → rad rs 0 = wh rs 0 2 := fun hn => rad_wh fun j hj => by
    have : j = 0 := by simpa using hj
    subst this
    rw [h 0 0 hn hj]
    rfl
  have r1 : ∀ k, k + 1 < n → rad rs (k + 1) = mk (wh rs k 2) 1 := fun k hk => by
    have e2 := two_pow_succ' k
    have hp := Nat.two_pow_pos k
    rw [← wh_one]
    refine rad_succ _ _ (fun j hj => ?_) fun j hj => ?_
    · rw [h (k + 1) j hk (by omega), Nat.add_sub_cancel]
      by_cases c : j = 0
      · rw [if_pos c, if_pos c]
      · rw [if_neg c, if_neg c, if_neg (by omega)]
    · rw [h (k + 1) _ hk (by omega), Nat.add_sub_cancel, if_neg (by omega)]
      by_cases c : j = 0
      · rw [if_pos c, if_pos ⟨by omega, by omega⟩]
      · rw [if_neg c, if_neg (by omega)]
  have d0 : (wh rs 0 4 - wh rs 0 2 : T rs 0) = wh rs 0 2 := by rw [← wh_sub]; rfl
  have n2 : NS (wh rs 0 2) := ns_zero (by decide +kernel)
  have key : ∀ k, k < n → Pr rs (k + 1) ∧ NS (wh rs k 4 - rad rs k) := by
    intro k
    induction k with
    | zero =>
      intro hk
      refine ⟨fun i hi => ?_, ?_⟩
      · have : i = 0 := by omega
        subst this
        rw [r0 hk]
        exact n2
      · rw [r0 hk, d0]
        exact n2
    | succ k ih =>
      intro hk
      obtain ⟨p1, p2⟩ := ih (by omega)
      have dk := (p1.low (m := k) (by omega)).dom
      have nk := p1 k (by omega)
      have e4 : wh rs k 4 = wh rs k 2 * wh rs k 2 := by rw [← wh_mm]; rfl
      have a1 : NS (mk (wh rs k 2) 1 : T rs (k + 1)) := ns_norm dk nk (by
        rw [nm_mk]
        have : wh rs k 2 * wh rs k 2 - rad rs k * (1 * 1) = wh rs k 4 - rad rs k := by rw [e4]; grind
        rw [this]
        exact p2)
      have a2 : NS (mk (wh rs k 2) (-1) : T rs (k + 1)) := ns_norm dk nk (by
        rw [nm_mk]
        have : wh rs k 2 * wh rs k 2 - rad rs k * (-1 * -1) = wh rs k 4 - rad rs k := by rw [e4]; grind
        rw [this]
        exact p2)
      refine ⟨fun i hi => ?_, ?_⟩
      · by_cases c : i = k + 1
        · subst c
          rw [r1 k hk]
          exact a1
        · exact p1 i (by omega)
      · rw [r1 k hk, wh_succ, mk_sub]
        have : (wh rs k 4 - wh rs k 2 : T rs k) = wh rs k 2 := by rw [← wh_sub]; rfl
        rw [this, show (0 : T rs k) - 1 = -1 by grind]
        exact a2
  intro k hk
  exact (key k hk).1 k (by omega)
/-- a whole number, over roots of whole numbers -/
def nsF (f : Nat → Int) : Nat → Int → Bool
  | 0, c => !sqB c
  | n + 1, c => nsF f n c && nsF f n (c * f n)
theorem ns_whole {f s : Nat → Int} : ∀ {n : Nat} {c : Int}, (∀ k, k < n → rad rs k = wh rs k (f k * (s k * s k)) ∧ s k ≠ 0) → Pr rs n → nsF f n c = true → NS (wh rs n c)
  | 0, c, _, _, h => ns_zero (by simpa [nsF] using h)
  | n + 1, c, hr, hp, h => by
    have hp' : Pr rs n := hp.low (by omega)
    have hr' : ∀ k, k < n → rad rs k = wh rs k (f k * (s k * s k)) ∧ s k ≠ 0 := fun k hk => hr k (by omega)
    simp only [nsF, Bool.and_eq_true] at h
    rw [wh_succ]
    refine ns_low hp'.dom (hp n (by omega)) (ns_whole hr' hp' h.1) ?_
    rw [(hr n (by omega)).1, ← wh_mm, show c * (f n * (s n * s n)) = (c * f n) * (s n * s n) by grind, wh_mm, wh_mm (s n)]
    exact ns_sq hp'.dom (wh_ne (hr n (by omega)).2) (ns_whole hr' hp' h.2)
theorem pr_const {f s : Nat → Int} : ∀ {n : Nat}, (∀ k j, k < n → j < 2 ^ k → rs k j = if j = 0 then f k * (s k * s k) else 0) → (∀ k, k < n → s k ≠ 0) → (∀ k, k < n → nsF f k (f k) = true) → Pr rs n
  | 0, _, _, _ => fun k hk => by omega
  | n + 1, h, hs, hn => by
    have hp := pr_const (n := n) (fun k j hk => h k j (by omega)) (fun k hk => hs k (by omega)) fun k hk => hn k (by omega)
    have hr : ∀ k, k < n + 1 → rad rs k = wh rs k (f k * (s k * s k)) := fun k hk => rad_wh fun j hj => h k j hk hj
    intro k hk
    by_cases c : k = n
    · subst c
      rw [hr k (by omega), wh_mm, wh_mm (s k)]
      exact ns_sq hp.dom (wh_ne (hs k (by omega))) (ns_whole (fun i hi => ⟨hr i (by omega), hs i (by omega)⟩) hp (hn k (by omega)))
    · exact hp k (by omega)
/-- .. over the roots of p, of a + b * (the first one), and of whole numbers -/
def nsP (p : Int) (f : Nat → Int) : Nat → Int → Bool
  | 0, c => decide (c ≠ 0) && !sqB c && !sqB (c * p)
  | n + 1, c => nsP p f n c && nsP p f n (c * f (n + 2))
theorem ns_pair {p a b : Int} {f s : Nat → Int} (h0 : rad rs 0 = wh rs 0 p) (h1 : rad rs 1 = mk (wh rs 0 a) (wh rs 0 b)) (hp0 : sqB p = false) (hab : sqB (a * a - p * (b * b)) = false) :
    ∀ {n : Nat} {c : Int}, (∀ k, k < n → rad rs (k + 2) = wh rs (k + 2) (f (k + 2) * (s (k + 2) * s (k + 2))) ∧ s (k + 2) ≠ 0) → Pr rs (n + 2) → nsP p f n c = true → NS (wh rs (n + 2) c)
  | 0, c, _, hp, h => by
    simp only [nsP, Bool.and_eq_true, Bool.not_eq_true', decide_eq_true_eq] at h
    have d1 : Dom rs 1 := (hp.low (m := 1) (by omega)).dom
    rw [wh_succ]
    refine ns_low d1 (hp 1 (by omega)) ?_ ?_
    · rw [wh_succ]
      refine ns_low dom_zero (hp 0 (by omega)) (ns_zero h.1.2) ?_
      rw [h0, ← wh_mm]
      exact ns_zero h.2
    · refine ns_norm dom_zero (hp 0 (by omega)) ?_
      rw [nm_mul, wh_succ, h1, nm_mk, nm_mk, h0]
      have e : (wh rs 0 c * wh rs 0 c - wh rs 0 p * (0 * 0)) * (wh rs 0 a * wh rs 0 a - wh rs 0 p * (wh rs 0 b * wh rs 0 b)) = wh rs 0 (a * a - p * (b * b)) * (wh rs 0 c * wh rs 0 c) := by
        rw [wh_sub, wh_mm, wh_mm, wh_mm]
        grind
      rw [e]
      exact ns_sq dom_zero (wh_ne h.1.1) (ns_zero hab)
  | n + 1, c, hr, hp, h => by
    have hp' : Pr rs (n + 2) := hp.low (by omega)
    have hr' : ∀ k, k < n → rad rs (k + 2) = wh rs (k + 2) (f (k + 2) * (s (k + 2) * s (k + 2))) ∧ s (k + 2) ≠ 0 := fun k hk => hr k (by omega)
    simp only [nsP, Bool.and_eq_true] at h
    rw [wh_succ]
    refine ns_low hp'.dom (hp (n + 2) (by omega)) (ns_pair h0 h1 hp0 hab hr' hp' h.1) ?_
    rw [(hr n (by omega)).1, ← wh_mm, show c * (f (n + 2) * (s (n + 2) * s (n + 2))) = (c * f (n + 2)) * (s (n + 2) * s (n + 2)) by grind, wh_mm, wh_mm (s (n + 2))]
    exact ns_sq hp'.dom (wh_ne (hr n (by omega)).2) (ns_pair h0 h1 hp0 hab hr' hp' h.2)
theorem pr_pair {p a b : Int} {f s : Nat → Int} (hp0 : sqB p = false) (hab : sqB (a * a - p * (b * b)) = false) :
    ∀ {n : Nat}, (∀ k j, k < n → j < 2 ^ k → rs k j = if k = 0 then p else if k = 1 then (if j = 0 then a else b) else if j = 0 then f k * (s k * s k) else 0) → (∀ k, k < n → s k ≠ 0) → (∀ k, k + 2 < n → nsP p f k (f (k + 2)) = true) → Pr rs n
  | 0, _, _, _ => fun k hk => by omega
  | n + 1, h, hs, hn => by
    have hp := pr_pair hp0 hab (n := n) (fun k j hk => h k j (by omega)) (fun k hk => hs k (by omega)) fun k hk => hn k (by omega)
    have h0 : rad rs 0 = wh rs 0 p := rad_wh fun j hj => by
      have : j = 0 := by simpa using hj
      subst this
      rw [h 0 0 (by omega) hj]
      rfl
    have h1 : 1 < n + 1 → rad rs 1 = mk (wh rs 0 a) (wh rs 0 b) := fun hn => rad_succ _ _ (fun j hj => by
      have : j = 0 := by simpa using hj
      subst this
      rw [h 1 0 hn (by decide)]
      rfl) fun j hj => by
      have : j = 0 := by simpa using hj
      subst this
      rw [h 1 _ hn (by decide)]
      rfl
    have hr : ∀ k, k + 2 < n + 1 → rad rs (k + 2) = wh rs (k + 2) (f (k + 2) * (s (k + 2) * s (k + 2))) := fun k hk => rad_wh fun j hj => by
      rw [h (k + 2) j hk hj, if_neg (by omega), if_neg (by omega)]
    intro k hk
    by_cases c : k = n
    · subst c
      match k, hk, hp with
      | 0, _, _ => rw [h0]; exact ns_zero hp0
      | 1, hk, hp =>
        rw [h1 (by omega)]
        refine ns_norm dom_zero (hp 0 (by omega)) ?_
        rw [nm_mk, h0, ← wh_mm, ← wh_mm, ← wh_mm, ← wh_sub]
        exact ns_zero hab
      | k + 2, hk, hp =>
        rw [hr k (by omega), wh_mm, wh_mm (s (k + 2))]
        exact ns_sq hp.dom (wh_ne (hs (k + 2) (by omega))) (ns_pair h0 (h1 (by omega)) hp0 hab (fun i hi => ⟨hr i (by omega), hs (i + 2) (by omega)⟩) hp (hn k (by omega)))
    · exact hp k (by omega)
/-! ### inverses -/
open Classical in
noncomputable def invT : {n : Nat} → T rs n → T rs n × Int
  | 0, x => (1, cf x 0)
  | _ + 1, x => if hi x = 0 then (mk (invT (lo x)).1 0, (invT (lo x)).2) else (mk (lo x * (invT (nm x)).1) (-(hi x * (invT (nm x)).1)), (invT (nm x)).2)
theorem invT_flat {n : Nat} {x : T rs (n + 1)} (h : hi x = 0) : invT x = (mk (invT (lo x)).1 0, (invT (lo x)).2) := if_pos h
theorem invT_steep {n : Nat} {x : T rs (n + 1)} (h : hi x ≠ 0) : invT x = (mk (lo x * (invT (nm x)).1) (-(hi x * (invT (nm x)).1)), (invT (nm x)).2) := if_neg h
theorem inv_mul : ∀ {n : Nat} (x : T rs n), x * (invT x).1 = wh rs n (invT x).2
  | 0, x => by
    show x * 1 = wh rs 0 (cf x 0)
    have : wh rs 0 (cf x 0) = x := rfl
    rw [this]
    grind
  | n + 1, x => by
    by_cases h : hi x = 0
    · rw [invT_flat h, wh_succ, ← inv_mul (lo x)]
      conv => lhs; rw [← mk_eta x]
      rw [h]
      show mk (lo x) 0 * mk (invT (lo x)).1 0 = _
      rw [mk_mul]
      congr 1 <;> grind
    · rw [invT_steep h, wh_succ, ← inv_mul (nm x)]
      conv => lhs; rw [← mk_eta x]
      show mk (lo x) (hi x) * mk (lo x * (invT (nm x)).1) (-(hi x * (invT (nm x)).1)) = mk (nm x * (invT (nm x)).1) 0
      rw [mk_mul]
      generalize (invT (nm x)).1 = o
      show _ = mk ((lo x * lo x - rad rs n * (hi x * hi x)) * o) 0
      congr 1 <;> grind
theorem inv_ne : ∀ {n : Nat}, Pr rs n → ∀ {x : T rs n}, x ≠ 0 → (invT x).2 ≠ 0
  | 0, _, x, h => fun e => h (cf_inj fun j hj => by
    have : j = 0 := by simpa using hj
    subst this
    exact e)
  | n + 1, hp, x, h => by
    have hp' : Pr rs n := hp.low (by omega)
    by_cases c : hi x = 0
    · rw [invT_flat c]
      refine inv_ne hp' fun e => h ?_
      rw [← mk_eta x, e, c, mk_zero]
    · rw [invT_steep c]
      exact inv_ne hp' fun e => h (nm_zero hp'.dom (hp n (by omega)) e)
theorem nm_wf {n : Nat} (hw : ∀ k, k < n + 1 → wf (rad rs k) ≤ 16777216) (x : T rs (n + 1)) : wf (nm x) ≤ wf x * wf x := by
  have hw' : ∀ k, k < n → wf (rad rs k) ≤ 16777216 := fun k hk => hw k (by omega)
  have e1 := wf_sub (lo x * lo x) (rad rs n * (hi x * hi x))
  have e2 := wf_mul hw' (lo x) (lo x)
  have e3 := wf_mul hw' (rad rs n) (hi x * hi x)
  have e4 : wf (rad rs n) * wf (hi x * hi x) ≤ 16777216 * (wf (hi x) * wf (hi x)) := Nat.mul_le_mul (hw n (by omega)) (wf_mul hw' (hi x) (hi x))
  have e5 : wf x * wf x = (wf (lo x) + 4096 * wf (hi x)) * (wf (lo x) + 4096 * wf (hi x)) := rfl
  have e6 : (wf (lo x) + 4096 * wf (hi x)) * (wf (lo x) + 4096 * wf (hi x)) = wf (lo x) * wf (lo x) + 16777216 * (wf (hi x) * wf (hi x)) + 8192 * (wf (lo x) * wf (hi x)) := by grind
  have e7 : wf (nm x) ≤ wf (lo x * lo x) + wf (rad rs n * (hi x * hi x)) := e1
  omega
theorem pow_sq (M k : Nat) : (M * M) ^ k = M ^ (2 * k) := by rw [Nat.pow_mul, Nat.pow_two]
theorem inv_wf : ∀ {n : Nat}, (∀ k, k < n → wf (rad rs k) ≤ 16777216) → ∀ {M : Nat} {x : T rs n}, 1 ≤ M → wf x ≤ M → wf (invT x).1 * M ≤ M ^ 2 ^ n ∧ (invT x).2.natAbs ≤ M ^ 2 ^ n
  | 0, _, M, x, hM, h => by
    show wf (1 : T rs 0) * M ≤ M ^ 1 ∧ (cf x 0).natAbs ≤ M ^ 1
    rw [wf_one, Nat.pow_one]
    exact ⟨by omega, by have : wf x = (cf x 0).natAbs := rfl; omega⟩
  | n + 1, hw, M, x, hM, h => by
    have hw' : ∀ k, k < n → wf (rad rs k) ≤ 16777216 := fun k hk => hw k (by omega)
    have hx : wf x = wf (lo x) + 4096 * wf (hi x) := rfl
    by_cases c : hi x = 0
    · rw [invT_flat c]
      obtain ⟨h1, h2⟩ := inv_wf hw' (M := M) (x := lo x) hM (by omega)
      have h3 : M ^ 2 ^ n ≤ M ^ 2 ^ (n + 1) := Nat.pow_le_pow_right hM (Nat.pow_le_pow_right (by decide) (by omega))
      refine ⟨?_, Nat.le_trans h2 h3⟩
      show wf (mk (invT (lo x)).1 0) * M ≤ _
      rw [wf_mk, wf_zero]
      exact Nat.le_trans h1 h3
    · rw [invT_steep c]
      have hn := Nat.le_trans (nm_wf hw x) (Nat.mul_le_mul h h)
      obtain ⟨h1, h2⟩ := inv_wf hw' (M := M * M) (x := nm x) (Nat.mul_pos hM hM) hn
      rw [pow_sq, ← Nat.pow_succ'] at h1 h2
      refine ⟨?_, h2⟩
      show wf (mk (lo x * (invT (nm x)).1) (-(hi x * (invT (nm x)).1))) * M ≤ _
      rw [wf_mk, wf_neg]
      have e1 := wf_mul hw' (lo x) (invT (nm x)).1
      have e2 := wf_mul hw' (hi x) (invT (nm x)).1
      generalize wf (invT (nm x)).1 = o at *
      have e3 : wf (lo x) * o + 4096 * (wf (hi x) * o) ≤ M * o := by
        have : wf (lo x) * o + 4096 * (wf (hi x) * o) = wf x * o := by rw [hx]; grind
        rw [this]
        exact Nat.mul_le_mul_right _ h
      have e4 : (wf (lo x * (invT (nm x)).1) + 4096 * wf (hi x * (invT (nm x)).1)) ≤ M * o := by omega
      refine Nat.le_trans (Nat.mul_le_mul_right M e4) ?_
      have : M * o * M = o * (M * M) := by grind
      rw [this]
      exact h1
end
end TV
namespace TV
open Lean.Grind
section
variable {rs : Nat → Nat → Int}
theorem wf_wh : ∀ {n : Nat} (c : Int), wf (wh rs n c) = c.natAbs
  | 0, c => rfl
  | n + 1, c => by rw [wh_succ, wf_mk, wf_zero, wf_wh c]; omega
theorem rad_tower {n : Nat} (h : ∀ k j, k < n → j < 2 ^ k → rs k j = if j = 0 then 2 else if 0 < k ∧ j = 2 ^ (k - 1) then 1 else 0) : ∀ k, k < n → wf (rad rs k) ≤ 16777216
  | 0, hn => by
    have r0 : rad rs 0 = wh rs 0 2 := rad_wh fun j hj => by
      have : j = 0 := by simpa using hj
      subst this
      rw [h 0 0 hn hj]
      rfl
    rw [r0, wf_wh]
    decide
  | k + 1, hk => by
    have e2 := two_pow_succ' k
    have hp := Nat.two_pow_pos k
    have : rad rs (k + 1) = mk (wh rs k 2) (wh rs k 1) := by
      refine rad_succ _ _ (fun j hj => ?_) fun j hj => ?_
      · rw [h (k + 1) j hk (by omega), Nat.add_sub_cancel]
        by_cases c : j = 0
        · rw [if_pos c, if_pos c]
        · rw [if_neg c, if_neg c, if_neg (by omega)]
      · rw [h (k + 1) _ hk (by omega), Nat.add_sub_cancel, if_neg (by omega)]
        by_cases c : j = 0
        · rw [if_pos c, if_pos ⟨by omega, by omega⟩]
        · rw [if_neg c, if_neg (by omega)]
    rw [this, wf_mk, wf_wh, wf_wh]
    decide
end
end TV
namespace TV
open Lean.Grind
section
variable {rs : Nat → Nat → Int}
/-! ### norms -/
def Nn {rs : Nat → Nat → Int} : {n : Nat} → T rs n → Int
  | 0, x => cf x 0
  | _ + 1, x => Nn (nm x)
theorem Nn_succ {n : Nat} (x : T rs (n + 1)) : Nn x = Nn (nm x) := rfl
theorem Nn_mul : ∀ {n : Nat} (x y : T rs n), Nn (x * y) = Nn x * Nn y
  | 0, x, y => rfl
  | n + 1, x, y => by rw [Nn_succ, nm_mul, Nn_mul, ← Nn_succ, ← Nn_succ]
theorem nm_wh {n : Nat} (c : Int) : nm (wh rs (n + 1) c) = wh rs n (c * c) := by
  rw [wh_succ, nm_mk, wh_mm]
  grind
theorem ipow_sq (c : Int) (k : Nat) : (c * c) ^ k = c ^ (2 * k) := by
  induction k with
  | zero => rw [Int.pow_zero, Nat.mul_zero, Int.pow_zero]
  | succ k ih => rw [Int.pow_succ, ih, show 2 * (k + 1) = 2 * k + 1 + 1 by omega, Int.pow_succ, Int.pow_succ, Int.mul_assoc]
theorem Nn_wh : ∀ {n : Nat} (c : Int), Nn (wh rs n c) = c ^ 2 ^ n
  | 0, c => by show c = c ^ 1; simp [Int.pow_succ]
  | n + 1, c => by rw [Nn_succ, nm_wh, Nn_wh, ipow_sq, ← Nat.pow_succ']
theorem Nn_eq_zero : ∀ {n : Nat}, Pr rs n → ∀ {x : T rs n}, Nn x = 0 → x = 0
  | 0, _, x, h => cf_inj fun j hj => by
    have : j = 0 := by simpa using hj
    subst this
    exact h
  | n + 1, hp, x, h => nm_zero (hp.low (by omega)).dom (hp n (by omega)) (Nn_eq_zero (hp.low (by omega)) h)
theorem Nn_zero : ∀ {n : Nat}, Nn (0 : T rs n) = 0
  | 0 => rfl
  | n + 1 => by
    rw [Nn_succ]
    have : nm (0 : T rs (n + 1)) = 0 := by rw [mk_zero, nm_mk]; grind
    rw [this, Nn_zero]
theorem Nn_wf : ∀ {n : Nat}, (∀ k, k < n → wf (rad rs k) ≤ 16777216) → ∀ {M : Nat} {x : T rs n}, 1 ≤ M → wf x ≤ M → (Nn x).natAbs ≤ M ^ 2 ^ n
  | 0, _, M, x, _, h => by
    have : wf x = (Nn x).natAbs := rfl
    show (Nn x).natAbs ≤ M ^ 1
    rw [Nat.pow_one]
    omega
  | n + 1, hw, M, x, hM, h => by
    rw [Nn_succ]
    have h1 := Nn_wf (fun k hk => hw k (by omega)) (M := M * M) (x := nm x) (Nat.mul_pos hM hM) (Nat.le_trans (nm_wf hw x) (Nat.mul_le_mul h h))
    rwa [pow_sq, ← Nat.pow_succ'] at h1
/-! ### signs changed -/
/-- the letters of s negated -/
def sg {rs : Nat → Nat → Int} : {n : Nat} → Nat → T rs n → T rs n
  | 0, _, x => x
  | n + 1, s, x => if s / 2 ^ n % 2 = 1 then mk (sg s (lo x)) (-(sg s (hi x))) else mk (sg s (lo x)) (sg s (hi x))
theorem sg_low {n s : Nat} (x : T rs (n + 1)) (h : s < 2 ^ n) : sg s x = mk (sg s (lo x)) (sg s (hi x)) := if_neg (by rw [bit_small h]; decide)
theorem sg_bits : ∀ {n s s' : Nat} (x : T rs n), (∀ q, q < n → s / 2 ^ q % 2 = s' / 2 ^ q % 2) → sg s x = sg s' x
  | 0, _, _, _, _ => rfl
  | n + 1, s, s', x, h => by
    unfold sg
    rw [h n (by omega), sg_bits (lo x) fun q hq => h q (by omega), sg_bits (hi x) fun q hq => h q (by omega)]
theorem sg_high {n s : Nat} (x : T rs (n + 1)) (h : s < 2 ^ n) : sg (s + 2 ^ n) x = mk (sg s (lo x)) (-(sg s (hi x))) := by
  have e : (s + 2 ^ n) / 2 ^ n % 2 = 1 := bit_high h
  have e2 : ∀ y : T rs n, sg (s + 2 ^ n) y = sg s y := fun y => sg_bits y fun q hq => bit_shift hq
  show (if (s + 2 ^ n) / 2 ^ n % 2 = 1 then _ else _) = _
  rw [if_pos e, e2, e2]
theorem sg_add : ∀ {n s : Nat} (x y : T rs n), sg s (x + y) = sg s x + sg s y
  | 0, _, _, _ => rfl
  | n + 1, s, x, y => by
    have e : x + y = mk (lo x + lo y) (hi x + hi y) := rfl
    rw [e]
    unfold sg
    rw [lo_mk, hi_mk, sg_add, sg_add]
    split
    · rw [mk_add]; congr 1; grind
    · rw [mk_add]
theorem sg_neg : ∀ {n s : Nat} (x : T rs n), sg s (-x) = -(sg s x)
  | 0, _, _ => rfl
  | n + 1, s, x => by
    have e : -x = mk (-lo x) (-hi x) := rfl
    rw [e]
    unfold sg
    rw [lo_mk, hi_mk, sg_neg, sg_neg]
    split <;> rw [mk_neg]
theorem sg_zero : ∀ {n s : Nat}, sg s (0 : T rs n) = 0
  | 0, _ => rfl
  | n + 1, s => by
    rw [mk_zero]
    unfold sg
    rw [lo_mk, hi_mk, sg_zero]
    split
    · congr 1; grind
    · rfl
theorem sg_wh : ∀ {n s : Nat} (c : Int), sg s (wh rs n c) = wh rs n c
  | 0, _, _ => rfl
  | n + 1, s, c => by
    rw [wh_succ]
    unfold sg
    rw [lo_mk, hi_mk, sg_wh, sg_zero]
    split
    · congr 1; grind
    · rfl
def Con (rs : Nat → Nat → Int) (n : Nat) : Prop := ∀ k, k < n → ∃ c, rad rs k = wh rs k c
theorem sg_mul : ∀ {n s : Nat}, Con rs n → ∀ x y : T rs n, sg s (x * y) = sg s x * sg s y
  | 0, _, _, _, _ => rfl
  | n + 1, s, hc, x, y => by
    obtain ⟨c, hr⟩ := hc n (by omega)
    have hc' : Con rs n := fun k hk => hc k (by omega)
    have e : x * y = mk (lo x * lo y + rad rs n * (hi x * hi y)) (lo x * hi y + hi x * lo y) := rfl
    rw [e]
    unfold sg
    rw [lo_mk, hi_mk, sg_add, sg_add, sg_mul hc', sg_mul hc', sg_mul hc', sg_mul hc', sg_mul hc', hr, sg_wh]
    split
    · rw [mk_mul, hr]
      congr 1 <;> grind
    · rw [mk_mul, hr]
/-- the product over the first k changes of signs -/
def sgP {rs : Nat → Nat → Int} {n : Nat} (x : T rs n) : Nat → T rs n
  | 0 => 1
  | k + 1 => sgP x k * sg k x
theorem sgP_low {n : Nat} (x : T rs (n + 1)) : ∀ k, k ≤ 2 ^ n → ∀ i, i ≤ k → True := fun _ _ _ _ => trivial
theorem sgP_split {n : Nat} (hc : Con rs (n + 1)) (x : T rs (n + 1)) : ∀ k, k ≤ 2 ^ n → ∃ p : T rs (n + 1), sgP x (2 ^ n + k) = sgP x (2 ^ n) * p ∧ sgP x k * p = mk (sgP (nm x) k) 0
  | 0, _ => ⟨1, by show sgP x (2 ^ n) = _; grind, by show (1 : T rs (n + 1)) * 1 = mk (1 : T rs n) 0; rw [← mk_one]; grind⟩
  | k + 1, hk => by
    obtain ⟨p, h1, h2⟩ := sgP_split hc x k (by omega)
    refine ⟨p * sg (k + 2 ^ n) x, ?_, ?_⟩
    · show sgP x (2 ^ n + k) * sg (2 ^ n + k) x = _
      rw [h1, Nat.add_comm k]
      grind
    · show sgP x k * sg k x * (p * sg (k + 2 ^ n) x) = mk (sgP (nm x) k * sg k (nm x)) 0
      have e1 : sgP x k * sg k x * (p * sg (k + 2 ^ n) x) = (sgP x k * p) * (sg k x * sg (k + 2 ^ n) x) := by grind
      have e2 : sg k x * sg (k + 2 ^ n) x = mk (sg k (nm x)) 0 := by
        rw [sg_low x (by omega), sg_high x (by omega), mk_mul]
        have hc' : Con rs n := fun i hi => hc i (by omega)
        obtain ⟨c, hr⟩ := hc n (by omega)
        have e3 : nm x = lo x * lo x + -(rad rs n * (hi x * hi x)) := by
          show lo x * lo x - rad rs n * (hi x * hi x) = _
          grind
        rw [e3, sg_add, sg_neg, sg_mul hc', sg_mul hc', sg_mul hc', hr, sg_wh]
        congr 1 <;> grind
      rw [e1, h2, e2, mk_mul]
      congr 1 <;> grind
theorem sgP_norm : ∀ {n : Nat}, Con rs n → ∀ x : T rs n, sgP x (2 ^ n) = wh rs n (Nn x)
  | 0, _, x => by
    show (1 : T rs 0) * x = wh rs 0 (cf x 0)
    have : wh rs 0 (cf x 0) = x := rfl
    rw [this]
    grind
  | n + 1, hc, x => by
    obtain ⟨p, h1, h2⟩ := sgP_split hc x (2 ^ n) (Nat.le_refl _)
    rw [two_pow_succ', h1, h2, sgP_norm (fun k hk => hc k (by omega)) (nm x), wh_succ]
    rfl
theorem sgP_wf {n : Nat} (hw : ∀ k, k < n → wf (rad rs k) ≤ 16777216) {M : Nat} {x : T rs n} (h : ∀ s, wf (sg s x) ≤ M) : ∀ k, wf (sgP x k) ≤ M ^ k
  | 0 => by show wf (1 : T rs n) ≤ 1; rw [wf_one]; exact Nat.le_refl _
  | k + 1 => by
    rw [Nat.pow_succ]
    exact Nat.le_trans (wf_mul hw _ _) (Nat.mul_le_mul (sgP_wf hw h k) (h k))
theorem sg_wf : ∀ {n s : Nat} (x : T rs n), wf (sg s x) = wf x
  | 0, _, _ => rfl
  | n + 1, s, x => by
    unfold sg
    split
    · rw [wf_mk, wf_neg, sg_wf, sg_wf]; rfl
    · rw [wf_mk, sg_wf, sg_wf]; rfl
/-- how often a letter of s stands in a place, even or odd -/
def par (s : Nat) : Nat → Nat → Bool
  | 0, _ => false
  | n + 1, j => par s n j != decide (s / 2 ^ n % 2 = 1 ∧ j / 2 ^ n % 2 = 1)
theorem par_shift {s : Nat} : ∀ {n m j : Nat}, n ≤ m → par s n (j + 2 ^ m) = par s n j
  | 0, _, _, _ => rfl
  | n + 1, m, j, h => by
    unfold par
    rw [par_shift (by omega), bit_shift (by omega)]
theorem cf_sg : ∀ {n s : Nat} (x : T rs n) (j : Nat), j < 2 ^ n → cf (sg s x) j = if par s n j then -cf x j else cf x j
  | 0, s, x, j, _ => by simp [sg, par]
  | n + 1, s, x, j, hj => by
    have e2 := two_pow_succ' n
    have ex : cf x j = if j < 2 ^ n then cf (lo x) j else cf (hi x) (j - 2 ^ n) := by rw [← cf_mk, mk_eta]
    have es : sg s x = mk (sg s (lo x)) (if s / 2 ^ n % 2 = 1 then -(sg s (hi x)) else sg s (hi x)) := by
      show (if s / 2 ^ n % 2 = 1 then _ else _) = _
      split <;> rfl
    rw [es, cf_mk, ex]
    by_cases c : j < 2 ^ n
    · rw [if_pos c, if_pos c, cf_sg _ _ c]
      have : par s (n + 1) j = par s n j := by
        show (par s n j != decide (s / 2 ^ n % 2 = 1 ∧ j / 2 ^ n % 2 = 1)) = _
        rw [bit_small c, _root_.decide_eq_false (by omega)]
        simp
      rw [this]
    · rw [if_neg c, if_neg c]
      obtain ⟨i, rfl⟩ : ∃ i, j = i + 2 ^ n := ⟨j - 2 ^ n, by omega⟩
      have hi' : i < 2 ^ n := by omega
      rw [Nat.add_sub_cancel]
      have ep : par s (n + 1) (i + 2 ^ n) = (par s n i != decide (s / 2 ^ n % 2 = 1)) := by
        show (par s n (i + 2 ^ n) != decide (s / 2 ^ n % 2 = 1 ∧ (i + 2 ^ n) / 2 ^ n % 2 = 1)) = _
        rw [par_shift (Nat.le_refl _), bit_high hi']
        congr 1
        simp
      rw [ep]
      by_cases d : s / 2 ^ n % 2 = 1
      · rw [if_pos d, cf_neg, cf_sg _ _ hi', _root_.decide_eq_true d]
        cases par s n i <;> simp
      · rw [if_neg d, cf_sg _ _ hi', _root_.decide_eq_false d]
        cases par s n i <;> simp
theorem wf_mono : ∀ {n : Nat} {s t : T rs n}, (∀ j, j < 2 ^ n → (cf s j).natAbs ≤ (cf t j).natAbs) → wf s ≤ wf t
  | 0, s, t, h => h 0 (by decide)
  | n + 1, s, t, h => by
    have e2 := two_pow_succ' n
    rw [← mk_eta s, ← mk_eta t] at h ⊢
    rw [wf_mk, wf_mk]
    have h1 := wf_mono (s := lo s) (t := lo t) fun j hj => by
      have := h j (by omega)
      rwa [cf_mk, cf_mk, if_pos hj, if_pos hj] at this
    have h2 := wf_mono (s := hi s) (t := hi t) fun j hj => by
      have := h (j + 2 ^ n) (by omega)
      rwa [cf_mk, cf_mk, if_neg (by omega), if_neg (by omega), Nat.add_sub_cancel] at this
    omega
/-- parity of the bits, from the lowest on -/
def pl : Nat → Nat → Bool
  | 0, _ => false
  | n + 1, r => decide (r % 2 = 1) != pl n (r / 2)
def px : Nat → Nat → Bool
  | 0, _ => false
  | n + 1, r => px n r != decide (r / 2 ^ n % 2 = 1)
theorem px_low : ∀ (n r : Nat), px (n + 1) r = (decide (r % 2 = 1) != px n (r / 2))
  | 0, r => by simp [px]
  | n + 1, r => by
    show (px (n + 1) r != decide (r / 2 ^ (n + 1) % 2 = 1)) = (decide (r % 2 = 1) != (px n (r / 2) != decide (r / 2 / 2 ^ n % 2 = 1)))
    rw [px_low n r, Nat.pow_succ', Nat.div_div_eq_div_mul]
    cases decide (r % 2 = 1) <;> cases px n (r / 2) <;> simp
theorem pl_px : ∀ (n r : Nat), pl n r = px n r
  | 0, _ => rfl
  | n + 1, r => by
    rw [px_low, ← pl_px n]
    rfl
theorem px_and (s : Nat) : ∀ (n j : Nat), px n (j &&& s) = par s n j
  | 0, _ => rfl
  | n + 1, j => by
    show (px n (j &&& s) != decide ((j &&& s) / 2 ^ n % 2 = 1)) = (par s n j != decide (s / 2 ^ n % 2 = 1 ∧ j / 2 ^ n % 2 = 1))
    rw [px_and s n j]
    congr 1
    have := Nat.testBit_and j s n
    rw [Nat.testBit_eq_decide_div_mod_eq, Nat.testBit_eq_decide_div_mod_eq, Nat.testBit_eq_decide_div_mod_eq] at this
    rw [this]
    rw [Bool.and_comm, ← Bool.decide_and]
end
end TV

namespace DL
open PySem PySem.Spec PyProof.Rows L2
section
variable {X : Cx} {pos : Pos}
/-- x = y.pop() -/
def sSetPop (i j : Nat) : RS := fun DD ρ => match ρ[j]? with
  | some (some (.own ds)) => (match ds.getLast? with | some d => DD.nx ((ρ.set j (some (.own ds.dropLast))).set i (some (.val d))) | none => False)
  | _ => False
theorem st_setPop {i j : Nat} {x y : Str} {pos' pos1 pos2 pos3 : Pos} (hNd : X.N.Nodup) (hi : X.N[i]? = some x := by rfl) (hx : Loc X.env.scope x := by first | exact Or.inl rfl | exact Or.inr rfl)
    (hN : X.N[j]? = some y := by rfl) (hv : Vis X.env.scope y := by first | exact Or.inl rfl | exact Or.inr (Or.inl rfl) | exact Or.inr (Or.inr rfl)) (hd : (y == ("__debug__" : Str)) = false := by decide)
    (hcd : (y == ("__classdict__" : Str)) = false := by decide)
    (hbase : attributeBase (.Name y pos1) "pop" X.env (eval (.Name y pos1) X.env) = eval (.Name y pos1) X.env := by rfl) (hline : (pos2.endLine == pos3.line) = true := by rfl)
    (hs : swapsWith (.Call (.Attribute (.Name y pos1) "pop" pos2) [] [] pos3) (some (.Name x pos')) pos.line X.env = pure false := by rfl)
    (hf : X.fn x = true ∨ X.env.scope.names.lookup x = some .local := by first | exact .inl rfl | exact .inr rfl | assumption) :
    DS X (.Assign [.Name x pos'] (.Call (.Attribute (.Name y pos1) "pop" pos2) [] [] pos3) pos) (sSetPop i j) := by
  refine ⟨_, ps_set hNd hi hx (pe_bm0 PySem.F.plainAttrs_list PySem.F.slot_list_pop PySem.F.type_list_pop mt_pop (pe_var hN hv hd hcd) hbase hline) hs hf, fun F0 B F H ρ σ s E DD h D k => ?_⟩
  unfold sSetPop at h
  split at h
  · rename_i ds q
    have hn : ds ≠ [] := fun z => by
      subst z
      exact h
    rw [List.getLast?_eq_some_getLast hn] at h
    obtain ⟨p, vs, h1, f0, f1, f2, f3⟩ := own_at E q
    obtain ⟨v, hl, r⟩ := dp_last f3 hn
    exact ⟨.ref p, h1, .inl ⟨rfl, vs, .inl (.inl f2)⟩, p, vs, v, rfl, rfl, f2, hl, k.nx F _ _ _ (s.wr f0 f1) ((own_chg E q h1 f0 f1 f3.dropLast).set i r) h⟩
  · exact h.elim
end
end DL

namespace DL
open PySem PySem.Spec PyProof.Rows L2
section
variable {X : Cx} {pos : Pos} {e : Expr} {de : RE}
/-- tuple(range(e)) -/
def dTupRg (de : RE) : RE := fun ρ q => de ρ fun d => match d with | .int n => (-1000000 ≤ n ∧ n ≤ 1000000) ∧ q (.tuple ((List.range n.toNat).map fun i => .int (i : Nat))) | _ => False
theorem rg_dp {K : Frag} {F : Hp} (n : Int) : DpAll K F (rgV 0 n) ((List.range n.toNat).map fun i => PyData.int (i : Nat)) := by
  unfold rgV
  rw [Int.sub_zero]
  have : ∀ l : List Nat, DpAll K F (l.map fun i => V.int (0 + (i : Nat))) (l.map fun i => PyData.int (i : Nat)) := by
    intro l
    induction l with
    | nil => exact .nil
    | cons a r ih =>
      refine .cons ?_ ih
      show Dp K F (V.int (0 + (a : Int))) (PyData.int (a : Int))
      rw [Int.zero_add]
      exact .int _
  exact this _
theorem de_tupRg {p p2 p3 : Pos} (hm : X.mg "tuple" = none) (hm2 : X.mg "range" = none) (he : DE X e de) (hc : X.calm = true := by rfl) (hg : Gl X "tuple" := by rfl) (hg2 : Gl X "range" := by rfl)
    (na : starEach [.Call (.Name "range" p2) [e] [] p3] X.env = (false, eval (.Call (.Name "range" p2) [e] [] p3) X.env) :: starEach [] X.env := by rfl) (na2 : starEach [e] X.env = (false, eval e X.env) :: starEach [] X.env := by rfl) :
    DE X (.Call (.Name "tuple" p) [.Call (.Name "range" p2) [e] [] p3] [] pos) (dTupRg de) := by
  obtain ⟨te, a1, a2⟩ := he
  refine ⟨_, pe_tupRg hc hg hm (prg_1 hg2 hm2 a1 na2) na, fun B F H ρ σ E q hq Q k => ?_⟩
  refine a2 B F H ρ σ E _ hq _ fun v d F' H' g r z => ?_
  cases r with
  | int n =>
    obtain ⟨⟨b1, b2⟩, z⟩ := z
    refine ⟨n, rfl, ⟨by omega, by omega, by omega, by omega, by omega⟩, fun p hp => ?_⟩
    have gn := Gr.new (o := .tup (rgV 0 n)) g.fh hp
    exact k _ _ _ _ (g.trans gn) (.tup (.inl (.inl upd_same)) ((rg_dp n).mono gn.ff)) z
  | _ => exact z.elim
/-- x.append(y.pop(e)) -/
def sAppPop (i j : Nat) (de : RE) : RS := fun DD ρ => match ρ[i]?, ρ[j]? with
  | some (some (.own ds)), some (some (.own es)) => Fit (ds.length + 1) ∧ i ≠ j ∧ de ρ fun d => (match d with | .int n => (0 ≤ n ∧ n < 1000000) ∧ (match es[n.toNat]? with | some x => DD.nx ((ρ.set j (some (.own (es.eraseIdx n.toNat)))).set i (some (.own (ds ++ [x])))) | none => False) | _ => False)
  | _, _ => False
theorem st_appPop {i j : Nat} {x y : Str} {pos1 pos2 pos3 pos4 pos5 pos6 : Pos} (he : DE X e de) (hN : X.N[i]? = some x := by rfl) (hN2 : X.N[j]? = some y := by rfl)
    (hv : Vis X.env.scope x := by first | exact Or.inl rfl | exact Or.inr (Or.inl rfl) | exact Or.inr (Or.inr rfl)) (hd : (x == ("__debug__" : Str)) = false := by decide) (hcd : (x == ("__classdict__" : Str)) = false := by decide)
    (hv2 : Vis X.env.scope y := by first | exact Or.inl rfl | exact Or.inr (Or.inl rfl) | exact Or.inr (Or.inr rfl)) (hd2 : (y == ("__debug__" : Str)) = false := by decide) (hcd2 : (y == ("__classdict__" : Str)) = false := by decide)
    (hbase : attributeBase (.Name x pos1) "append" X.env (eval (.Name x pos1) X.env) = eval (.Name x pos1) X.env := by rfl)
    (hbase2 : attributeBase (.Name y pos4) "pop" X.env (eval (.Name y pos4) X.env) = eval (.Name y pos4) X.env := by rfl)
    (hfew : ((backTo pos3 (starEach (.Call (.Attribute (.Name y pos4) "pop" pos5) [e] [] pos6 :: []) X.env)).all (fun x => !x.1) && (backToKw pos3 (keywordEach [] X.env)).all (fun x => x.1.isSome)
      && decide ((Expr.Call (.Attribute (.Name y pos4) "pop" pos5) [e] [] pos6 :: []).length + ([] : List Keyword).length + (if ([] : List Keyword).isEmpty then 0 else 1) < 30)) = true := by rfl)
    (hfew2 : ((backTo pos6 (starEach (e :: []) X.env)).all (fun x => !x.1) && (backToKw pos6 (keywordEach [] X.env)).all (fun x => x.1.isSome)
      && decide ((e :: []).length + ([] : List Keyword).length + (if ([] : List Keyword).isEmpty then 0 else 1) < 30)) = true := by rfl)
    (hline : (pos2.endLine == pos3.line) = true := by rfl) (hline2 : (pos5.endLine == pos6.line) = true := by rfl)
    (hs : starEach (.Call (.Attribute (.Name y pos4) "pop" pos5) [e] [] pos6 :: []) X.env = (false, eval (.Call (.Attribute (.Name y pos4) "pop" pos5) [e] [] pos6) X.env) :: starEach [] X.env := by rfl)
    (hs2 : starEach (e :: []) X.env = (false, eval e X.env) :: starEach [] X.env := by rfl)
    (hplain : (backTo pos3 (starEach [] X.env)).any (·.1) = false := by rfl) (hplain2 : (backTo pos6 (starEach [] X.env)).any (·.1) = false := by rfl)
    (hsw : swapsWith (.Call (.Attribute (.Name x pos1) "append" pos2) [.Call (.Attribute (.Name y pos4) "pop" pos5) [e] [] pos6] [] pos3) none pos.line X.env = pure false := by rfl) :
    DS X (.Expr (.Call (.Attribute (.Name x pos1) "append" pos2) [.Call (.Attribute (.Name y pos4) "pop" pos5) [e] [] pos6] [] pos3) pos) (sAppPop i j de) := by
  obtain ⟨t, a1, a2⟩ := he
  refine ⟨_, ps_expr (pe_bm PySem.F.plainAttrs_list PySem.F.slot_list_append PySem.F.type_list_append mt_append (pe_var hN hv hd hcd)
    (pa_cons (pe_bm PySem.F.plainAttrs_list PySem.F.slot_list_pop PySem.F.type_list_pop mt_popAt (pe_var hN2 hv2 hd2 hcd2) (pa_cons a1 pa_nil hs2) hbase2 hfew2 hline2 hs2 hplain2) pa_nil hs) hbase hfew hline hs hplain) hsw, fun F0 B F H ρ σ s E DD h D k => ?_⟩
  unfold sAppPop at h
  split at h
  · rename_i ds es q q2
    obtain ⟨hl, hij, h⟩ := h
    obtain ⟨p, vs, h1, f0, f1, f2, f3⟩ := own_at E q
    obtain ⟨p2, vs2, h12, f02, f12, f22, f32⟩ := own_at E q2
    refine ⟨.ref p, h1, .inl ⟨rfl, vs, .inl (.inl f2)⟩, .ref p2, h12, .inl ⟨rfl, vs2, .inl (.inl f22)⟩, a2 B F H ρ σ E _ h _ fun v d F' H' g r z => ?_⟩
    cases r with
    | int n =>
      obtain ⟨⟨n0, n1⟩, z⟩ := z
      have f2' := g.hh p _ f2
      have f22' := g.hh p2 _ f22
      have f1' := g.own p f1 (by rw [f2]; trivial)
      have f12' := g.own p2 f12 (by rw [f22]; trivial)
      have hne : p ≠ p2 := fun c => by
        subst c
        exact E.sep i j p ds es hij q q2 h1 h12
      cases hx : es[n.toNat]? with
      | none => rw [hx] at z; exact z.elim
      | some x' =>
        rw [hx] at z
        have f32' := f32.mono g.ff
        obtain ⟨u, hu, ru⟩ := f32'.get hx
        refine ⟨p2, vs2, n, n.toNat, u, rfl, rfl, f22', by omega, by omega, ?_, hu, ?_⟩
        · have hlt := (List.getElem?_eq_some_iff.mp hu).1
          have e1 : (if n < 0 then n + (vs2.length : Int) else n) = n := if_neg (by omega)
          unfold seqIndex?
          simp only [e1]
          have : (decide (0 ≤ n) && decide (n < (vs2.length : Int))) = true := by
            rw [decide_eq_true n0, decide_eq_true (by omega)]
            rfl
          rw [if_pos this]
        · have f2'' : (upd H' p2 (.lst (vs2.eraseIdx n.toNat))) p = some (.lst vs) := by rw [upd_ne hne]; exact f2'
          refine ⟨p, vs, u, rfl, rfl, f2'', by rw [f3.length]; exact hl.le, ?_⟩
          have E1 := own_chg (E.grow g) q2 h12 f02 f12' (f32'.eraseIdx n.toNat)
          have q' : (ρ.set j (some (.own (es.eraseIdx n.toNat))))[i]? = some (some (.own ds)) := by rw [List.getElem?_set_ne (Ne.symm hij)]; exact q
          exact k.nx F' _ _ _ (((s.to g).wr f02 f12').wr f0 f1') (own_chg E1 q' h1 f0 f1' ((f3.mono g.ff).append (.cons ru .nil))) z
    | _ => exact z.elim
  · exact h.elim
/-- sorted(ns), any number of whole numbers -/
def lSortedI : List D → (List D → Prop) → Prop := fun xs q => ∃ ns : List Int, xs = [.list (ns.map .int)] ∧ ∀ ns' : List Int, ns'.Perm ns → ns'.Pairwise (· ≤ ·) → q (ns'.map .int)
theorem c_sortedI : CallL X (.builtin "sorted") lSortedI := by
  refine ⟨_, cr_sortedI, fun F H vs xs fh bx q hq Q k => ?_⟩
  obtain ⟨ns, rfl, hq⟩ := hq
  obtain ⟨v, rfl, b⟩ := bx.one
  obtain ⟨p, rfl, h1⟩ := lst_ints fh b
  exact ⟨p, ns, rfl, h1, fun ns' p2 e1 e2 hp2 => k p2 _ _ F _ (Gr.newO fh hp2) hp2 (fh.free hp2) upd_same (DpAll.ints ns') (hq ns' e1 e2)⟩
end
end DL

namespace PM
def g (p : List Nat) (i : Nat) : Nat := p.getD i 0
structure IsP (p : List Nat) (n : Nat) : Prop where
  len : p.length = n
  lt : ∀ i, i < n → g p i < n
  inj : ∀ i j, i < n → j < n → g p i = g p j → i = j
theorem nodup_len : ∀ (n : Nat) (l : List Nat), l.Nodup → (∀ x ∈ l, x < n) → l.length ≤ n
  | 0, l, _, h => by
    cases l with
    | nil => exact Nat.le_refl _
    | cons a r => exact absurd (h a (by simp)) (by omega)
  | n + 1, l, hn, h => by
    by_cases c : n ∈ l
    · have h1 := nodup_len n (l.erase n) (hn.erase n) fun x hx => by
        have h2 := hn.mem_erase_iff.mp hx
        have := h x h2.2
        have := h2.1
        omega
      rw [List.length_erase_of_mem c] at h1
      omega
    · have := nodup_len n l hn fun x hx => by
        have h1 := h x hx
        have : x ≠ n := fun z => c (z ▸ hx)
        omega
      omega
theorem map_nodup {f : Nat → Nat} {n : Nat} (h : ∀ i j, i < n → j < n → f i = f j → i = j) : ((List.range n).map f).Nodup := by
  rw [List.nodup_iff_pairwise_ne, List.pairwise_map]
  refine List.Pairwise.imp_of_mem (fun {a b} ha hb hab e => ?_) List.pairwise_lt_range
  have := h a b (List.mem_range.mp ha) (List.mem_range.mp hb) e
  omega
theorem fin_surj {f : Nat → Nat} {n : Nat} (hl : ∀ i, i < n → f i < n) (h : ∀ i j, i < n → j < n → f i = f j → i = j) {j : Nat} (hj : j < n) : ∃ i, i < n ∧ f i = j := by
  refine Classical.byContradiction fun c => ?_
  have hn : (j :: (List.range n).map f).Nodup := List.nodup_cons.mpr ⟨fun m => by
    obtain ⟨i, hi, e⟩ := List.mem_map.mp m
    exact c ⟨i, List.mem_range.mp hi, e⟩, map_nodup h⟩
  have := nodup_len n _ hn fun x hx => by
    rcases List.mem_cons.mp hx with q | q
    · rw [q]; exact hj
    · obtain ⟨i, hi, rfl⟩ := List.mem_map.mp q
      exact hl i (List.mem_range.mp hi)
  simp at this
  omega
section
variable {p : List Nat} {n : Nat}
theorem IsP.surj (h : IsP p n) {j : Nat} (hj : j < n) : ∃ i, i < n ∧ g p i = j := fin_surj h.lt h.inj hj
theorem IsP.perm (h : IsP p n) : ((List.range n).map (g p)).Perm (List.range n) := by
  refine (List.perm_ext_iff_of_nodup (map_nodup h.inj) List.nodup_range).mpr fun a => ⟨fun m => ?_, fun m => ?_⟩
  · obtain ⟨i, hi, rfl⟩ := List.mem_map.mp m
    exact List.mem_range.mpr (h.lt i (List.mem_range.mp hi))
  · obtain ⟨i, hi, e⟩ := h.surj (List.mem_range.mp m)
    exact List.mem_map.mpr ⟨i, List.mem_range.mpr hi, e⟩
theorem g_ext {p q : List Nat} (hl : p.length = q.length) (h : ∀ i, i < p.length → g p i = g q i) : p = q := by
  refine List.ext_getElem hl fun i h1 h2 => ?_
  have := h i h1
  simpa [g, h1, h2] using this
theorem map_g {p : List Nat} {n : Nat} (h : p.length = n) : (List.range n).map (g p) = p := by
  refine List.ext_getElem (by simp [h]) fun i h1 h2 => ?_
  simp [g, h2]
theorem IsP.of_perm (h : p.Perm (List.range n)) : IsP p n := by
  have hl : p.length = n := by rw [h.length_eq, List.length_range]
  have hn := (h.nodup_iff).mpr List.nodup_range
  refine ⟨hl, fun i hi => ?_, fun i j hi hj e => ?_⟩
  · have : g p i ∈ p := by
      have hi' : i < p.length := by omega
      have e : g p i = p[i] := by simp [g, hi']
      rw [e]
      exact List.getElem_mem hi'
    exact List.mem_range.mp (h.mem_iff.mp this)
  · have hi' : i < p.length := by omega
    have hj' : j < p.length := by omega
    have e1 : g p i = p[i] := by simp [g, hi']
    have e2 : g p j = p[j] := by simp [g, hj']
    rw [e1, e2] at e
    exact (List.getElem_inj hn).mp e
/-! ### powers -/
def it (p : List Nat) : Nat → Nat → Nat
  | 0, i => i
  | k + 1, i => g p (it p k i)
theorem it_g : ∀ (k i : Nat), it p k (g p i) = g p (it p k i)
  | 0, _ => rfl
  | k + 1, i => by show g p (it p k (g p i)) = _; rw [it_g k i]; rfl
theorem it_add (a : Nat) : ∀ (b i : Nat), it p (a + b) i = it p a (it p b i)
  | b, i => by
    induction a with
    | zero => rw [Nat.zero_add]; rfl
    | succ a ih => rw [Nat.add_right_comm]; show g p (it p (a + b) i) = g p (it p a (it p b i)); rw [ih]
theorem IsP.it_lt (h : IsP p n) : ∀ (k : Nat) {i : Nat}, i < n → it p k i < n
  | 0, _, hi => hi
  | k + 1, _, hi => h.lt _ (h.it_lt k hi)
theorem IsP.it_inj (h : IsP p n) : ∀ (k : Nat) {i j : Nat}, i < n → j < n → it p k i = it p k j → i = j
  | 0, _, _, _, _, e => e
  | k + 1, _, _, hi, hj, e => h.it_inj k hi hj (h.inj _ _ (h.it_lt k hi) (h.it_lt k hj) e)
theorem IsP.period (h : IsP p n) {i : Nat} (hi : i < n) : ∃ k, 1 ≤ k ∧ k ≤ n ∧ it p k i = i := by
  refine Classical.byContradiction fun c => ?_
  have hn : ((List.range (n + 1)).map fun k => it p k i).Nodup := map_nodup (n := n + 1) fun a b ha hb e => by
    rcases Nat.lt_trichotomy a b with q | q | q
    · exfalso
      refine c ⟨b - a, by omega, by omega, ?_⟩
      have e2 : it p a (it p (b - a) i) = it p a i := by rw [← it_add, show a + (b - a) = b by omega, e]
      exact h.it_inj a (h.it_lt _ hi) hi e2
    · exact q
    · exfalso
      refine c ⟨a - b, by omega, by omega, ?_⟩
      have e2 : it p b (it p (a - b) i) = it p b i := by rw [← it_add, show b + (a - b) = a by omega, e]
      exact h.it_inj b (h.it_lt _ hi) hi e2
  have := nodup_len n _ hn fun x hx => by
    obtain ⟨k, _, rfl⟩ := List.mem_map.mp hx
    exact h.it_lt k hi
  simp at this
  omega
/-- the length of the cycle of i -/
def perGo (p : List Nat) (i : Nat) : Nat → Nat → Nat → Nat
  | 0, _, len => len
  | f + 1, pl, len => if pl = i then len else perGo p i f (g p pl) (len + 1)
def per (p : List Nat) (n i : Nat) : Nat := perGo p i n (g p i) 1
def Least (p : List Nat) (i k : Nat) : Prop := 1 ≤ k ∧ it p k i = i ∧ ∀ j, 1 ≤ j → j < k → it p j i ≠ i
theorem Least.uniq {i k k' : Nat} (h : Least p i k) (h' : Least p i k') : k = k' := by
  rcases Nat.lt_trichotomy k k' with c | c | c
  · exact absurd h.2.1 (h'.2.2 k h.1 c)
  · exact c
  · exact absurd h'.2.1 (h.2.2 k' h'.1 c)
theorem perGo_ok {i : Nat} : ∀ (f len : Nat), 1 ≤ len → (∀ j, 1 ≤ j → j < len → it p j i ≠ i) → (∃ K, len ≤ K ∧ K < len + f ∧ it p K i = i) → Least p i (perGo p i f (it p len i) len) ∧ perGo p i f (it p len i) len < len + f
  | 0, len, _, _, ⟨K, h1, h2, _⟩ => by omega
  | f + 1, len, h1, hl, ⟨K, k1, k2, k3⟩ => by
    unfold perGo
    by_cases c : it p len i = i
    · rw [if_pos c]
      exact ⟨⟨h1, c, hl⟩, by omega⟩
    · rw [if_neg c]
      have hK : K ≠ len := fun z => c (z ▸ k3)
      have := perGo_ok f (len + 1) (by omega) (fun j j1 j2 => by
        by_cases e : j = len
        · rw [e]; exact c
        · exact hl j j1 (by omega)) ⟨K, by omega, by omega, k3⟩
      have e : g p (it p len i) = it p (len + 1) i := rfl
      rw [e]
      exact ⟨this.1, by have := this.2; omega⟩
theorem IsP.per_ok (h : IsP p n) {i : Nat} (hi : i < n) : Least p i (per p n i) ∧ per p n i ≤ n := by
  obtain ⟨K, k1, k2, k3⟩ := h.period hi
  have := perGo_ok (p := p) (i := i) n 1 (Nat.le_refl 1) (fun j j1 j2 => by omega) ⟨K, k1, by omega, k3⟩
  exact ⟨this.1, by have := this.2; show perGo p i n (it p 1 i) 1 ≤ n; omega⟩
theorem IsP.per_g (h : IsP p n) {i : Nat} (hi : i < n) : per p n (g p i) = per p n i := by
  have h1 := (h.per_ok (h.lt i hi)).1
  have h2 := (h.per_ok hi).1
  refine h1.uniq ⟨h2.1, by rw [it_g, h2.2.1], fun j j1 j2 e => h2.2.2 j j1 j2 ?_⟩
  rw [it_g] at e
  exact h.inj _ _ (h.it_lt j hi) hi e
theorem IsP.per_it (h : IsP p n) {i : Nat} (hi : i < n) : ∀ k, per p n (it p k i) = per p n i
  | 0 => rfl
  | k + 1 => by show per p n (g p (it p k i)) = _; rw [h.per_g (h.it_lt k hi), h.per_it hi k]
/-! ### counting -/
def cn (n : Nat) (P : Nat → Bool) : Nat := (List.range n).countP P
theorem cn_succ (n : Nat) (P : Nat → Bool) : cn (n + 1) P = cn n P + if P n then 1 else 0 := by
  unfold cn
  rw [List.range_succ, List.countP_append]
  simp [List.countP_cons]
theorem cn_congr {P Q : Nat → Bool} : ∀ {n : Nat}, (∀ i, i < n → P i = Q i) → cn n P = cn n Q
  | 0, _ => rfl
  | n + 1, h => by rw [cn_succ, cn_succ, cn_congr fun i hi => h i (by omega), h n (by omega)]
theorem cn_none {P : Nat → Bool} {n : Nat} (h : ∀ i, i < n → P i = false) : cn n P = 0 := by
  rw [cn_congr (Q := fun _ => false) h]
  unfold cn
  simp
theorem cn_set {s q : Nat → Bool} {j : Nat} : ∀ {n : Nat}, j < n → s j = false → cn n (fun i => (if i = j then true else s i) && q i) = cn n (fun i => s i && q i) + if q j then 1 else 0
  | 0, h, _ => by omega
  | n + 1, h, hs => by
    rw [cn_succ, cn_succ]
    by_cases c : j = n
    · subst c
      rw [cn_congr (n := j) (Q := fun i => s i && q i) fun i hi => by rw [if_neg (by omega)], hs]
      simp
    · rw [cn_set (by omega) hs]
      have : (if n = j then true else s n) = s n := if_neg (by omega)
      rw [this]
      omega
theorem cn_map {P : Nat → Bool} {t : List Nat} (h : IsP t n) : cn n (fun i => P (g t i)) = cn n P := by
  unfold cn
  rw [← h.perm.countP_eq P, List.countP_map]
  rfl
/-- the lengths of the cycles, in order -/
def lens (p : List Nat) (n : Nat) : List Nat := (List.range' 1 n).flatMap fun l => List.replicate (cn n (fun i => per p n i == l) / l) l
theorem lens_sorted : (lens p n).Pairwise (· ≤ ·) := by
  unfold lens
  rw [List.pairwise_flatMap]
  refine ⟨fun a _ => List.pairwise_replicate.mpr (.inr (Nat.le_refl a)), ?_⟩
  refine List.Pairwise.imp (R := fun a b => a < b) (fun {a b} h x hx y hy => ?_) (List.pairwise_lt_range' (s := 1) (n := n))
  rw [(List.mem_replicate.mp hx).2, (List.mem_replicate.mp hy).2]
  omega
theorem count_flat (f : Nat → Nat) (l : Nat) : ∀ (m s : Nat), List.count l ((List.range' s m).flatMap fun k => List.replicate (f k) k) = if s ≤ l ∧ l < s + m then f l else 0
  | 0, s => by simp; omega
  | m + 1, s => by
    rw [List.range'_succ, List.flatMap_cons, List.count_append, count_flat f l m (s + 1), List.count_replicate]
    by_cases c : s = l
    · subst c
      rw [if_pos (by simp), if_neg (by omega), if_pos (by omega)]
      rfl
    · rw [if_neg (by simpa using c)]
      by_cases d : s + 1 ≤ l ∧ l < s + 1 + m
      · rw [if_pos d, if_pos (by omega)]; omega
      · rw [if_neg d, if_neg (by omega)]
theorem lens_eq (h : IsP p n) {ns : List Nat} (h1 : ns.Pairwise (· ≤ ·)) (h2 : ∀ l, List.count l ns * l = cn n fun i => per p n i == l) (h0 : 0 ∉ ns) : ns = lens p n := by
  refine List.Perm.eq_of_pairwise (fun a b _ _ q r => Nat.le_antisymm q r) h1 lens_sorted ?_
  rw [List.perm_iff_count]
  intro l
  unfold lens
  rw [count_flat]
  have e := h2 l
  by_cases c : l = 0
  · subst c
    rw [if_neg (by omega)]
    exact List.count_eq_zero.mpr h0
  · by_cases d : l ≤ n
    · rw [if_pos (by omega), ← e, Nat.mul_div_cancel _ (by omega)]
    · rw [if_neg (by omega)]
      have : cn n (fun i => per p n i == l) = 0 := cn_none fun i hi => by
        have := (h.per_ok hi).2
        exact beq_eq_false_iff_ne.mpr (by omega)
      rw [this] at e
      rcases Nat.mul_eq_zero.mp e with q | q
      · exact q
      · exact absurd q c
theorem lens_congr {p q : List Nat} (h : ∀ l, cn n (fun i => per p n i == l) = cn n (fun i => per q n i == l)) : lens p n = lens q n := by
  unfold lens
  congr 1
  funext l
  rw [h l]
theorem lens_conj {p t o : List Nat} (hp : IsP p n) (ht : IsP t n) (ho : IsP o n) (h : ∀ i, i < n → g o (g t i) = g t (g p i)) : lens o n = lens p n := by
  have hit : ∀ k i, i < n → it o k (g t i) = g t (it p k i) := fun k => by
    induction k with
    | zero => intro i _; rfl
    | succ k ih => intro i hi; show g o (it o k (g t i)) = g t (g p (it p k i)); rw [ih i hi, h _ (hp.it_lt k hi)]
  have hper : ∀ i, i < n → per o n (g t i) = per p n i := fun i hi => by
    have h1 := (ho.per_ok (ht.lt i hi)).1
    have h2 := (hp.per_ok hi).1
    refine h1.uniq ⟨h2.1, by rw [hit _ _ hi, h2.2.1], fun j j1 j2 e => h2.2.2 j j1 j2 ?_⟩
    rw [hit _ _ hi] at e
    exact ht.inj _ _ (hp.it_lt j hi) hi e
  refine lens_congr fun l => ?_
  rw [← cn_map ht (P := fun i => per o n i == l)]
  exact cn_congr fun i hi => by rw [hper i hi]
/-! ### inverses, products -/
def IsInv (p b : List Nat) (n : Nat) : Prop := b.length = n ∧ ∀ i, i < n → g b (g p i) = i
theorem IsInv.uniq (h : IsP p n) {b b' : List Nat} (h1 : IsInv p b n) (h2 : IsInv p b' n) : b = b' := by
  refine g_ext (h1.1.trans h2.1.symm) fun j hj => ?_
  obtain ⟨i, hi, rfl⟩ := h.surj (by rw [h1.1] at hj; exact hj)
  rw [h1.2 i hi, h2.2 i hi]
theorem IsInv.back (h : IsP p n) {b : List Nat} (h1 : IsInv p b n) {j : Nat} (hj : j < n) : g p (g b j) = j := by
  obtain ⟨i, hi, rfl⟩ := h.surj hj
  rw [h1.2 i hi]
theorem IsInv.isP (h : IsP p n) {b : List Nat} (h1 : IsInv p b n) : IsP b n := by
  refine ⟨h1.1, fun j hj => ?_, fun i j hi hj e => ?_⟩
  · obtain ⟨i, hi, rfl⟩ := h.surj hj
    rw [h1.2 i hi]
    exact hi
  · rw [← h1.back h hi, ← h1.back h hj, e]
theorem lens_inv (h : IsP p n) {b : List Nat} (h1 : IsInv p b n) : lens b n = lens p n := by
  have hb := h1.isP h
  have hit : ∀ k i, i < n → it b k (it p k i) = i := fun k => by
    induction k with
    | zero => intro i _; rfl
    | succ k ih =>
      intro i hi
      show g b (it b k (g p (it p k i))) = i
      rw [← it_g, h1.2 _ (h.it_lt k hi), ih i hi]
  have hper : ∀ i, i < n → per b n i = per p n i := fun i hi => by
    have k1 := (hb.per_ok hi).1
    have k2 := (h.per_ok hi).1
    refine k1.uniq ⟨k2.1, ?_, fun j j1 j2 e => k2.2.2 j j1 j2 ?_⟩
    · have := hit (per p n i) i hi
      rwa [k2.2.1] at this
    · have := hit j i hi
      exact hb.it_inj j (h.it_lt j hi) hi (this.trans e.symm)
  exact lens_congr fun l => cn_congr fun i hi => by rw [hper i hi]
def cmp (a b : List Nat) : List Nat := b.map (g a)
theorem g_cmp {a b : List Nat} {i : Nat} (h : i < b.length) : g (cmp a b) i = g a (g b i) := by
  simp [cmp, g, h]
theorem IsP.cmp {a b : List Nat} (ha : IsP a n) (hb : IsP b n) : IsP (cmp a b) n := by
  have hl := hb.len
  refine ⟨by unfold PM.cmp; rw [List.length_map]; exact hl, fun i hi => ?_, fun i j hi hj e => ?_⟩
  · rw [g_cmp (by omega)]; exact ha.lt _ (hb.lt i hi)
  · rw [g_cmp (by omega), g_cmp (by omega)] at e
    exact hb.inj _ _ hi hj (ha.inj _ _ (hb.lt i hi) (hb.lt j hj) e)
theorem inv_cmp {a b a' b' : List Nat} (ha : IsP a n) (hb : IsP b n) (ha' : IsInv a a' n) (hb' : IsInv b b' n) : IsInv (cmp a b) (cmp b' a') n := by
  have hl := hb.len
  have hl' := ha'.1
  refine ⟨by unfold cmp; rw [List.length_map]; exact hl', fun i hi => ?_⟩
  rw [g_cmp (a := a) (by omega), g_cmp (by rw [hl']; exact ha.lt _ (hb.lt i hi)), ha'.2 _ (hb.lt i hi), hb'.2 i hi]
theorem isP_range (n : Nat) : IsP (List.range n) n := IsP.of_perm (List.Perm.refl _)
theorem cmp_inv (h : IsP p n) {b : List Nat} (h1 : IsInv p b n) : cmp b p = List.range n ∧ cmp p b = List.range n := by
  have hb := h1.isP h
  refine ⟨g_ext (by simp [cmp, h.len]) fun i hi => ?_, g_ext (by simp [cmp, h1.1]) fun i hi => ?_⟩
  · have hi' : i < n := by simpa [cmp, h.len] using hi
    rw [g_cmp (by rw [h.len]; exact hi'), h1.2 i hi']
    simp [g, hi']
  · have hi' : i < n := by simpa [cmp, h1.1] using hi
    rw [g_cmp (by rw [h1.1]; exact hi'), h1.back h hi']
    simp [g, hi']
theorem inv_inv (h : IsP p n) {b : List Nat} (h1 : IsInv p b n) : IsInv b p n := ⟨h.len, fun _ hj => h1.back h hj⟩
/-- renumbered -/
theorem conj_isP {o t r : List Nat} (ho : IsP o n) (ht : IsP t n) (hl : r.length = n) (h : ∀ i, i < n → g r (g t i) = g t (g o i)) : IsP r n := by
  refine ⟨hl, fun j hj => ?_, fun j j' hj hj' e => ?_⟩
  · obtain ⟨i, hi, rfl⟩ := ht.surj hj
    rw [h i hi]
    exact ht.lt _ (ho.lt i hi)
  · obtain ⟨i, hi, rfl⟩ := ht.surj hj
    obtain ⟨i', hi', rfl⟩ := ht.surj hj'
    rw [h i hi, h i' hi'] at e
    rw [ho.inj _ _ hi hi' (ht.inj _ _ (ho.lt i hi) (ho.lt i' hi') e)]
end
theorem perm_erase : ∀ {l : List Nat} {i : Nat} {x : Nat}, l[i]? = some x → (x :: l.eraseIdx i).Perm l
  | [], _, _, h => by simp at h
  | a :: r, 0, x, h => by
    simp at h
    subst h
    exact List.Perm.refl _
  | a :: r, i + 1, x, h => by
    simp at h
    have := perm_erase h
    exact (List.Perm.swap a x _).trans (List.Perm.cons a this)
/-- a turned row -/
theorem turn_perm (s : Nat) : ∀ L : Nat, ((List.range (L + 1)).map fun k => s + (k + 1) % (L + 1)).Perm (List.range' s (L + 1)) := fun L => by
  refine (List.perm_ext_iff_of_nodup (map_nodup (n := L + 1) fun a b ha hb e => ?_) (List.nodup_range' (step := 1))).mpr fun a => ?_
  · have e : (a + 1) % (L + 1) = (b + 1) % (L + 1) := by omega
    by_cases ca : a = L
    · by_cases cb : b = L
      · omega
      · rw [ca, Nat.mod_self, Nat.mod_eq_of_lt (by omega)] at e
        omega
    · by_cases cb : b = L
      · rw [cb, Nat.mod_self, Nat.mod_eq_of_lt (by omega)] at e
        omega
      · rw [Nat.mod_eq_of_lt (by omega), Nat.mod_eq_of_lt (by omega)] at e
        omega
  · simp only [List.mem_map, List.mem_range, List.mem_range'_1]
    constructor
    · rintro ⟨k, hk, rfl⟩
      have := Nat.mod_lt (k + 1) (show 0 < L + 1 by omega)
      omega
    · rintro ⟨h1, h2⟩
      by_cases c : a = s
      · exact ⟨L, by omega, by rw [Nat.mod_self]; omega⟩
      · exact ⟨a - s - 1, by omega, by rw [Nat.mod_eq_of_lt (by omega)]; omega⟩
end PM

namespace DL
open PySem PySem.Spec PyProof.Rows L2
/-- a written dict of the module: words to whole numbers -/
structure Tbl (w : World) (K : Frag) (mg : Str → Option Value) (x : Str) (tbl : List (Str × Int)) : Prop where
  ex : ∃ d es n, mg x = some (.ref d) ∧ KDict K w d es n ∧ ∀ p ∈ tbl, ∃ t, PySem.W.nsIn K d p.1 = some (some (.int p.2 t))
theorem mem_of_lookup {z : Str} {v : Int} : ∀ {tbl : List (Str × Int)}, tbl.lookup z = some v → (z, v) ∈ tbl
  | [], h => by cases h
  | (k, u) :: r, h => by
    rw [List.lookup_cons] at h
    split at h
    · rename_i e
      cases h
      rw [eq_of_beq e]
      exact List.mem_cons_self
    · exact List.mem_cons_of_mem _ (mem_of_lookup h)
section
variable {X : Cx} {pos : Pos} {a b : Expr} {da : RE} {st : Stmt} {x : Str} {tbl : List (Str × Int)}
/-- what is never reached -/
def sNever : RS := fun _ _ => False
theorem st_never : DS X st sNever := ⟨_, ps_never, fun F0 B F H ρ σ s E DD h D k => h.elim⟩
/-- a module's whole number -/
theorem de_gint {n : Int} (h : ∃ t, X.mg x = some (.int n t)) (hg : Gl X x := by rfl) (hd : (x == ("__debug__" : Str)) = false := by decide) : DE X (.Name x pos) (dC (.int n)) := by
  obtain ⟨t, h⟩ := h
  exact ⟨_, pe_glob (v := .int n) hg h ⟨t, rfl⟩ hd, fun B F H ρ σ E q hq Q k => k _ _ F H (Gr.refl E.fh) (.int _) hq⟩
/-- e in TABLE, where it is in -/
def dKIn (tbl : List (Str × Int)) (r : Bool) (da : RE) : RE := fun ρ q => da ρ fun d => match d with | .str z => (tbl.lookup z).isSome = true ∧ q (.bool r) | _ => False
theorem sim_inK {te : TE} {d : Addr} {tbl : List (Str × Int)} {r : Bool} {f : Option Value → Bool} (hf : ∀ u, f (some u) = r) (h2 : ∀ p ∈ tbl, ∃ t, PySem.W.nsIn X.K d p.1 = some (some (.int p.2 t))) (a2 : SimE X.K te da) :
    SimE X.K (tOp (fun x y H Q => ∃ (z : Str) (r : Option Value), x = .str z ∧ y = .ref d ∧ PySem.W.nsIn X.K d z = some r ∧ Q (.bl (f r)) H) te (tC (.ref d))) (dKIn tbl r da) := fun B F H ρ σ E q hq Q k => a2 B F H ρ σ E _ hq _ fun v e F1 H1 g b z => by
  cases b with
  | str y =>
    obtain ⟨z1, z2⟩ := z
    obtain ⟨u, hu⟩ := Option.isSome_iff_exists.mp z1
    obtain ⟨t, ht⟩ := h2 _ (mem_of_lookup hu)
    refine ⟨y, _, rfl, rfl, ht, ?_⟩
    rw [hf]
    exact k _ _ F1 H1 g (.bl _) z2
  | _ => exact z.elim
theorem de_inK {p2 : Pos} (T : Tbl X.w X.K X.mg x tbl) (ha : DE X a da) (hg : Gl X x := by rfl) (hd : (x == ("__debug__" : Str)) = false := by decide) (hm : behindInMarks .In (.Name x p2) = false := by first | exact nomark _ | rfl) :
    DE X (.Compare a [.In] [.Name x p2] pos) (dKIn tbl true da) := by
  obtain ⟨d, es, n, h1, D, h2⟩ := T.ex
  obtain ⟨te, a1, a2⟩ := ha
  exact ⟨_, pe_cmpR (op_in_kd D) a1 (pe_glob (v := .ref d) hg h1 rfl hd) hm, sim_inK (f := fun r => r.isSome) (fun _ => rfl) h2 a2⟩
theorem dt_inK {p2 : Pos} (T : Tbl X.w X.K X.mg x tbl) (ha : DE X a da) (hg : Gl X x := by rfl) (hd : (x == ("__debug__" : Str)) = false := by decide) (hm : behindInMarks .In (.Name x p2) = false := by first | exact nomark _ | rfl) :
    DT X (.Compare a [.In] [.Name x p2] pos) (tBool (dKIn tbl true da)) := by
  obtain ⟨d, es, n, h1, D, h2⟩ := T.ex
  obtain ⟨te, a1, a2⟩ := ha
  exact ⟨_, pt_cmpR (op_in_kd D) a1 (pe_glob (v := .ref d) hg h1 rfl hd) hm, sim_bool (sim_inK (f := fun r => r.isSome) (fun _ => rfl) h2 a2)⟩
theorem de_notInK {p2 : Pos} (T : Tbl X.w X.K X.mg x tbl) (ha : DE X a da) (hg : Gl X x := by rfl) (hd : (x == ("__debug__" : Str)) = false := by decide) (hm : behindInMarks .NotIn (.Name x p2) = false := by first | exact nomark _ | rfl) :
    DE X (.Compare a [.NotIn] [.Name x p2] pos) (dKIn tbl false da) := by
  obtain ⟨d, es, n, h1, D, h2⟩ := T.ex
  obtain ⟨te, a1, a2⟩ := ha
  exact ⟨_, pe_cmpR (op_notIn_kd D) a1 (pe_glob (v := .ref d) hg h1 rfl hd) hm, sim_inK (f := fun r => !r.isSome) (fun _ => rfl) h2 a2⟩
theorem dt_notInK {p2 : Pos} (T : Tbl X.w X.K X.mg x tbl) (ha : DE X a da) (hg : Gl X x := by rfl) (hd : (x == ("__debug__" : Str)) = false := by decide) (hm : behindInMarks .NotIn (.Name x p2) = false := by first | exact nomark _ | rfl) :
    DT X (.Compare a [.NotIn] [.Name x p2] pos) (tBool (dKIn tbl false da)) := by
  obtain ⟨d, es, n, h1, D, h2⟩ := T.ex
  obtain ⟨te, a1, a2⟩ := ha
  exact ⟨_, pt_cmpR (op_notIn_kd D) a1 (pe_glob (v := .ref d) hg h1 rfl hd) hm, sim_bool (sim_inK (f := fun r => !r.isSome) (fun _ => rfl) h2 a2)⟩
/-- TABLE[e] -/
def dKGet (tbl : List (Str × Int)) (da : RE) : RE := fun ρ q => da ρ fun d => match d with | .str z => (match tbl.lookup z with | some n => q (.int n) | none => False) | _ => False
theorem de_getK {p2 : Pos} (T : Tbl X.w X.K X.mg x tbl) (ha : DE X a da) (hg : Gl X x := by rfl) (hd : (x == ("__debug__" : Str)) = false := by decide) (hs : PlainIx a := by exact fun _ _ => rfl) :
    DE X (.Subscript (.Name x p2) a pos) (dKGet tbl da) := by
  obtain ⟨d, es, n, h1, D, h2⟩ := T.ex
  obtain ⟨te, a1, a2⟩ := ha
  refine ⟨_, pe_ix ix_kdict (pe_glob (v := .ref d) hg h1 rfl hd) a1 hs, fun B F H ρ σ E q hq Q k => a2 B F H ρ σ E _ hq _ fun v e F1 H1 g r z => ?_⟩
  cases r with
  | str y =>
    cases hu : tbl.lookup y with
    | none => simp only [hu] at z
    | some u =>
      simp only [hu] at z
      obtain ⟨t, ht⟩ := h2 _ (mem_of_lookup hu)
      exact ⟨d, y, .int u, rfl, rfl, ⟨es, n, _, D.at_, D.lit, ht, ⟨t, rfl⟩⟩, k _ _ F1 H1 g (.int _) z⟩
  | _ => exact z.elim
end
/-! data of few signs -/
mutual
def rpS : D → Bool
  | .none | .bool _ => true
  | .int i => decide (i.natAbs < 10 ^ 40)
  | .str x => decide ((PyData.shown (.str x)).length + 2 ≤ 50)
  | .list xs | .tuple xs => rpSAll xs
  | _ => false
def rpSAll : List D → Bool
  | [] => true
  | x :: xs => rpS x && rpSAll xs
end
mutual
theorem rpS_len : ∀ d : D, rpS d = true → d.shown.length + 2 ≤ 50 * cells d
  | .none, _ => by
    have e : (PyData.shown .none).length = 4 := rfl
    rw [e]; simp [cells]
  | .bool b, _ => by
    have e : (PyData.shown (.bool b)).length ≤ 5 := by cases b <;> decide
    simp only [cells]; omega
  | .int i, h => by
    have e := int_text_length_le10 (k := 40) (by decide) (show i.natAbs < 10 ^ 40 by simpa [rpS] using h)
    show (Str.ofString (toString i)).length + 2 ≤ _
    rw [PySem.ofString_length]
    simp only [cells]
    omega
  | .list xs, h => by
    have h3 := rpS_lenAll xs (by simpa only [rpS] using h)
    have h4 := listText_len_le (PyData.shownAll xs)
    have h5 := PyData.shownAll_length xs
    simp only [PyData.shown, cells]
    omega
  | .tuple xs, h => by
    have h3 := rpS_lenAll xs (by simpa only [rpS] using h)
    have h4 := tupleText_len_le (PyData.shownAll xs)
    have h5 := PyData.shownAll_length xs
    simp only [PyData.shown, cells]
    omega
  | .str _, h => by
    simp only [cells]
    have := of_decide_eq_true (show decide _ = true by simpa only [rpS] using h)
    omega
  | .dict _, h => by simp [rpS] at h
theorem rpS_lenAll : ∀ xs : List D, rpSAll xs = true → ((PyData.shownAll xs).map (·.length)).sum + 2 * xs.length ≤ 50 * cellsAll xs
  | [], _ => by simp [PyData.shownAll, cellsAll]
  | x :: xs, h => by
    have h' : rpS x = true ∧ rpSAll xs = true := by simpa only [rpSAll, Bool.and_eq_true] using h
    have a3 := rpS_len x h'.1
    have b3 := rpS_lenAll xs h'.2
    simp only [PyData.shownAll, cellsAll, List.map_cons, List.sum_cons, List.length_cons]
    omega
end
mutual
theorem rpS_rpD : ∀ d : D, rpS d = true → rpD d = true
  | .none, _ => rfl
  | .bool b, _ => rfl
  | .int i, h => by
    have h : i.natAbs < 10 ^ 40 := by simpa [rpS] using h
    exact decide_eq_true (Nat.lt_of_lt_of_le h (by unfold bigLine; decide +kernel))
  | .list xs, h => by simp only [rpD]; exact rpS_rpDAll xs (by simpa only [rpS] using h)
  | .tuple xs, h => by simp only [rpD]; exact rpS_rpDAll xs (by simpa only [rpS] using h)
  | .str _, h => by
    have := of_decide_eq_true (show decide _ = true by simpa only [rpS] using h)
    simp only [rpD]
    exact decide_eq_true (by omega)
  | .dict _, h => by simp [rpS] at h
theorem rpS_rpDAll : ∀ xs : List D, rpSAll xs = true → rpAll xs = true
  | [], _ => rfl
  | x :: xs, h => by
    have h' : rpS x = true ∧ rpSAll xs = true := by simpa only [rpSAll, Bool.and_eq_true] using h
    simp only [rpAll, rpS_rpD x h'.1, rpS_rpDAll xs h'.2, Bool.and_true]
end
/-- repr, by the text's length -/
def gRepr2 : GA := fun xs q => match xs with | [d] => (reprOk d = true ∧ rpD d = true ∧ Fit d.shown.length ∧ d.depth ≤ 60) ∧ q (.str d.shown) | _ => False
section
variable {X : Cx}
theorem c_repr2 (hdg : X.base.NoDigits) (hg : X.A.guards = some []) (hu : X.A.units + 64 < cLine) : CallD X (.builtin "repr") gRepr2 := by
  refine ⟨fun vs H Q => ∃ v d, vs = [v] ∧ Dp X.K H v d ∧ (reprOk d = true ∧ rpD d = true ∧ Fit d.shown.length ∧ d.depth ≤ 60) ∧ Q (.str d.shown) H, ?_, ?_⟩
  · rintro pins s σ H vs us Q I r ⟨v, d, rfl, hd, ⟨h0, h1, h2, h3⟩, q⟩
    cases r with
    | cons ru rt =>
      cases rt
      rename_i u
      obtain ⟨as, rd⟩ := Dp.reads I d v u hd ru
      exact rp_call (hdg.keeps fun b o e => (I.bs b o e).1) rd h0 h1 h2.le hg (by omega) fun h' t tk hk => ⟨.str _, H, I.kept hk, ⟨_, rfl⟩, q⟩
  · intro F H vs xs fh b q hq Q k
    cases b with
    | nil => exact hq.elim
    | cons b1 bt =>
      cases bt with
      | nil => exact ⟨_, _, rfl, b1.dp fh, hq.1, k _ _ F H (Gr.refl fh) (.str _) hq.2⟩
      | cons _ _ => exact hq.elim
end
end DL

/-! sums of powers and symmetric sums of fractions (plain) -/
namespace NW
def es : List Rat → Nat → Rat
  | _, 0 => 1
  | [], _ + 1 => 0
  | x :: xs, k + 1 => es xs (k + 1) + x * es xs k
theorem es_0 (xs : List Rat) : es xs 0 = 1 := by cases xs <;> rfl
theorem es_nil (k : Nat) : es [] (k + 1) = 0 := rfl
theorem es_cons (x : Rat) (xs : List Rat) (k : Nat) : es (x :: xs) (k + 1) = es xs (k + 1) + x * es xs k := rfl
theorem es_snoc (x : Rat) : ∀ (xs : List Rat) (k : Nat), es (xs ++ [x]) (k + 1) = es xs (k + 1) + x * es xs k
  | [], 0 => by simp [es]
  | [], k + 1 => by simp [es]
  | y :: ys, 0 => by
    rw [List.cons_append, es_cons, es_cons, es_snoc x ys 0, es_0, es_0, es_0]
    grind
  | y :: ys, k + 1 => by
    rw [List.cons_append, es_cons, es_cons, es_cons, es_snoc x ys (k + 1), es_snoc x ys k]
    grind
theorem es_big : ∀ (xs : List Rat) (k : Nat), xs.length < k → es xs k = 0
  | [], k + 1, _ => rfl
  | x :: xs, k + 1, h => by
    rw [List.length_cons] at h
    rw [es_cons, es_big xs (k + 1) (by omega), es_big xs k (by omega)]
    grind
  | [], 0, h => by simp at h
  | x :: xs, 0, h => by simp at h
def ps : List Rat → Nat → Rat
  | [], _ => 0
  | x :: xs, j => ps xs j + x ^ j
theorem ps_cons (x : Rat) (xs : List Rat) (j : Nat) : ps (x :: xs) j = ps xs j + x ^ j := rfl
/-- the sum over j to m of (-1)^(j-1) e (k - j) p j -/
def al (e p : Nat → Rat) (k : Nat) : Nat → Rat
  | 0 => 0
  | m + 1 => al e p k m + (-1) ^ m * (e (k - (m + 1)) * p (m + 1))
theorem al_succ (e p : Nat → Rat) (k m : Nat) : al e p k (m + 1) = al e p k m + (-1) ^ m * (e (k - (m + 1)) * p (m + 1)) := rfl
theorem al_step (x : Rat) (xs : List Rat) (n : Nat) : ∀ m, m ≤ n → al (es (x :: xs)) (ps (x :: xs)) (n + 1) m = al (es xs) (ps xs) (n + 1) m + x * al (es xs) (ps xs) n m + (x * es xs n - (-1) ^ m * (x ^ (m + 1) * es xs (n - m))) := by
  intro m
  induction m with
  | zero =>
    intro _
    simp only [al, Nat.sub_zero, Nat.zero_add]
    grind
  | succ m ih =>
    intro h
    obtain ⟨r, hr⟩ : ∃ r, n = m + 1 + r := ⟨n - (m + 1), by omega⟩
    have i1 : n + 1 - (m + 1) = r + 1 := by omega
    have i2 : n - (m + 1) = r := by omega
    have i3 : n - m = r + 1 := by omega
    rw [al_succ, al_succ, al_succ, ih (by omega), i1, i2, i3, es_cons, ps_cons]
    have e1 : x ^ (m + 1 + 1) = x ^ (m + 1) * x := Rat.pow_succ x (m + 1)
    have e2 : (-1 : Rat) ^ (m + 1) = (-1) ^ m * (-1) := Rat.pow_succ _ m
    rw [e1, e2]
    generalize x ^ (m + 1) = X
    generalize (-1 : Rat) ^ m = s
    generalize ps xs (m + 1) = p
    grind
theorem newton : ∀ (xs : List Rat) (k : Nat), al (es xs) (ps xs) k k = (k : Rat) * es xs k
  | xs, 0 => by simp [al]
  | [], k + 1 => by
    have : ∀ m, al (es []) (ps []) (k + 1) m = 0 := by
      intro m
      induction m with
      | zero => rfl
      | succ m ih => rw [al_succ, ih]; simp only [ps]; grind
    rw [this, es_nil]
    grind
  | x :: xs, k + 1 => by
    have i1 : k + 1 - (k + 1) = 0 := by omega
    rw [al_succ, al_step x xs k k (Nat.le_refl _), i1, es_0, ps_cons, es_cons]
    have h1 := newton xs (k + 1)
    have h2 := newton xs k
    rw [al_succ, i1, es_0] at h1
    rw [Nat.sub_self, es_0]
    have ek : ((k + 1 : Nat) : Rat) = (k : Rat) + 1 := by simp
    rw [ek] at h1 ⊢
    generalize x ^ (k + 1) = X at *
    generalize (-1 : Rat) ^ k = s at *
    generalize ps xs (k + 1) = p at *
    generalize al (es xs) (ps xs) (k + 1) k = a at *
    generalize al (es xs) (ps xs) k k = b at *
    generalize es xs (k + 1) = e1 at *
    generalize es xs k = e0 at *
    grind
theorem ps_snoc (x : Rat) (j : Nat) : ∀ xs : List Rat, ps (xs ++ [x]) j = ps xs j + x ^ j
  | [] => rfl
  | y :: ys => by
    rw [List.cons_append, ps_cons, ps_cons, ps_snoc x j ys]
    grind
/-- r times D is whole, at most B -/
def Dn (r : Rat) (D B : Nat) : Prop := ∃ N : Int, r * (D : Rat) = (N : Rat) ∧ N.natAbs ≤ B
theorem Dn.mul {r s : Rat} {D D' B B' : Nat} (h : Dn r D B) (g : Dn s D' B') : Dn (r * s) (D * D') (B * B') := by
  obtain ⟨N, h1, h2⟩ := h
  obtain ⟨M, g1, g2⟩ := g
  refine ⟨N * M, ?_, ?_⟩
  · rw [Rat.natCast_mul, Rat.intCast_mul]
    grind
  · rw [Int.natAbs_mul]
    exact Nat.mul_le_mul h2 g2
theorem Dn.add {r s : Rat} {D B B' : Nat} (h : Dn r D B) (g : Dn s D B') : Dn (r + s) D (B + B') := by
  obtain ⟨N, h1, h2⟩ := h
  obtain ⟨M, g1, g2⟩ := g
  refine ⟨N + M, ?_, by omega⟩
  rw [Rat.intCast_add]
  grind
theorem Dn.up {r : Rat} {D B : Nat} (h : Dn r D B) (c : Nat) : Dn r (D * c) (B * c) := by
  obtain ⟨N, h1, h2⟩ := h
  refine ⟨N * c, ?_, ?_⟩
  · rw [Rat.natCast_mul, Rat.intCast_mul]
    have : ((c : Int) : Rat) = (c : Rat) := rfl
    grind
  · rw [Int.natAbs_mul, Int.natAbs_natCast]
    exact Nat.mul_le_mul_right _ h2
theorem Dn.le {r : Rat} {D B B' : Nat} (h : Dn r D B) (hb : B ≤ B') : Dn r D B' := by
  obtain ⟨N, h1, h2⟩ := h
  exact ⟨N, h1, Nat.le_trans h2 hb⟩
theorem Dn.neg {r : Rat} {D B : Nat} (h : Dn r D B) : Dn (-r) D B := by
  obtain ⟨N, h1, h2⟩ := h
  refine ⟨-N, ?_, by omega⟩
  rw [Rat.intCast_neg]
  grind
theorem Dn.int {n : Int} {B : Nat} (h : n.natAbs ≤ B) : Dn (n : Rat) 1 B := ⟨n, by simp, h⟩
theorem Dn.sz {r : Rat} {D B : Nat} (h : Dn r D B) (hD : 0 < D) : r.num.natAbs ≤ B ∧ r.den ≤ D := by
  obtain ⟨N, h1, h2⟩ := h
  have e : r = mkRat N D := by
    have hd : (D : Rat) ≠ 0 := by
      intro z
      have : (D : Rat) = ((0 : Nat) : Rat) := z
      have := Rat.natCast_inj.mp this
      omega
    rw [Rat.mkRat_eq_div]
    have : r = r * (D : Rat) / (D : Rat) := by grind
    rw [this, h1]
  obtain ⟨m, hm, e1, e2⟩ := Rat.mkRat_num_den (n := N) (d := D) (n' := r.num) (d' := r.den) (z' := r.den_nz) (c := r.reduced) (by omega) (by rw [← e])
  have hm1 : 1 ≤ m := by omega
  constructor
  · rw [e1, Int.natAbs_mul] at h2
    have : (m : Int).natAbs = m := by simp
    rw [this] at h2
    exact Nat.le_trans (Nat.le_mul_of_pos_right _ (by omega)) h2
  · rw [e2]
    exact Nat.le_mul_of_pos_right _ (by omega)
/-- numbers e with a given row of sums s: k e_k is the alternating sum -/
def fc : Nat → Nat
  | 0 => 1
  | n + 1 => (n + 1) * fc n
theorem fc_pos : ∀ n, 0 < fc n
  | 0 => Nat.one_pos
  | n + 1 => Nat.mul_pos (Nat.succ_pos _) (fc_pos n)
theorem fc_dvd {a b : Nat} (h : a ≤ b) : fc a ∣ fc b := by
  induction b with
  | zero => rw [Nat.le_zero.mp h]; exact Nat.dvd_refl _
  | succ b ih =>
    by_cases c : a = b + 1
    · rw [c]; exact Nat.dvd_refl _
    · exact Nat.dvd_trans (ih (by omega)) ⟨b + 1, by rw [fc, Nat.mul_comm]⟩
theorem sgn_cases (m : Nat) : (-1 : Rat) ^ m = 1 ∨ (-1 : Rat) ^ m = -1 := by
  induction m with
  | zero => exact .inl (Rat.pow_zero _)
  | succ m ih =>
    rw [Rat.pow_succ]
    rcases ih with h | h <;> rw [h]
    · right; grind
    · left; grind
theorem term_dn {e s : Nat → Rat} {C Y k m : Nat} (hm : m < k) (he : ∀ i, i < k → Dn (e i) (C ^ i * fc i) (fc i * Y ^ i)) (hs : ∀ j, 1 ≤ j → j ≤ k → Dn (s j) (C ^ j) (Y ^ j)) :
    Dn (e (k - (m + 1)) * s (m + 1)) (C ^ k * fc (k - 1)) (fc (k - 1) * Y ^ k) := by
  obtain ⟨c, hc⟩ := fc_dvd (show k - (m + 1) ≤ k - 1 by omega)
  have h := ((he (k - (m + 1)) (by omega)).mul (hs (m + 1) (by omega) (by omega))).up c
  have hp : ∀ Z : Nat, Z ^ (k - (m + 1)) * Z ^ (m + 1) = Z ^ k := fun Z => by rw [← Nat.pow_add]; congr 1; omega
  have e1 : C ^ (k - (m + 1)) * fc (k - (m + 1)) * C ^ (m + 1) * c = C ^ k * fc (k - 1) := by rw [hc, ← hp C]; grind
  have e2 : fc (k - (m + 1)) * Y ^ (k - (m + 1)) * Y ^ (m + 1) * c = fc (k - 1) * Y ^ k := by rw [hc, ← hp Y]; grind
  rw [e1, e2] at h
  exact h
theorem al_dn {e s : Nat → Rat} {C Y k : Nat} (he : ∀ i, i < k → Dn (e i) (C ^ i * fc i) (fc i * Y ^ i)) (hs : ∀ j, 1 ≤ j → j ≤ k → Dn (s j) (C ^ j) (Y ^ j)) : ∀ m, m ≤ k → Dn (al e s k m) (C ^ k * fc (k - 1)) (m * (fc (k - 1) * Y ^ k)) := by
  intro m
  induction m with
  | zero => intro _; exact ⟨0, by simp [al], by simp⟩
  | succ m ih =>
    intro h
    have t := term_dn (m := m) (by omega) he hs
    rw [al_succ, Nat.succ_mul]
    refine (ih (by omega)).add ?_
    rcases sgn_cases m with z | z <;> rw [z]
    · rw [show (1 : Rat) * (e (k - (m + 1)) * s (m + 1)) = e (k - (m + 1)) * s (m + 1) by grind]; exact t
    · rw [show (-1 : Rat) * (e (k - (m + 1)) * s (m + 1)) = -(e (k - (m + 1)) * s (m + 1)) by grind]; exact t.neg
theorem ek_dn {e s : Nat → Rat} {C Y : Nat} (h0 : e 0 = 1) (n : Nat) (hk : ∀ k, k ≤ n → al e s k k = (k : Rat) * e k) (hs : ∀ j, 1 ≤ j → j ≤ n → Dn (s j) (C ^ j) (Y ^ j)) : ∀ k, k ≤ n → Dn (e k) (C ^ k * fc k) (fc k * Y ^ k) := by
  intro k
  induction k using Nat.strongRecOn with
  | ind k ih =>
    intro hkn
    cases k with
    | zero => rw [h0]; exact ⟨1, by simp [fc], by simp [fc]⟩
    | succ k =>
      obtain ⟨N, h1, h2⟩ := al_dn (C := C) (Y := Y) (fun i hi => ih i hi (by omega)) (fun j h1 h2 => hs j h1 (by omega)) (k + 1) (Nat.le_refl _)
      rw [hk (k + 1) hkn] at h1
      have i1 : k + 1 - 1 = k := rfl
      rw [i1] at h1 h2
      refine ⟨N, ?_, ?_⟩
      · rw [← h1]
        have : fc (k + 1) = (k + 1) * fc k := rfl
        rw [this]
        simp only [Rat.natCast_mul]
        grind
      · have : fc (k + 1) = (k + 1) * fc k := rfl
        rw [this, Nat.mul_assoc]
        exact h2
def gq (l : List Rat) (i : Nat) : Rat := l.getD i 0
theorem gq_app {l r : List Rat} {i : Nat} (h : i < l.length) : gq (l ++ r) i = gq l i := by simp [gq, List.getElem?_append_left h]
theorem gq_last {l : List Rat} {x : Rat} : gq (l ++ [x]) l.length = x := by simp [gq]
theorem al_congr {e e' s s' : Nat → Rat} {k : Nat} (he : ∀ i, i < k → e i = e' i) (hs : ∀ j, 1 ≤ j → j ≤ k → s j = s' j) : ∀ m, m ≤ k → al e s k m = al e' s' k m := by
  intro m
  induction m with
  | zero => intro _; rfl
  | succ m ih =>
    intro h
    rw [al_succ, al_succ, ih (by omega), he _ (by omega), hs _ (by omega) h]
structure Nw (s : Nat → Rat) (n : Nat) (ls : List Rat) : Prop where
  len : ls.length = n + 1
  h0 : gq ls 0 = 1
  al : ∀ k, k ≤ n → al (gq ls) s k k = (k : Rat) * gq ls k
theorem natRat_ne {k : Nat} (h : k ≠ 0) : (k : Rat) ≠ 0 := by
  intro z
  have : (k : Rat) = ((0 : Nat) : Rat) := z
  exact h (Rat.natCast_inj.mp this)
theorem Nw.uniq {s s' : Nat → Rat} {n : Nat} {a b : List Rat} (h : Nw s n a) (g : Nw s' n b) (hs : ∀ j, 1 ≤ j → j ≤ n → s j = s' j) : a = b := by
  have e : ∀ k, k ≤ n → gq a k = gq b k := by
    intro k
    induction k using Nat.strongRecOn with
    | ind k ih =>
      intro hk
      cases k with
      | zero => rw [h.h0, g.h0]
      | succ k =>
        have h1 := h.al (k + 1) hk
        have g1 := g.al (k + 1) hk
        rw [al_congr (e' := gq b) (s' := s') (fun i hi => ih i hi (by omega)) (fun j h1 h2 => hs j h1 (by omega)) _ (Nat.le_refl _), g1] at h1
        have := natRat_ne (Nat.succ_ne_zero k)
        grind
  refine List.ext_getElem (h.len.trans g.len.symm) fun i h1 h2 => ?_
  have := e i (by rw [h.len] at h1; omega)
  simpa [gq, h1, h2] using this
theorem Nw.one (s : Nat → Rat) : Nw s 0 [1] := ⟨rfl, rfl, fun k hk => by rw [Nat.le_zero.mp hk]; simp [NW.al]⟩
theorem Nw.snoc {s : Nat → Rat} {n : Nat} {ls : List Rat} (h : Nw s n ls) : Nw s (n + 1) (ls ++ [NW.al (gq ls) s (n + 1) (n + 1) * (1 / ((n + 1 : Nat) : Rat))]) := by
  have hl := h.len
  have lo : ∀ x : Rat, ∀ i, i < n + 1 → gq (ls ++ [x]) i = gq ls i := fun x i hi => gq_app (by omega)
  refine ⟨by simp [hl], by rw [lo _ 0 (by omega), h.h0], fun k hk => ?_⟩
  by_cases c : k ≤ n
  · rw [al_congr (e' := gq ls) (s' := s) (fun i hi => lo _ i (by omega)) (fun _ _ _ => rfl) _ (Nat.le_refl _), lo _ k (by omega), h.al k c]
  · have : k = n + 1 := by omega
    subst this
    rw [al_congr (e' := gq ls) (s' := s) (fun i hi => lo _ i hi) (fun _ _ _ => rfl) _ (Nat.le_refl _)]
    have : gq (ls ++ [NW.al (gq ls) s (n + 1) (n + 1) * (1 / ((n + 1 : Nat) : Rat))]) (n + 1) = NW.al (gq ls) s (n + 1) (n + 1) * (1 / ((n + 1 : Nat) : Rat)) := by
      rw [← hl]; exact gq_last
    rw [this]
    have := natRat_ne (Nat.succ_ne_zero n)
    grind
theorem Nw.roots (rs : List Rat) (n : Nat) : Nw (ps rs) n ((List.range (n + 1)).map (es rs)) := by
  have g : ∀ i, i < n + 1 → gq ((List.range (n + 1)).map (es rs)) i = es rs i := fun i hi => by simp [gq, hi]
  refine ⟨by simp, by rw [g 0 (by omega), es_0], fun k hk => ?_⟩
  rw [al_congr (e' := es rs) (s' := ps rs) (fun i hi => g i (by omega)) (fun _ _ _ => rfl) _ (Nat.le_refl _), g k (by omega)]
  exact newton rs k
theorem Nw.dn {s : Nat → Rat} {n C Y : Nat} {ls : List Rat} (h : Nw s n ls) {N : Nat} (hn : n ≤ N) (hs : ∀ j, 1 ≤ j → j ≤ N → Dn (s j) (C ^ j) (Y ^ j)) : ∀ k, k ≤ n → Dn (gq ls k) (C ^ k * fc k) (fc k * Y ^ k) :=
  ek_dn h.h0 n h.al fun j h1 h2 => hs j h1 (by omega)
theorem Dn.one : Dn 1 1 1 := ⟨1, by simp, by simp⟩
theorem pow_dn {r : Rat} {C B : Nat} (h : Dn r C B) : ∀ k, Dn (r ^ k) (C ^ k) (B ^ k)
  | 0 => by rw [Rat.pow_zero, Nat.pow_zero, Nat.pow_zero]; exact Dn.one
  | k + 1 => by rw [Rat.pow_succ, Nat.pow_succ, Nat.pow_succ]; exact (pow_dn h k).mul h
theorem ps_dn {C B : Nat} (j : Nat) : ∀ rs : List Rat, (∀ r ∈ rs, Dn r C B) → Dn (ps rs j) (C ^ j) (rs.length * B ^ j)
  | [], _ => ⟨0, by simp [ps], by simp⟩
  | x :: xs, h => by
    rw [ps_cons, List.length_cons, Nat.succ_mul]
    exact (ps_dn j xs fun r hr => h r (List.mem_cons_of_mem _ hr)).add (pow_dn (h x List.mem_cons_self) j)
theorem es_dn {C B : Nat} (hC : 0 < C) (hB : C ≤ B) : ∀ (rs : List Rat), (∀ r ∈ rs, Dn r C B) → ∀ k, Dn (es rs k) (C ^ k) (2 ^ rs.length * B ^ k)
  | rs, _, 0 => by
    rw [es_0, Nat.pow_zero, Nat.pow_zero]
    exact Dn.one.le (by have := Nat.two_pow_pos rs.length; omega)
  | [], _, k + 1 => ⟨0, by simp [es], by simp⟩
  | x :: xs, h, k + 1 => by
    have h1 := es_dn hC hB xs (fun r hr => h r (List.mem_cons_of_mem _ hr)) (k + 1)
    have h2 := (h x List.mem_cons_self).mul (es_dn hC hB xs (fun r hr => h r (List.mem_cons_of_mem _ hr)) k)
    rw [es_cons, List.length_cons]
    have e1 : C * C ^ k = C ^ (k + 1) := by rw [Nat.pow_succ, Nat.mul_comm]
    rw [e1] at h2
    refine (h1.add h2).le ?_
    rw [Nat.pow_succ, Nat.pow_succ]
    have : B * (2 ^ xs.length * B ^ k) = 2 ^ xs.length * (B ^ k * B) := by grind
    rw [this]
    grind
end NW

namespace DL
open PySem PySem.Spec PyProof.Rows L2
section
variable {X : Cx} {o e : Expr} {d1' da : RE}
def gOr : G2 := gI (fun _ _ => True) fun i j => .int (Builtin.bitOr i j)
theorem o_or : OpD X (binaryOp .BitOr) gOr := opd_I0 op_or fun _ _ => rfl
/-- x.count(k), a list of whole numbers -/
def dCount (dd da : RE) : RE := fun ρ q => dd ρ fun d => match d with | .list xs => da ρ fun k => (match k with | .int i => ∃ ns : List Int, xs = ns.map .int ∧ q (.int (ns.count i : Nat)) | _ => False) | _ => False
theorem de_count {apos cpos : Pos} (ho : DB X o d1') (he : DE X e da)
    (hbase : attributeBase o "count" X.env (eval o X.env) = eval o X.env := by rfl)
    (hfew : ((backTo cpos (starEach (e :: []) X.env)).all (fun x => !x.1) && (backToKw cpos (keywordEach [] X.env)).all (fun x => x.1.isSome)
      && decide ((e :: []).length + ([] : List Keyword).length + (if ([] : List Keyword).isEmpty then 0 else 1) < 30)) = true := by rfl)
    (hline : (apos.endLine == cpos.line) = true := by rfl) (hs : starEach (e :: []) X.env = (false, eval e X.env) :: starEach [] X.env := by rfl) (hplain : (backTo cpos (starEach [] X.env)).any (·.1) = false := by rfl) :
    DE X (.Call (.Attribute o "count" apos) [e] [] cpos) (dCount d1' da) := by
  obtain ⟨to, o1, o2⟩ := ho
  obtain ⟨te, a1, a2⟩ := he
  refine ⟨_, pe_bm PySem.F.plainAttrs_list PySem.F.slot_list_count PySem.F.type_list_count mt_lcount o1 (pa_cons a1 pa_nil hs) hbase hfew hline hs hplain, fun B F H ρ σ E q hq Q k => o2 B F H ρ σ E _ hq _ fun v d F1 H1 g1 b1 z1 => ?_⟩
  cases d with
  | list xs =>
    obtain ⟨p, vs, rfl, hsq, hd⟩ := b1.lst g1.fh
    refine ⟨.inl ⟨rfl, vs, hsq⟩, a2 B F1 H1 ρ σ (E.grow g1) _ z1 _ fun u e' F2 H2 g2 r2 z2 => ?_⟩
    cases r2 with
    | int i =>
      obtain ⟨ns, rfl, z⟩ := z2
      have hv := DpAll.ints_of ns hd
      subst hv
      exact ⟨p, ns, i, rfl, rfl, g2.hh.seq hsq, k _ _ F2 H2 (g1.trans g2) (.int _) z⟩
    | _ => exact z2.elim
  | _ => exact z1.elim
/-- x.index(k): a list of whole numbers, or of texts; k is in it -/
def dIndex (dd da : RE) : RE := fun ρ q => dd ρ fun d => match d with
  | .list xs => da ρ fun k => (match k with
    | .int i => ∃ (ns : List Int) (j : Nat), xs = ns.map .int ∧ ns[j]? = some i ∧ (∀ m, m < j → ns[m]? ≠ some i) ∧ q (.int (j : Nat))
    | .str i => ∃ (ns : List Str) (j : Nat), xs = ns.map .str ∧ ns[j]? = some i ∧ (∀ m, m < j → ns[m]? ≠ some i) ∧ q (.int (j : Nat))
    | _ => False)
  | _ => False
theorem strs_of {K : Frag} {H : Hp} : ∀ {vs : List V} (ns : List Str), DpAll K H vs (ns.map PyData.str) → vs = ns.map V.str
  | [], ns, h => by
    cases ns with
    | nil => rfl
    | cons n r => cases h
  | v :: vs, ns, h => by
    cases ns with
    | nil => cases h
    | cons n r =>
      cases h with
      | cons h1 h2 =>
        cases h1
        rw [strs_of r h2]
        rfl
theorem de_index {apos cpos : Pos} (ho : DB X o d1') (he : DE X e da)
    (hbase : attributeBase o "index" X.env (eval o X.env) = eval o X.env := by rfl)
    (hfew : ((backTo cpos (starEach (e :: []) X.env)).all (fun x => !x.1) && (backToKw cpos (keywordEach [] X.env)).all (fun x => x.1.isSome)
      && decide ((e :: []).length + ([] : List Keyword).length + (if ([] : List Keyword).isEmpty then 0 else 1) < 30)) = true := by rfl)
    (hline : (apos.endLine == cpos.line) = true := by rfl) (hs : starEach (e :: []) X.env = (false, eval e X.env) :: starEach [] X.env := by rfl) (hplain : (backTo cpos (starEach [] X.env)).any (·.1) = false := by rfl) :
    DE X (.Call (.Attribute o "index" apos) [e] [] cpos) (dIndex d1' da) := by
  obtain ⟨to, o1, o2⟩ := ho
  obtain ⟨te, a1, a2⟩ := he
  refine ⟨_, pe_bm PySem.F.plainAttrs_list PySem.F.slot_list_index PySem.F.type_list_index mt_index o1 (pa_cons a1 pa_nil hs) hbase hfew hline hs hplain, fun B F H ρ σ E q hq Q k => o2 B F H ρ σ E _ hq _ fun v d F1 H1 g1 b1 z1 => ?_⟩
  cases d with
  | list xs =>
    obtain ⟨p, vs, rfl, hsq, hd⟩ := b1.lst g1.fh
    refine ⟨.inl ⟨rfl, vs, hsq⟩, a2 B F1 H1 ρ σ (E.grow g1) _ z1 _ fun u e' F2 H2 g2 r2 z2 => ?_⟩
    cases r2 with
    | int i =>
      obtain ⟨ns, j, rfl, h1, h2, z⟩ := z2
      have hv := DpAll.ints_of ns hd
      subst hv
      refine ⟨p, ns.map V.int, .int i, j, .int i, rfl, rfl, g2.hh.seq hsq, rfl, by simp [flatV], by simp [h1], by simp [eqV], fun m z' hm e => ?_, k _ _ F2 H2 (g1.trans g2) (.int _) z⟩
      rw [List.getElem?_map] at e
      obtain ⟨a, ha, rfl⟩ := Option.map_eq_some_iff.mp e
      simp only [eqV, beq_eq_false_iff_ne]
      intro c
      exact h2 m hm (by rw [ha, c])
    | str i =>
      obtain ⟨ns, j, rfl, h1, h2, z⟩ := z2
      have hv := strs_of ns hd
      subst hv
      refine ⟨p, ns.map V.str, .str i, j, .str i, rfl, rfl, g2.hh.seq hsq, rfl, by simp [flatV], by simp [h1], by simp [eqV], fun m z' hm e => ?_, k _ _ F2 H2 (g1.trans g2) (.int _) z⟩
      rw [List.getElem?_map] at e
      obtain ⟨a, ha, rfl⟩ := Option.map_eq_some_iff.mp e
      simp only [eqV, beq_eq_false_iff_ne]
      intro c
      exact h2 m hm (by rw [ha, c])
    | _ => exact z2.elim
  | _ => exact z1.elim
end
end DL

namespace L2
theorem Room.u65 {k : Nat} {A : PySem.Around} (r : Room k A) : A.units + 65 < PySem.cLine := by have := r.un; omega
theorem Room.u1 {k : Nat} {A : PySem.Around} (r : Room k A) : A.units + 1 < PySem.cLine := by have := r.un; omega
theorem Room.u0 {k : Nat} {A : PySem.Around} (r : Room k A) : A.units < PySem.cLine := by have := r.un; omega
end L2
namespace DL
open PySem PySem.Spec PyProof.Rows L2
/-! ### dicts of one's own, their keys tuples of whole numbers -/
abbrev TKd (X : Cx) : HeapKind X.prog X.w (List Int) := tupleKind (intKind X.prog X.w)
/-- the keys' tuples are there -/
def KeysAt (K : Frag) (H : Hp) (xs : TX) : Prop := ∀ z ∈ xs, SqT K H z.2.1 (z.1.map V.int)
theorem KeysAt.mono {K : Frag} {H H' : Hp} {xs : TX} (h : KeysAt K H xs) (e : Same H H') : KeysAt K H' xs := fun z hz => Same.seqT e (h z hz)
theorem TkR.keysAt {K : Frag} {F : Hp} : ∀ {ks : TK} {xs : TX}, TkR K F ks xs → KeysAt K F xs
  | _, _, .nil => fun z hz => absurd hz (by simp)
  | _, _, .cons h t => fun z hz => by
    rcases List.mem_cons.mp hz with e | hz
    · subst e
      rw [← h.1]
      exact h.2.1
    · exact TkR.keysAt t z hz
theorem TkR.keys {K : Frag} {F : Hp} : ∀ {ks : TK} {xs : TX}, TkR K F ks xs → xs.map (·.1) = ks.map (·.1)
  | _, _, .nil => rfl
  | _, _, .cons h t => by rw [List.map_cons, List.map_cons, TkR.keys t, h.1]
/-- what stands at a key -/
def tkGet : TK → List Int → Option D
  | [], _ => none
  | p :: r, k => if p.1 = k then some p.2 else tkGet r k
def tkHas (ks : TK) (k : List Int) : Bool := decide (k ∈ ks.map (·.1))
def tkPut (ks : TK) (k : List Int) (d : D) : TK := if tkHas ks k then ks.map fun p => if p.1 = k then (p.1, d) else p else ks ++ [(k, d)]
theorem atKey_cons {x : List Int × Addr × Value} {r : TX} {k : List Int} : atKey (x :: r) k = if x.1 = k then some x.2 else atKey r k := by
  unfold atKey
  rw [List.find?_cons]
  by_cases e : x.1 = k
  · rw [decide_eq_true e, if_pos e, Option.map_some]
  · rw [decide_eq_false e, if_neg e]
theorem TkR.has {K : Frag} {F : Hp} (k : List Int) : ∀ {ks : TK} {xs : TX}, TkR K F ks xs → (atKey xs k).isSome = tkHas ks k
  | _, _, .nil => by simp [atKey, tkHas]
  | _, _, .cons (a := a) (b := b) h t => by
    have ih := TkR.has k t
    unfold tkHas at ih ⊢
    rw [atKey_cons]
    by_cases e : b.1 = k
    · rw [if_pos e, Option.isSome_some]
      refine (decide_eq_true ?_).symm
      rw [List.map_cons, h.1, e]
      exact List.mem_cons_self
    · rw [if_neg e, ih]
      refine decide_eq_decide.mpr ?_
      rw [List.map_cons, List.mem_cons, h.1]
      exact ⟨fun z => .inr z, fun z => z.elim (fun y => absurd y.symm e) id⟩
theorem TkR.get {K : Frag} {F : Hp} (k : List Int) : ∀ {ks : TK} {xs : TX} {d : D}, TkR K F ks xs → tkGet ks k = some d → ∃ p v, atKey xs k = some p ∧ Dp K F v d ∧ RelV v p.2
  | _, _, _, .nil, h => by cases h
  | _, _, _, .cons (a := a) (b := b) h t, g => by
    rw [atKey_cons]
    unfold tkGet at g
    by_cases e : b.1 = k
    · rw [if_pos (h.1.trans e)] at g
      rw [if_pos e]
      cases g
      obtain ⟨_, _, v, h3, h4⟩ := h
      exact ⟨_, v, rfl, h3, h4⟩
    · rw [if_neg (fun z => e (h.1.symm.trans z))] at g
      rw [if_neg e]
      exact TkR.get k t g
theorem TkR.putS {K : Frag} {F : Hp} {k : List Int} {v : V} {u : Value} {d : D} (rv : Dp K F v d) (ru : RelV v u) : ∀ {ks : TK} {xs : TX}, TkR K F ks xs → TkR K F (ks.map fun p => if p.1 = k then (p.1, d) else p) (xs.map (putAt k u))
  | _, _, .nil => .nil
  | _, _, .cons (a := a) (b := b) h t => by
    rw [List.map_cons, List.map_cons]
    refine .cons ?_ (TkR.putS rv ru t)
    unfold putAt
    by_cases e : b.1 = k
    · rw [if_pos (h.1.trans e), if_pos e]
      exact ⟨h.1, h.2.1, v, rv, ru⟩
    · rw [if_neg (fun z => e (h.1.symm.trans z)), if_neg e]
      exact h
theorem TkR.putN {K : Frag} {F : Hp} {k : List Int} {b : Addr} {v : V} {u : Value} {d : D} (hk : SqT K F b (k.map V.int)) (rv : Dp K F v d) (ru : RelV v u) : ∀ {ks : TK} {xs : TX}, TkR K F ks xs → TkR K F (ks ++ [(k, d)]) (xs ++ [(k, b, u)])
  | _, _, .nil => .cons ⟨rfl, hk, v, rv, ru⟩ .nil
  | _, _, .cons h t => .cons h (TkR.putN hk rv ru t)
theorem TkR.put {K : Frag} {F : Hp} {k : List Int} {b : Addr} {v : V} {u : Value} {d : D} {ks : TK} {xs : TX} (r : TkR K F ks xs) (hk : SqT K F b (k.map V.int)) (rv : Dp K F v d) (ru : RelV v u) : TkR K F (tkPut ks k d) (storedH xs k b u) := by
  unfold storedH tkPut
  rw [r.has k]
  by_cases e : tkHas ks k = true
  · rw [if_pos e, if_pos e]
    exact r.putS rv ru
  · rw [if_neg e, if_neg e]
    exact TkR.putN hk rv ru r

section
variable {X : Cx} {pins : List (Addr × Obj)} {σ : L2.St} {H : Hp} {s : Shared} {p b : Addr} {xs : TX} {k : List Int} {A : Around} {E : Value → Shared → Prop}
theorem tk_of (I : Inv X pins σ H s) (e : H p = some (tkO p xs)) (hk : KeysAt X.K H xs) : (p == sysModules) = false ∧ xs.length ≤ sizeLine ∧ s.heap.DictOfH (TKd X) p xs := by
  obtain ⟨z1, z2, o, es, ep, h1, h2, h3, h4, h5⟩ := (show TkAt p xs s.heap from (I.hok p _ e).1)
  exact ⟨z1, z2, o, es, ep, h1, h2, h3, h4, fun x hx => I.isT (hk x hx), h5⟩
theorem tk_ok {P : Program} {w : World} {H' : Hp} {h' : Heap} (z1 : (p == sysModules) = false) (z2 : xs.length ≤ sizeLine) (d : h'.DictOfH (tupleKind (intKind P w)) p xs) : ObjOk P w H' h' p (tkO p xs) := by
  obtain ⟨o, es, ep, h1, h2, h3, h4, _, h5⟩ := d
  refine ⟨⟨z1, z2, o, es, ep, h1, h2, h3, h4, h5⟩, ⟨o, h1⟩, fun g1 g2 ⟨_, _, o', es', ep', a1, a2, a3, a4, a5⟩ kp => ⟨z1, z2, o', es', ep', kp _ a1, a2, a3, a4, a5⟩⟩
theorem stored_len (xs : TX) (k : List Int) (b : Addr) (u : Value) : (storedH xs k b u).length ≤ xs.length + 1 := storedH_length xs k b u
/-- d[k] = v, kept by the heap -/
theorem tk_put {r : Value} {Q : Unit → Shared → Prop} (hu : A.units + 1 < cLine) (I : Inv X pins σ H s) (e : H p = some (tkO p xs)) (hk : KeysAt X.K H xs) (hb : SqT X.K H b (k.map V.int)) (hz : xs.length < sizeLine)
    (h : ∀ s', Inv X pins σ (upd H p (tkO p (storedH xs k b r))) s' → Q () s') : wpAny (model X.prog X.w) A (setItem (.ref p) (.ref b) r) Q E s := by
  obtain ⟨z1, z2, dd⟩ := tk_of I e hk
  refine wpAny_setItem_heap (knd := TKd X) (hsz := z2) (tupleKind_room_in1 hu) (I.isT hb) dd fun h' dd' hs => h _ ?_
  have he : ∃ q, h'.get? p = some q := let ⟨q, _, _, hq, _⟩ := dd'; ⟨q, hq⟩
  exact d_write I (by rw [e]; exact True.intro) hs he (tk_ok z1 (Nat.le_trans (stored_len ..) hz) dd')
theorem tk_set {r : Value} {Q : Unit → Shared → Prop} (hu : A.units < cLine) (I : Inv X pins σ H s) (e : H p = some (tkO p xs)) (hk : KeysAt X.K H xs) (hb : SqT X.K H b (k.map V.int)) (hz : xs.length < sizeLine)
    (h : ∀ s', Inv X pins σ (upd H p (tkO p (storedH xs k b r))) s' → Q () s') : wpAny (model X.prog X.w) A (dictSet p (.ref b) r) Q E s := by
  obtain ⟨z1, z2, dd⟩ := tk_of I e hk
  refine wpAny_dictSet_heap (knd := TKd X) (hsz := z2) hu (I.isT hb) dd fun h' dd' hs => h _ ?_
  have he : ∃ q, h'.get? p = some q := let ⟨q, _, _, hq, _⟩ := dd'; ⟨q, hq⟩
  exact d_write I (by rw [e]; exact True.intro) hs he (tk_ok z1 (Nat.le_trans (stored_len ..) hz) dd')
theorem tk_new (h : Heap) (hb : sysModules < h.objs.size) {P : Program} {w : World} {H' : Hp} : ObjOk P w H' (h.push { cls := .type "dict", data := .dict #[] }) h.objs.size (tkO h.objs.size []) :=
  tk_ok (beq_eq_false_iff_ne.mpr (Ne.symm (Nat.ne_of_lt hb))) (Nat.zero_le _) (Heap.DictOfH.new h)
theorem tk_noDict (I : Inv X pins σ H s) (e : H p = some (tkO p xs)) : s.TypeIs (.ref p) "dict" := by
  obtain ⟨z1, z2, o, es, ep, h1, h2, h3, h4, h5⟩ := (show TkAt p xs s.heap from (I.hok p _ e).1)
  exact ⟨o, h1, h2.1⟩
end
section
variable {X : Cx}
def rTkIn (K : Frag) (neg : Bool) : R2 := fun x y H Q => ∃ p b k xs, x = .ref b ∧ y = .ref p ∧ H p = some (tkO p xs) ∧ KeysAt K H xs ∧ SqT K H b (k.map V.int) ∧ Q (.bl ((atKey xs k).isSome != neg)) H
theorem op_tkIn (hu : X.A.units + 1 < cLine) : OpR X (compareOp .In) (rTkIn X.K false) := by
  rintro pins s σ H x y v u Q I rx ry ⟨p, b, k, xs, rfl, rfl, e, hk, hb, q⟩
  cases rx
  cases ry
  obtain ⟨z1, z2, dd⟩ := tk_of I e hk
  exact wpAny_in_heap (tupleKind_room_in1 hu) (I.isT hb) z1 dd ⟨.bl _, H, I.tok _, rfl, by simpa using q⟩
theorem op_tkNin (hu : X.A.units + 1 < cLine) : OpR X (compareOp .NotIn) (rTkIn X.K true) := by
  rintro pins s σ H x y v u Q I rx ry ⟨p, b, k, xs, rfl, rfl, e, hk, hb, q⟩
  cases rx
  cases ry
  obtain ⟨z1, z2, dd⟩ := tk_of I e hk
  exact wpAny_notIn_heap (tupleKind_room_in1 hu) (I.isT hb) z1 dd ⟨.bl _, H, I.tok _, rfl, by simpa using q⟩

/-! over data -/
variable {e : Expr} {de : RE} {pos pos' : Pos}
/-- k in d, k not in d; d in slot i -/
def tTkIn (neg : Bool) (i : Nat) (de : RE) : RT := fun ρ q => de ρ fun d => match ρ[i]? with
  | some (some (.tks ks)) => ∃ k : List Int, d = .tuple (k.map PyData.int) ∧ q (tkHas ks k != neg)
  | _ => False
theorem tks_at {K : Frag} {B F H : Hp} {ρ : Rho} {σ : L2.St} (E : EnvOk K B F H ρ σ) {i : Nat} {ks : TK} (q : ρ[i]? = some (some (.tks ks))) : ∃ p xs, σ[i]? = some (some (.ref p)) ∧ B p = none ∧ F p = none ∧ H p = some (tkO p xs) ∧ TkR K F ks xs := by
  obtain ⟨v, h1, p, xs, rfl, f0, f1, f2, f3⟩ := E.at' i _ q
  exact ⟨p, xs, h1, f0, f1, f2, f3⟩
theorem dp_key {K : Frag} {H : Hp} {v : V} {k : List Int} (h : Dp K H v (.tuple (k.map PyData.int))) : ∃ b, v = .ref b ∧ SqT K H b (k.map V.int) := by
  cases h with
  | tup hs ha =>
    rw [DpAll.ints_of k ha] at hs
    exact ⟨_, rfl, hs⟩
theorem sim_tkIn {neg : Bool} {i : Nat} {te tx : TE} (h : SimE X.K te de) (hx : tx = tVar i) : SimT X.K (tTest (tOp (rTkIn X.K neg) te tx)) (tTkIn neg i de) := fun B F H ρ σ E q hq Q kk =>
  h B F H ρ σ E _ hq _ fun v d F' H' g r z => by
    subst hx
    split at z
    · rename_i ks e
      obtain ⟨k, rfl, z⟩ := z
      obtain ⟨p, xs, h1, f0, f1, f2, f3⟩ := tks_at (E.grow g) e
      obtain ⟨b, rfl, hs⟩ := dp_key r
      refine ⟨_, h1, p, b, k, xs, rfl, rfl, f2, f3.keysAt.mono g.fh, g.fh.seqT hs, ?_⟩
      rw [f3.has k]
      exact ⟨_, rfl, kk _ F' H' g z⟩
    · exact z.elim
theorem dt_tkIn (i : Nat) {x : Str} {pos2 : Pos} (hu : X.A.units + 1 < cLine) (h : DE X e de) (hN : X.N[i]? = some x := by rfl) (hv : Vis X.env.scope x := by first | exact Or.inl rfl | exact Or.inr (Or.inl rfl) | exact Or.inr (Or.inr rfl)) (hd : (x == ("__debug__" : Str)) = false := by decide)
    (hcd : (x == ("__classdict__" : Str)) = false := by decide) (hm : behindInMarks .In (.Name x pos') = false := by first | exact nomark _ | rfl) : DT X (.Compare e [.In] [.Name x pos'] pos2) (tTkIn false i de) := by
  obtain ⟨t, a1, a2⟩ := h
  exact ⟨_, pt_cmpR (op_tkIn hu) a1 (pe_var hN hv hd hcd) hm, sim_tkIn a2 rfl⟩
theorem dt_tkNin (i : Nat) {x : Str} {pos2 : Pos} (hu : X.A.units + 1 < cLine) (h : DE X e de) (hN : X.N[i]? = some x := by rfl) (hv : Vis X.env.scope x := by first | exact Or.inl rfl | exact Or.inr (Or.inl rfl) | exact Or.inr (Or.inr rfl)) (hd : (x == ("__debug__" : Str)) = false := by decide)
    (hcd : (x == ("__classdict__" : Str)) = false := by decide) (hm : behindInMarks .NotIn (.Name x pos') = false := by first | exact nomark _ | rfl) : DT X (.Compare e [.NotIn] [.Name x pos'] pos2) (tTkIn true i de) := by
  obtain ⟨t, a1, a2⟩ := h
  exact ⟨_, pt_cmpR (op_tkNin hu) a1 (pe_var hN hv hd hcd) hm, sim_tkIn a2 rfl⟩
/-- the same as values -/
def dTkIn (neg : Bool) (i : Nat) (de : RE) : RE := fun ρ q => tTkIn neg i de ρ fun b => q (.bool b)
theorem sim_tkInV {neg : Bool} {i : Nat} {te tx : TE} (h : SimE X.K te de) (hx : tx = tVar i) : SimE X.K (tOp (rTkIn X.K neg) te tx) (dTkIn neg i de) := fun B F H ρ σ E q hq Q kk =>
  h B F H ρ σ E _ hq _ fun v d F' H' g r z => by
    subst hx
    split at z
    · rename_i ks e
      obtain ⟨k, rfl, z⟩ := z
      obtain ⟨p, xs, h1, f0, f1, f2, f3⟩ := tks_at (E.grow g) e
      obtain ⟨b, rfl, hs⟩ := dp_key r
      refine ⟨_, h1, p, b, k, xs, rfl, rfl, f2, f3.keysAt.mono g.fh, g.fh.seqT hs, ?_⟩
      rw [f3.has k]
      exact kk _ _ F' H' g (.bl _) z
    · exact z.elim
theorem de_tkIn (i : Nat) {x : Str} {pos2 : Pos} (hu : X.A.units + 1 < cLine) (h : DE X e de) (hN : X.N[i]? = some x := by rfl) (hv : Vis X.env.scope x := by first | exact Or.inl rfl | exact Or.inr (Or.inl rfl) | exact Or.inr (Or.inr rfl)) (hd : (x == ("__debug__" : Str)) = false := by decide)
    (hcd : (x == ("__classdict__" : Str)) = false := by decide) (hm : behindInMarks .In (.Name x pos') = false := by first | exact nomark _ | rfl) : DE X (.Compare e [.In] [.Name x pos'] pos2) (dTkIn false i de) := by
  obtain ⟨t, a1, a2⟩ := h
  exact ⟨_, pe_cmpR (op_tkIn hu) a1 (pe_var hN hv hd hcd) hm, sim_tkInV a2 rfl⟩
/-- d[k] -/
def dTkGet (i : Nat) (de : RE) : RE := fun ρ q => match ρ[i]? with
  | some (some (.tks ks)) => de ρ fun d => ∃ (k : List Int) (v : D), d = .tuple (k.map PyData.int) ∧ tkGet ks k = some v ∧ q v
  | _ => False
def tTkGet (K : Frag) (j : Nat) (ty : TE) : TE := fun σ H Q => ∃ ob, σ[j]? = some (some ob) ∧ ty σ H fun y H2 => ∃ p b k xs z v, ob = .ref p ∧ y = .ref b ∧ H2 p = some (tkO p xs) ∧ KeysAt K H2 xs ∧ SqT K H2 b (k.map V.int) ∧ atKey xs k = some z ∧ RelV v z.2 ∧ Q v H2
theorem pe_tkGet {o i : Expr} {j : Nat} {ty : TE} (hu : X.A.units + 1 < cLine) (ho : PE X o (tVar j)) (hi : PE X i ty) (hs : NoSl i) : PE X (.Subscript o i pos) (tTkGet X.K j ty) := by
  refine ⟨fun pins s σ H Q I ⟨ob, hj, h⟩ => ?_⟩
  refine subD_of PySem.F.slot_dict_getitem.lookup hs (thn (ho.run pins s σ H (fun x H2 => x = ob ∧ H2 = H) I ⟨ob, hj, rfl, rfl⟩) fun u s1 ⟨x, H1, I1, rx, ex, eH⟩ => ?_)
  subst ex eH
  refine thn (hi.run pins s1 σ _ _ I1 h) fun iv s2 ⟨y, H2, I2, ry, p, b, k, xs, z, v, ep, ey, e, ka, hb, hz, rv, q⟩ => ?_
  subst ep ey
  cases rx
  cases ry
  obtain ⟨z1, z2, dd⟩ := tk_of I2 e ka
  exact ⟨tk_noDict I2 e, wpAny_getItem_heap (tupleKind_room_in1 hu) (I2.isT hb) dd hz ⟨v, H2, I2.tok _, rv, q⟩⟩
theorem de_tkGet (i : Nat) {x : Str} {e2 : Expr} {dk : RE} (hu : X.A.units + 1 < cLine) (hk : DE X e2 dk) (hN : X.N[i]? = some x := by rfl) (hv : Vis X.env.scope x := by first | exact Or.inl rfl | exact Or.inr (Or.inl rfl) | exact Or.inr (Or.inr rfl)) (hd : (x == ("__debug__" : Str)) = false := by decide)
    (hcd : (x == ("__classdict__" : Str)) = false := by decide) (hs : NoSl e2 := by exact fun _ _ => rfl) : DE X (.Subscript (.Name x pos') e2 pos) (dTkGet i dk) := by
  obtain ⟨u, b1, b2⟩ := hk
  refine ⟨_, pe_tkGet hu (pe_var hN hv hd hcd) b1 hs, fun B F H ρ σ E q hq Q kk => ?_⟩
  unfold dTkGet at hq
  split at hq
  · rename_i ks e
    obtain ⟨p, xs, h1, f0, f1, f2, f3⟩ := tks_at E e
    refine ⟨_, h1, b2 B F H ρ σ E _ hq _ fun y d F' H' g r z => ?_⟩
    obtain ⟨k, v, rfl, hg, z⟩ := z
    obtain ⟨b, rfl, hs⟩ := dp_key r
    have f3' := f3.mono g.ff
    obtain ⟨pp, w, h2, h3, h4⟩ := f3'.get k hg
    exact ⟨p, b, k, xs, pp, w, rfl, rfl, g.hh p _ f2, f3'.keysAt.mono g.fh, g.fh.seqT hs, h2, h4, kk w v F' H' g h3 z⟩
  · exact hq.elim
/-- a new dict -/
def SimTk (K : Frag) (te : TE) (dl : Rho → (TK → Prop) → Prop) : Prop := ∀ (B F H : Hp) (ρ : Rho) (σ : L2.St), EnvOk K B F H ρ σ → ∀ q : TK → Prop, dl ρ q → ∀ Q : VK, (∀ p xs ks F' H', Gr F H F' H' → H p = none → F' p = none → H' p = some (tkO p xs) → TkR K F' ks xs → q ks → Q (.ref p) H') → te σ H Q
def DTk (X : Cx) (e : Expr) (dl : Rho → (TK → Prop) → Prop) : Prop := ∃ te, PE X e te ∧ SimTk X.K te dl
theorem tks_new {K : Frag} {B F H F' H' : Hp} {ρ : Rho} {σ : L2.St} (E : EnvOk K B F H ρ σ) (g : Gr F H F' H') (i : Nat) {p : Addr} {xs : TX} {ks : TK} (hp : H p = none) (hf : F' p = none) (hh : H' p = some (tkO p xs)) (ha : TkR K F' ks xs) :
    EnvOk K B F' H' (ρ.set i (some (.tks ks))) (σ.set i (some (.ref p))) := by
  refine (E.grow g).setTks i (E.bh.free hp) hf hh ha (fun j a hj e1 e2 => ?_) (fun _ _ => rfl) fun vs z => by rw [hh] at z; cases z
  obtain ⟨p', us, h1, f0, f1, f2, f3⟩ := tks_at E e1
  rw [h1] at e2
  cases e2
  rw [hp] at f2
  cases f2
theorem tks_chg {K : Frag} {B F H : Hp} {ρ : Rho} {σ : L2.St} (E : EnvOk K B F H ρ σ) {i : Nat} {ks ks' : TK} {p : Addr} {xs' : TX} (q : ρ[i]? = some (some (.tks ks))) (h1 : σ[i]? = some (some (.ref p))) (hb : B p = none) (hf : F p = none) (ha : TkR K F ks' xs') :
    EnvOk K B F (upd H p (tkO p xs')) (ρ.set i (some (.tks ks'))) σ := by
  have e : σ.set i (some (.ref p)) = σ := by
    apply List.ext_getElem?
    intro j
    by_cases hj : i = j
    · subst hj
      rw [List.getElem?_set_self (List.getElem?_eq_some_iff.mp h1).1, h1]
    · rw [List.getElem?_set_ne hj]
  have hTT : ∀ vs, H p ≠ some (.lst vs) := fun vs z => by
    obtain ⟨p', us, g1, _, _, g2, _⟩ := tks_at E q
    rw [h1] at g1
    cases g1
    rw [g2] at z
    cases z
  have r := E.setTks i (p := p) (H' := upd H p (tkO p xs')) (xs := xs') hb hf upd_same ha (fun j a hj e1 e2 => E.sepT i j p ks a (Ne.symm hj) q e1 h1 e2) (fun b hb => upd_ne hb) fun vs z => hTT vs z
  rw [e] at r
  exact r
/-- {} -/
def lTk0 : Rho → (TK → Prop) → Prop := fun _ q => q []
theorem pe_tk0 : PE X (.Dict [] [] pos) (fun _ H Q => ∀ p, H p = none → Q (.ref p) (upd H p (tkO p []))) := ⟨fun pins s σ H Q I h =>
  wpAny_Dict_empty ⟨.ref s.heap.objs.size, _, I.laid (a := s.heap.objs.size) (o := tkO s.heap.objs.size []) (t' := s.toks) (fun _ _ q => Heap.get?_push_of_some _ q) (Nat.le_refl _) (tk_new s.heap I.big), rfl, h _ (I.hok.fresh (Nat.le_refl _))⟩⟩
theorem dtk_0 : DTk X (.Dict [] [] pos) lTk0 := ⟨_, pe_tk0, fun B F H ρ σ E q hq Q k p hp => k p [] [] F _ (Gr.newO E.fh hp) hp (E.fh.free hp) upd_same .nil hq⟩
/-- {k: v} -/
def tTk1 (K : Frag) (tk tv : TE) : TE := fun σ H Q => ∀ p, H p = none → tk σ (upd H p (tkO p [])) fun x H1 => tv σ H1 fun y H2 => H2 p = some (tkO p []) ∧ ∃ b k, x = .ref b ∧ SqT K H2 b (k.map V.int) ∧ ∀ u, RelV y u → Q (.ref p) (upd H2 p (tkO p [(k, b, u)]))
theorem pe_tk1 {k v : Expr} {tk tv : TE} (hu : X.A.units < cLine) (hk : PE X k tk) (hv : PE X v tv) : PE X (.Dict [some k] [v] pos) (tTk1 X.K tk tv) := by
  refine ⟨fun pins s σ H Q I h => ?_⟩
  have hn := I.hok.fresh (Nat.le_refl s.heap.objs.size)
  have I1 := I.laid (a := s.heap.objs.size) (o := tkO s.heap.objs.size []) (h' := s.heap.push { cls := .type "dict", data := .dict #[] }) (t' := s.toks) (fun _ _ q => Heap.get?_push_of_some _ q) (Nat.le_refl _) (tk_new s.heap I.big)
  rw [arm_eval_Dict, show (evalEachOpt [some k] X.env).zip ((evalEach [v] X.env).map fun v : Sem Value => (do let x ← v; standAt pos; pure x : Sem Value)) = [(eval k X.env, (do let x ← eval v X.env; standAt pos; pure x : Sem Value))].map (fun p => (some p.1, p.2)) from rfl, dictDisplay_pairs _ (by simp) (by simp)]
  refine wpAny_bind (wpAny_standAt (wpAny_bind (wpAny_subDictH (knd := TKd X) hu (by simp) ?_)))
  refine thn ((pps_cons (pos := pos) hk hv pps_nil).run pins _ σ _ (fun ps H2 => match ps with
    | [(x, y)] => H2 s.heap.objs.size = some (tkO s.heap.objs.size []) ∧ ∃ b k, x = .ref b ∧ SqT X.K H2 b (k.map V.int) ∧ ∀ u, RelV y u → Q (.ref s.heap.objs.size) (upd H2 s.heap.objs.size (tkO s.heap.objs.size [(k, b, u)]))
    | _ => False) I1 (h _ hn)) fun ws s2 h2 => ?_
  · obtain ⟨ps, H2, I2, rel, h2⟩ := h2
    split at h2
    rotate_left
    · exact h2.elim
    rename_i x y
    obtain ⟨e, b, kk, rfl, hb, q⟩ := h2
    cases rel with
    | cons r1 r2 =>
      cases r2
      rename_i w2
      obtain ⟨ra, rb⟩ := r1
      obtain ⟨w1, u⟩ := w2
      cases ra
      obtain ⟨z1, z2, dd⟩ := tk_of I2 e (fun z hz => absurd hz (by simp))
      refine ⟨[(kk, b, u)], ⟨rfl, rfl, I2.isT hb, trivial⟩, dd, fun h' tk dd' hs => wpAny_pure ⟨.ref s.heap.objs.size, _, ?_, rfl, q u rb⟩⟩
      have he : ∃ q, h'.get? s.heap.objs.size = some q := let ⟨q, _, _, hq, _⟩ := dd'; ⟨q, hq⟩
      exact d_write I2 (by rw [e]; exact True.intro) hs he (tk_ok z1 (by rw [sizeLine_eq]; simp) dd')
theorem gr_wrO {F H F2 H2 : Hp} {p : Addr} {o o2 : HO} (g : Gr F (upd H p o) F2 H2) (hp : H p = none) (hf : F2 p = none) : Gr F H F2 (upd H2 p o2) :=
  ⟨g.ff, fun b u e => by rw [upd_ne (ne_of_none e hp)]; exact g.hh b u (by rw [upd_ne (ne_of_none e hp)]; exact e), fun b u e => by rw [upd_ne (ne_of_none e hf)]; exact g.fh b u e, fun b hb m => g.own b hb (by
    have : b ≠ p := fun z => by
      rw [z, hp] at m
      exact m
    rw [upd_ne this]
    exact m)⟩
def lTk1 (dk dv : RE) : Rho → (TK → Prop) → Prop := fun ρ q => dk ρ fun x => dv ρ fun y => ∃ k : List Int, x = .tuple (k.map PyData.int) ∧ q [(k, y)]
theorem dtk_1 {k v : Expr} {dk dv : RE} (hu : X.A.units < cLine) (hk : DE X k dk) (hv : DE X v dv) : DTk X (.Dict [some k] [v] pos) (lTk1 dk dv) := by
  obtain ⟨ta, a1, a2⟩ := hk
  obtain ⟨tb, b1, b2⟩ := hv
  refine ⟨_, pe_tk1 hu a1 b1, fun B F H ρ σ E q hq Q kk p hp => ?_⟩
  have g0 := Gr.newO (o := tkO p []) E.fh hp
  refine a2 B F _ ρ σ (E.grow g0) _ hq _ fun x d F1 H1 g1 r1 z1 => b2 B F1 H1 ρ σ ((E.grow g0).grow g1) _ z1 _ fun y d2 F2 H2 g2 r2 z2 => ?_
  obtain ⟨k, rfl, z2⟩ := z2
  have g := g1.trans g2
  have hH : H2 p = some (tkO p []) := g.hh p _ upd_same
  have fF : F2 p = none := g.own p (E.fh.free hp) (by rw [upd_same]; trivial)
  obtain ⟨b, rfl, hs⟩ := dp_key (r1.mono g2.ff)
  exact ⟨hH, b, k, rfl, g2.fh.seqT hs, fun u ru => kk p [(k, b, u)] [(k, d2)] F2 _ (gr_wrO g hp fF) hp fF upd_same (.cons ⟨rfl, hs, _, r2, ru⟩ .nil) z2⟩
/-- x = a new dict -/
def sSetTk (i : Nat) (dl : Rho → (TK → Prop) → Prop) : RS := fun DD ρ => dl ρ fun ks => DD.nx (ρ.set i (some (.tks ks)))
theorem st_setTk {i : Nat} {x : Str} {pos' : Pos} {dl : Rho → (TK → Prop) → Prop} (hN : X.N.Nodup) (he : DTk X e dl) (hi : X.N[i]? = some x := by rfl) (hx : Loc X.env.scope x := by first | exact Or.inl rfl | exact Or.inr rfl) (hs : swapsWith e (some (.Name x pos')) pos.line X.env = pure false := by rfl)
    (hf : X.fn x = true ∨ X.env.scope.names.lookup x = some .local := by first | exact .inl rfl | exact .inr rfl | assumption) : DS X (.Assign [.Name x pos'] e pos) (sSetTk i dl) := by
  obtain ⟨t, a1, a2⟩ := he
  exact ⟨_, ps_set hN hi hx a1 hs hf, fun F0 B F H ρ σ s E DD h D k => a2 B F H ρ σ E _ h _ fun p xs ks F' H' g hp hf hh ha z => k.nx F' H' _ _ (s.to g) (tks_new E g i hp hf hh ha) z⟩
/-- d[k] = v -/
def sTkPut (i : Nat) (dk dv : RE) : RS := fun DD ρ => match ρ[i]? with
  | some (some (.tks ks)) => dv ρ fun y => dk ρ fun x => ∃ k : List Int, x = .tuple (k.map PyData.int) ∧ Fit (ks.length + 1) ∧ DD.nx (ρ.set i (some (.tks (tkPut ks k y))))
  | _ => False
def tTkPut (K : Frag) (i : Nat) (tk tv : TE) : TS := fun D σ H => tv σ H fun v H1 => ∃ o, σ[i]? = some (some o) ∧ tk σ H1 fun y H2 => ∃ p b k xs, o = .ref p ∧ y = .ref b ∧ H2 p = some (tkO p xs) ∧ KeysAt K H2 xs ∧ SqT K H2 b (k.map V.int) ∧ xs.length < sizeLine ∧ ∀ u, RelV v u → D.nx σ (upd H2 p (tkO p (storedH xs k b u)))
theorem ps_tkPut {o i value : Expr} {j : Nat} {ty tv : TE} (hu : X.A.units + 1 < cLine) (ho : PE X o (tVar j)) (hi : PE X i ty) (hv : PE X value tv) (hs : swapsWith value (some (.Subscript o i pos')) pos.line X.env = pure false) :
    PS X (.Assign [.Subscript o i pos'] value pos) (tTkPut X.K j ty tv) := by
  refine ⟨fun pins s σ H D I h => ?_⟩
  refine wpAny_Assign_Subscript (thn (hv.run pins s σ H _ I h) fun r s1 ⟨v, H1, I1, rv, ob, hj, q1⟩ => thn (ho.run pins s1 σ H1 (fun x H2 => x = ob ∧ H2 = H1) I1 ⟨ob, hj, rfl, rfl⟩) fun u s2 ⟨x, H2, I2, rx, ex, eH⟩ => ?_) hs
  subst ex eH
  refine thn (hi.run pins s2 σ _ _ I2 q1) fun iv s3 ⟨y, H3, I3, ry, p, b, k, xs, ep, ey, e, ka, hb, hz, q3⟩ => ?_
  subst ep ey
  cases rx
  cases ry
  exact tk_put hu I3 e ka hb hz fun s4 I4 => ⟨σ, _, I4, q3 _ rv⟩
theorem st_tkPut {i : Nat} {x : Str} {e2 : Expr} {dk dv : RE} {pos1 pos2 : Pos} (hu : X.A.units + 1 < cLine) (hv' : DE X e dv) (hk : DE X e2 dk) (hN : X.N[i]? = some x := by rfl) (hv : Vis X.env.scope x := by first | exact Or.inl rfl | exact Or.inr (Or.inl rfl) | exact Or.inr (Or.inr rfl)) (hd : (x == ("__debug__" : Str)) = false := by decide)
    (hcd : (x == ("__classdict__" : Str)) = false := by decide) (hs : swapsWith e (some (.Subscript (.Name x pos1) e2 pos2)) pos.line X.env = pure false := by rfl) :
    DS X (.Assign [.Subscript (.Name x pos1) e2 pos2] e pos) (sTkPut i dk dv) := by
  obtain ⟨t, a1, a2⟩ := hv'
  obtain ⟨u, b1, b2⟩ := hk
  refine ⟨_, ps_tkPut hu (pe_var hN hv hd hcd) b1 a1 hs, fun F0 B F H ρ σ s E DD h D k => ?_⟩
  unfold sTkPut at h
  split at h
  · rename_i ks q
    obtain ⟨p, xs, h1, f0, f1, f2, f3⟩ := tks_at E q
    refine a2 B F H ρ σ E _ h _ fun v d F1 H1 g1 r1 z => ⟨_, h1, b2 B F1 H1 ρ σ (E.grow g1) _ z _ fun y d2 F2 H2 g2 r2 z2 => ?_⟩
    obtain ⟨k', rfl, hz, z2⟩ := z2
    have g := g1.trans g2
    obtain ⟨b, rfl, hs⟩ := dp_key r2
    have f1' := g.own p f1 (by rw [f2]; trivial)
    have f3' := f3.mono g.ff
    refine ⟨p, b, k', xs, rfl, rfl, g.hh p _ f2, f3'.keysAt.mono g.fh, g2.fh.seqT hs, by rw [← Paired.length f3]; exact hz.le, fun u' ru => ?_⟩
    exact k.nx F2 _ _ _ ((s.to g).wr f0 f1') (tks_chg (E.grow g) q h1 f0 f1' (f3'.put hs (r1.mono g2.ff) ru)) z2
  · exact h.elim
/-! {k: v for ..} -/
def tTkC (K : Frag) (wi : TI) (g : TG) (tt : TT) (tk tv : TE) (vs : List Nat) : TE := fun σ H Q => wi σ H fun J H1 => ∀ D, H1 D = none → ∃ W : Nat → Nat → Hp → Prop, (∃ m, W 0 m (upd H1 D (tkO D []))) ∧ ∀ i m H, W i m H →
  (J.stop i H ∧ Q (.ref D) H) ∨ (J.go i H ∧ ∃ Nx : Hp → Prop, (∀ H', Nx H' → ∃ m', m' < m ∧ W (i + 1) m' H') ∧ ∀ x H', J.yld i H x H' → g x (wipe σ vs) H' fun σ2 H2 => wipe σ2 vs = wipe σ vs ∧ tt σ2 H2 fun b H3 =>
    if b = true then tk σ2 H3 fun y H4 => tv σ2 H4 fun z H5 => ∃ kb k xs, y = .ref kb ∧ H5 D = some (tkO D xs) ∧ KeysAt K H5 xs ∧ SqT K H5 kb (k.map V.int) ∧ xs.length < sizeLine ∧ ∀ u, RelV z u → Nx (upd H5 D (tkO D (storedH xs k kb u))) else Nx H3)
theorem tkc_core {pins : List (Addr × Obj)} {s : Shared} {σ : L2.St} {H : Hp} {Q : VK} {kx vx tg iter : Expr} {ifs : List Expr} {scope : Scope} {own : List (Str × Nat)} {pos pos' : Pos} {wj : TI} {g : TG} {tt : TT} {tk tv : TE} {use : Option (Value → Sem Unit)} {Qf : Value → Shared → Prop}
    (hu : X.A.units < cLine) (hc : X.calm = true) (hN : X.N.Nodup) (I : Inv X pins σ H s) (hi : PI X tg iter wj) (okb : BlkOk X.N X.env.scope scope own)
    (hg : ∀ (s : Shared) (H : Hp) (C : Addr) (cl : List (Str × Addr)) (fp : List Addr), PG (X.blk s H scope (compEnvC scope cl C X.env) fp) tg g) (ht : ∀ (s : Shared) (H : Hp) (C : Addr) (cl : List (Str × Addr)) (fp : List Addr), PTs (X.blk s H scope (compEnvC scope cl C X.env) fp) ifs tt)
    (hk : ∀ (s : Shared) (H : Hp) (C : Addr) (cl : List (Str × Addr)) (fp : List Addr), PE (X.blk s H scope (compEnvC scope cl C X.env) fp) kx tk)
    (he : ∀ (s : Shared) (H : Hp) (C : Addr) (cl : List (Str × Addr)) (fp : List Addr), PE (X.blk s H scope (compEnvC scope cl C X.env) fp) vx tv) (hs : ∀ x, foldedSetIterable iter X.env x = pure x)
    (h : tTkC X.K wj g tt tk tv (own.map (·.2)) σ H Q)
    (hRR : ∀ D C s' m H', Inv X pins σ H' s' → Q (.ref D) H' → s'.heap.Ns C m → FpOk X pins H' C → compPost (model X.prog X.w) X.A X.xe use Qf (.ref D) C (.ok .next) s') :
    wpAny (model X.prog X.w) X.A (comprehension (.DictComp kx vx [⟨tg, iter, ifs, 0⟩] scope pos) scope X.env pos' newDict false (eval iter X.env) use) Qf X.xe s := by
  have hfree : ∀ y ∈ scope.names, y.2 = .free → ∃ c, X.env.cells.lookup y.1 = some c := fun y hy e => by
    rcases okb.free y hy e with k | k
    · exact I.ok.has _ (.inl k)
    · exact I.ok.has _ (.inr k)
  refine wpAny_comprehension_free (use := use) rfl hs (closure_ok hfree) okb.kind (fun y hy e => by rw [okb.uniq y hy, e])
    (thn (hi.run pins s σ H _ I h) fun xv t1 hx => thn hx fun itv t2 h2 => ?_)
  obtain ⟨it, fp, tn, J, G2, e, Y2, T, st2, f2, q⟩ := h2
  subst e
  refine wpAny_newObj_type (newEnv_comp ?_)
  generalize hDd : t2.heap.objs.size = D
  have hDn : G2 D = none := Y2.hok.fresh (Nat.le_of_eq hDd)
  obtain ⟨W, ⟨m0, w0⟩, turn⟩ := q D hDn
  -- the new list
  generalize hs3 : ({ t2 with heap := t2.heap.push { cls := .type "dict", data := .dict #[] } } : Shared) = t3
  have Y3 : Inv X pins σ (upd G2 D (tkO D [])) t3 := by
    rw [← hs3]
    refine Y2.laid (t' := t2.toks) (fun b o e => Heap.get?_push_of_some _ e) (Nat.le_of_eq hDd) ?_
    rw [← hDd]
    exact tk_new t2.heap Y2.big
  have h3 : t3.heap = t2.heap.push { cls := .type "dict", data := .dict #[] } := by rw [← hs3]
  have sz : ∀ b ∈ fp, b < t2.heap.objs.size := fun b hb => by
    obtain ⟨o, e, _⟩ := T.obj _ _ st2 b hb
    exact Heap.lt_size e
  have f3 : ∀ b ∈ fp, FpOk X pins (upd G2 D (tkO D [])) b ∧ b < t3.heap.objs.size := fun b hb => by
    have hls := sz b hb
    refine ⟨⟨?_, (f2 b hb).2⟩, by rw [h3, Heap.size_push]; exact Nat.lt_succ_of_lt hls⟩
    rw [upd_ne (by rw [← hDd]; exact Nat.ne_of_lt hls)]
    exact (f2 b hb).1
  have st3 : tn 0 t3.heap := T.keep _ _ _ st2 fun b _ o e => by rw [h3]; exact Heap.get?_push_of_some _ e
  have Y4 := block_start Y3 okb hN f3
  have pg := hg t3 (upd G2 D (tkO D [])) t3.heap.objs.size (cellsFrom (t3.heap.objs.size + 1) scope.names (cloFrom X.env.cells scope.names [])) fp
  have pt := ht t3 (upd G2 D (tkO D [])) t3.heap.objs.size (cellsFrom (t3.heap.objs.size + 1) scope.names (cloFrom X.env.cells scope.names [])) fp
  have pk := hk t3 (upd G2 D (tkO D [])) t3.heap.objs.size (cellsFrom (t3.heap.objs.size + 1) scope.names (cloFrom X.env.cells scope.names [])) fp
  have pe := he t3 (upd G2 D (tkO D [])) t3.heap.objs.size (cellsFrom (t3.heap.objs.size + 1) scope.names (cloFrom X.env.cells scope.names [])) fp
  show codeAny _ _ (.compStart (.DictComp kx vx [⟨tg, iter, ifs, 0⟩] scope pos) 0 (.ref it) (.ref D) (compEnvC scope (cellsFrom (t3.heap.objs.size + 1) scope.names (cloFrom X.env.cells scope.names [])) t3.heap.objs.size X.env)) (compPost (model X.prog X.w) X.A X.xe use Qf (.ref D) t3.heap.objs.size) { t3 with heap := pushCells (t3.heap.push { cls := .type "dict", data := .dict #[] }) scope.names }
  have nfp : ∀ b ∈ fp, (upd G2 D (tkO D [])) b = none := fun b hb => (f3 b hb).1.1
  generalize hce : compEnvC scope (cellsFrom (t3.heap.objs.size + 1) scope.names (cloFrom X.env.cells scope.names [])) t3.heap.objs.size X.env = cx at Y4 pg pt pk pe ⊢
  have cL : cx.locals = t3.heap.objs.size := by subst hce; rfl
  generalize hH3 : upd G2 D (tkO D []) = G3 at Y3 Y4 pg pt pk pe w0 nfp f3
  generalize hs4 : ({ t3 with heap := pushCells (t3.heap.push { cls := .type "dict", data := .dict #[] }) scope.names } : Shared) = t4 at Y4 ⊢
  have st4 : tn 0 t4.heap := T.keep _ _ _ st3 fun b _ o e => by rw [← hs4]; exact pushCells_keeps _ _ _ _ (Heap.get?_push_of_some _ e)
  have sta : ∀ {σ' : L2.St} {H' : Hp} {s' : Shared}, Inv (X.blk t3 G3 scope cx fp) [] σ' H' s' → (∀ b ∈ fp, H' b = none) → ∀ b ∈ fp, FpOk (X.blk t3 G3 scope cx fp) [] H' b := fun {σ' H' s'} Y' hn b hb =>
    ⟨hn b hb, (Y'.ok.exf b hb).1, Y'.ok.exfs b hb, .inl hb, fun x c e => (Y'.ok.exf b hb).2 x c e, fun p hp => absurd (show p ∈ ([] : List (Addr × Obj)) ++ [] from hp) (by simp)⟩
  have lop : codeAny (model X.prog X.w) X.A (.compLoop (.DictComp kx vx [⟨tg, iter, ifs, 0⟩] scope pos) 0 (.ref it) (.ref D) cx) (compPost (model X.prog X.w) X.A X.xe use Qf (.ref D) t3.heap.objs.size) t4 := by
    refine compLoop_anyD (fun n s' => ∃ i H', Inv (X.blk t3 G3 scope cx fp) [] (wipe σ (own.map (·.2))) H' s' ∧ tn i s'.heap ∧ (∀ b ∈ fp, H' b = none) ∧ W i n H') ?_ m0 ⟨0, G3, Y4, st4, nfp, w0⟩
    rintro n t5 ⟨i, G5, Y5, st5, n5, w5⟩
    rcases turn i n G5 w5 with ⟨stp0, qz⟩ | ⟨go, Nq, hnx, stp⟩
    · have td := T.done (X.blk t3 G3 scope cx fp) rfl rfl rfl hc i [] t5 _ G5 (fun _ _ => False) Y5 (sta Y5 n5) st5 stp0
      refine thnF td fun r t6 ⟨hr, Y6⟩ => ?_
      subst hr
      -- back in the def's context
      have Y7 : Inv X pins σ G5 t6 := Y3.call' (ch := fp) Y6.os Y6.base Y6.hok Y6.bare fun b hb => ⟨(f3 b hb).1.2.2.2.1, (f3 b hb).1.2.1, (f3 b hb).1.2.2.2.2.1, (f3 b hb).1.2.2.2.2.2⟩
      have nC : G5 t3.heap.objs.size = none := by
        have z : G5 cx.locals = none := Y6.free
        rw [cL] at z
        exact z
      obtain ⟨m, hn, _⟩ := Y6.loc
      have hn : t6.heap.Ns cx.locals m := hn
      rw [cL] at hn
      exact hRR D t3.heap.objs.size t6 m G5 Y7 qz hn (Y3.fpOk (Nat.le_refl _) nC)
    · have ti := T.item (X.blk t3 G3 scope cx fp) rfl rfl rfl hc i [] t5 _ G5 (fun _ _ => False) Y5 (sta Y5 n5) st5 go
      refine thnF ti fun r t6 ⟨u, hr, h6⟩ => ?_
      subst hr
      refine thnF h6 fun _ t7 ⟨x, G7, Y7, r7, y7, st7, n7⟩ => ?_
      have Y7' := Y7.pinned (sta Y7 n7) (T.obj _ _ st7)
      refine thnF (pg.run _ t7 _ G7 x u _ Y7' r7 (stp x G7 y7)) fun _ t8 ⟨τ8, G8, Y8, hw8, q8⟩ => ?_
      refine thnF (pt.run _ t8 τ8 G8 _ Y8 q8) fun b t9 ⟨G9, Y9, q9⟩ => ?_
      -- the turn's end
      have endT : ∀ {s' : Shared} {H' : Hp}, Inv (X.blk t3 G3 scope cx fp) ([] ++ pinsAt fp t7.heap) τ8 H' s' → Nq H' → ∃ m, m < n ∧ ∃ i H', Inv (X.blk t3 G3 scope cx fp) [] (wipe σ (own.map (·.2))) H' s' ∧ tn i s'.heap ∧ (∀ b ∈ fp, H' b = none) ∧ W i m H' := fun {s' H'} Y' nx => by
        obtain ⟨m', hm, w'⟩ := hnx H' nx
        have pn' : ∀ b ∈ fp, ∀ o, t7.heap.get? b = some o → s'.heap.get? b = some o ∧ H' b = none := fun b hb o e =>
          let z := Y'.pin (b, o) (List.mem_append_right _ (List.mem_append_right _ (mem_pinsAt hb e)))
          ⟨z.1, z.2.1⟩
        have hl : (wipe σ (own.map (·.2))).length = τ8.length := by rw [← hw8, wipe_length]
        refine ⟨m', hm, i + 1, H', (Y'.unpinned (pins := [])).weak hl (fun j v e => ?_), T.keep _ _ _ st7 fun b hb o e => (pn' b hb o e).1, fun b hb => ?_, w'⟩
        · rw [← hw8] at e
          exact (wipe_some e).1
        · obtain ⟨o, e, _⟩ := T.obj _ _ st7 b hb
          exact (pn' b hb o e).2
      cases b with
      | false =>
        simp only [Bool.false_eq_true, if_false] at q9 ⊢
        exact endT Y9 q9
      | true =>
        simp only [if_true] at q9 ⊢
        refine thnF (pk.run _ t9 τ8 G9 _ Y9 q9) fun z t10 ⟨yk, G10, Y10, r10, q10⟩ => ?_
        refine thnF (pe.run _ t10 τ8 G10 _ Y10 q10) fun z2 t11 ⟨yv, G11, Y11, r11, kb, k, xs, ek, hD11, ka, hb, hz11, nx⟩ => ?_
        subst ek
        cases r10
        exact tk_set (X := X.blk t3 G3 scope cx fp) hu Y11 hD11 ka hb hz11 fun t12 Y12 => endT Y12 (nx _ r11)
  exact codeAny_compStart_dict lop (T.self X.A 0 _ _ _ st4 lop)
/-- as a value -/
theorem pe_tkc {kx vx tg iter : Expr} {ifs : List Expr} {scope : Scope} {own : List (Str × Nat)} {pos : Pos} {wj : TI} {g : TG} {tt : TT} {tk tv : TE} (hu : X.A.units < cLine) (hc : X.calm = true) (hN : X.N.Nodup) (hi : PI X tg iter wj) (okb : BlkOk X.N X.env.scope scope own)
    (hg : ∀ (s : Shared) (H : Hp) (C : Addr) (cl : List (Str × Addr)) (fp : List Addr), PG (X.blk s H scope (compEnvC scope cl C X.env) fp) tg g) (ht : ∀ (s : Shared) (H : Hp) (C : Addr) (cl : List (Str × Addr)) (fp : List Addr), PTs (X.blk s H scope (compEnvC scope cl C X.env) fp) ifs tt)
    (hk : ∀ (s : Shared) (H : Hp) (C : Addr) (cl : List (Str × Addr)) (fp : List Addr), PE (X.blk s H scope (compEnvC scope cl C X.env) fp) kx tk)
    (he : ∀ (s : Shared) (H : Hp) (C : Addr) (cl : List (Str × Addr)) (fp : List Addr), PE (X.blk s H scope (compEnvC scope cl C X.env) fp) vx tv) (hs : ∀ x, foldedSetIterable iter X.env x = pure x := by intro _; rfl) :
    PE X (.DictComp kx vx [⟨tg, iter, ifs, 0⟩] scope pos) (tTkC X.K wj g tt tk tv (own.map (·.2))) := by
  refine ⟨fun pins s σ H Q I h => ?_⟩
  rw [arm_eval_DictComp]
  refine tkc_core (hu := hu) hc hN I hi okb hg ht hk he hs h fun D C s' m H' Y' q hn f => ⟨m, hn, fun h'' sb => ?_⟩
  obtain ⟨f0, f1, f2, f3, f4, f5⟩ := f
  exact ⟨.ref D, H', Y'.turned (t' := s'.toks) (fun b o hb e => (sb.2 b hb).trans e) f0 f1 f3 f4 f5, rfl, q⟩
theorem sw_trueD {kx vx : Expr} {gs : List Comprehension} {scope : Scope} {pos py : Pos} {y : Str} {l : Nat} {env : Env} (hk : env.scope.kind = .function) (hy : env.scope.names.lookup y = some .local) (hl : (py.line == pos.line) = true)
    (ha : (scope.names.any fun (n, k) => n == y && (k == .local || k == .cell)) = false) : swapsWith (.DictComp kx vx gs scope pos) (some (.Name y py)) l env = pure true := by
  have c1 : env.kindOf y = some .local := hy
  have c2 : env.blockKind = .function := by unfold Env.blockKind; rw [hk]; rfl
  unfold swapsWith
  simp only [c2, c1, ha, Expr.pos, hl]; rfl
theorem ps_setTkc {i : Nat} {y : Str} {py : Pos} {kx vx tg iter : Expr} {ifs : List Expr} {scope : Scope} {own : List (Str × Nat)} {pos spos : Pos} {wi : TI} {g : TG} {tt : TT} {tk tv : TE} (hu : X.A.units < cLine) (hc : X.calm = true) (hN : X.N.Nodup) (hy : X.N[i]? = some y) (hyl : X.env.scope.names.lookup y = some .local)
    (hsw : swapsWith (.DictComp kx vx [⟨tg, iter, ifs, 0⟩] scope pos) (some (.Name y py)) spos.line X.env = pure true) (hi : PI X tg iter wi) (okb : BlkOk X.N X.env.scope scope own)
    (hg : ∀ (s : Shared) (H : Hp) (C : Addr) (cl : List (Str × Addr)) (fp : List Addr), PG (BX X scope s H C cl fp) tg g) (ht : ∀ (s : Shared) (H : Hp) (C : Addr) (cl : List (Str × Addr)) (fp : List Addr), PTs (BX X scope s H C cl fp) ifs tt)
    (hk : ∀ (s : Shared) (H : Hp) (C : Addr) (cl : List (Str × Addr)) (fp : List Addr), PE (BX X scope s H C cl fp) kx tk) (hv : ∀ (s : Shared) (H : Hp) (C : Addr) (cl : List (Str × Addr)) (fp : List Addr), PE (BX X scope s H C cl fp) vx tv) (hs : ∀ x, foldedSetIterable iter X.env x = pure x := by intro _; rfl) :
    PS X (.Assign [.Name y py] (.DictComp kx vx [⟨tg, iter, ifs, 0⟩] scope pos) spos) (tAsg (tTkC X.K wi g tt tk tv (own.map (·.2))) (gName i)) := by
  refine ⟨fun pins s σ H D I h => ?_⟩
  rw [exec_Assign_Name_used _ _ _ _ hsw]
  refine wpAny_bind (wpAny_standAt (wpAny_bind ?_))
  show wpAny _ X.A (do let _ ← comprehension (.DictComp kx vx [⟨tg, iter, ifs, 0⟩] scope pos) scope X.env (firstIterPos [⟨tg, iter, ifs, 0⟩] pos) newDict false (eval iter X.env) (some (assign (.Name y py) X.env))) _ _ s
  have hh : tTkC X.K wi g tt tk tv (own.map (·.2)) σ H (fun x H1 => gName i x σ H1 D.nx) := h
  refine wpAny_bind (thn (tkc_core (Qf := fun _ t' => SP X pins D .next t') hu hc hN I hi okb hg ht hk hv hs hh fun L C t' m G' Y' q hn f => ?_) fun _ t' hq => wpAny_pure (wpAny_pure hq))
  show wpAny _ _ (assign (.Name y py) X.env (.ref L)) _ _ _
  refine wpAny_assign_Name (store_ok2 (v := V.ref L) Y' hN hy (.inl hyl) rfl (fun t2 Y2 ⟨a, sb, ha⟩ => ?_) (.inr hyl))
  obtain ⟨e0, e1, e2, e3, e4, e5⟩ := f
  have caz : C ≠ a := by
    rcases ha with z | z
    · rw [z]; exact e1
    · exact fun e => e4 y a z e.symm
  exact ⟨m, hn.sameBut sb caz, fun h3 sb3 => ⟨_, G', Y2.turned (t' := t2.toks) (fun b o hb e => (sb3.2 b hb).trans e) e0 e1 e3 e4 e5, q⟩⟩
def tkcD (g : RG) (tt : RT) (dk dv : RE) (vs : List Nat) : List D → Rho → TK → (TK → Prop) → Prop
  | [], _, acc, q => q acc
  | d :: r, ρ, acc, q => g d (wipeD ρ vs) fun ρ1 => tt ρ1 fun b => (b = true → dk ρ1 fun x => dv ρ1 fun y => ∃ k : List Int, x = .tuple (k.map PyData.int) ∧ tkcD g tt dk dv vs r ρ (tkPut acc k y) q) ∧ (b = false → tkcD g tt dk dv vs r ρ acc q)
def lTkc (di : RL) (g : RG) (tt : RT) (dk dv : RE) (vs : List Nat) : Rho → (TK → Prop) → Prop := fun ρ q => di ρ fun items => Fit items.length ∧ tkcD g tt dk dv vs items ρ [] q
theorem wipe_idem {σ : L2.St} {vs : List Nat} : wipe (wipe σ vs) vs = wipe σ vs := by
  have : ∀ ws : List Nat, (∀ v ∈ ws, v ∈ vs) → wipe (wipe σ ws) vs = wipe σ vs := by
    intro ws
    induction ws with
    | nil => intro _; rfl
    | cons w ws ih =>
      intro h
      show wipe ((wipe σ ws).set w none) vs = _
      rw [wipe_set (h w List.mem_cons_self)]
      exact ih fun v hv => h v (List.mem_cons_of_mem _ hv)
  exact this vs fun _ h => h
theorem sim_tkc {K : Frag} {wi : TI} {di : RL} {g : TG} {dg : RG} {tt : TT} {dt : RT} {tk tv : TE} {dk dv : RE} {vs : List Nat} (hi : SimIc K wi di) (hg : SimGw K vs g dg) (ht : SimT K tt dt) (hk : SimE K tk dk) (hv : SimE K tv dv) :
    SimTk K (tTkC K wi g tt tk tv vs) (lTkc di dg dt dk dv vs) := fun B F H ρ σ E q hq Q kk => hi B F H ρ σ E _ hq _ fun J items F1 H1 g1 it z D hD => by
  obtain ⟨⟨hsz⟩, z⟩ := z
  have E1 := E.grow g1
  have fD : F1 D = none := g1.fh.free hD
  have bD : B D = none := E1.bh.free hD
  have nD : ∀ (j : Nat) a, ρ[j]? = some (some (.own a)) → σ[j]? ≠ some (some (.ref D)) := fun j a e w => by
    obtain ⟨p, us, h1, _, _, f2, _⟩ := own_at E1 e
    rw [h1] at w
    cases w
    rw [hD] at f2
    cases f2
  have nT : ∀ (j : Nat) a, ρ[j]? = some (some (.tks a)) → σ[j]? ≠ some (some (.ref D)) := fun j a e w => by
    obtain ⟨p, us, h1, _, _, f2, _⟩ := tks_at E1 e
    rw [h1] at w
    cases w
    rw [hD] at f2
    cases f2
  refine ⟨fun i m H2 => m = items.length - i ∧ i ≤ items.length ∧ ∃ F2 xs ks, Gr F1 H1 F2 H2 ∧ EnvOk K B F2 H2 ρ σ ∧ F2 D = none ∧ H2 D = some (tkO D xs) ∧ xs.length ≤ i ∧ TkR K F2 ks xs ∧ tkcD dg dt dk dv vs (items.drop i) ρ ks q,
    ⟨items.length, by simp, Nat.zero_le _, F1, [], [], Gr.newO g1.fh hD, E1.grow (Gr.newO g1.fh hD), fD, upd_same, Nat.le_refl _, .nil, by simpa using z⟩, ?_⟩
  rintro i m H2 ⟨rfl, hi', F2, xs, ks, gr, E2, f2, h2, hl, ha, hz⟩
  obtain ⟨go, stop⟩ := it F2 H2 gr.ff gr.hh gr.fh i
  by_cases hlt : i < items.length
  · obtain ⟨go, yl⟩ := go hlt
    refine .inr ⟨go, fun H' => ∃ F2 xs ks, Gr F1 H1 F2 H' ∧ EnvOk K B F2 H' ρ σ ∧ F2 D = none ∧ H' D = some (tkO D xs) ∧ xs.length ≤ i + 1 ∧ TkR K F2 ks xs ∧ tkcD dg dt dk dv vs (items.drop (i + 1)) ρ ks q,
      fun H' h => ⟨_, by omega, rfl, hlt, h⟩, fun x H3 y => ?_⟩
    obtain ⟨F3, gr3, d, hd, r⟩ := yl x H3 y
    have ed : items.drop i = d :: items.drop (i + 1) := by
      have e2 : items[i] = d := Option.some.inj ((List.getElem?_eq_getElem hlt).symm.trans hd)
      rw [← e2]
      exact List.drop_eq_getElem_cons hlt
    rw [ed] at hz
    have E3 := E2.grow gr3
    refine hg B F3 H3 (wipeD ρ vs) (wipe σ vs) x d (E3.wiped vs) r _ hz _ fun ρ4 σ4 E4 w4 z4 => ⟨by rw [w4, wipe_idem], ?_⟩
    refine ht B F3 H3 ρ4 σ4 E4 _ z4 _ fun b F5 H5 gr5 z5 => ?_
    have gA := gr3.trans gr5
    have D5 : H5 D = some (tkO D xs) := gA.hh D _ h2
    have f5 : F5 D = none := gA.own D f2 (by rw [h2]; trivial)
    cases b with
    | true =>
      refine hk B F5 H5 ρ4 σ4 (E4.grow gr5) _ (z5.1 rfl) _ fun y dy F6 H6 gr6 r6 z6 => hv B F6 H6 ρ4 σ4 ((E4.grow gr5).grow gr6) _ z6 _ fun w dw F7 H7 gr7 r7 z7 => ?_
      obtain ⟨k, rfl, z7⟩ := z7
      obtain ⟨b, rfl, hs⟩ := dp_key (r6.mono gr7.ff)
      have gB := gA.trans (gr6.trans gr7)
      have D7 : H7 D = some (tkO D xs) := (gr6.trans gr7).hh D _ D5
      have f7 : F7 D = none := (gr6.trans gr7).own D f5 (by rw [D5]; trivial)
      have ha7 := ha.mono gB.ff
      refine ⟨b, k, xs, rfl, D7, ha7.keysAt.mono gr7.fh, gr7.fh.seqT hs, by omega, fun u ru => ⟨F7, storedH xs k b u, tkPut ks k dw, ?_, (E2.grow gB).other bD f7 nD nT, f7, upd_same, Nat.le_trans (stored_len ..) (by omega), ha7.put hs r7 ru, z7⟩⟩
      have gC := gr.trans gB
      refine ⟨gC.ff, fun b u e => ?_, fun b u e => ?_, gC.own⟩
      · rw [upd_ne (ne_of_none e hD)]
        exact gC.hh b u e
      · rw [upd_ne (ne_of_none e f7)]
        exact gC.fh b u e
    | false => exact ⟨F5, xs, ks, gr.trans gA, E2.grow gA, f5, D5, by omega, ha.mono gA.ff, z5.2 rfl⟩
  · have e : i = items.length := by omega
    refine .inl ⟨stop (by omega), ?_⟩
    rw [e, List.drop_length] at hz
    exact kk D xs ks F2 H2 (g1.trans gr) (g1.hh.free hD) f2 h2 ha hz
variable {kx vx tg iter : Expr} {ifs : List Expr} {own : List (Str × Nat)} {di : RL} {dg : RG} {dt : RT} {dk dv : RE} {scope : Scope}
theorem st_tkc {i : Nat} {y : Str} {py spos : Pos} (hu : X.A.units < cLine) (hN : X.N.Nodup) (hi : DIc X tg iter di) (hg : DGw X scope (own.map (·.2)) tg dg) (ht : DPTs X scope ifs dt) (hk : ∀ s H C cl fp, DE (BX X scope s H C cl fp) kx dk) (hv : ∀ s H C cl fp, DE (BX X scope s H C cl fp) vx dv)
    (hsw : swapsWith (.DictComp kx vx [⟨tg, iter, ifs, 0⟩] scope pos) (some (.Name y py)) spos.line X.env = pure true)
    (ok : BlkOk X.N X.env.scope scope own := by exact blkOk_by (by first | decide +kernel | kernel_rfl)) (hy : X.N[i]? = some y := by rfl) (hyl : X.env.scope.names.lookup y = some .local := by rfl) (hc : X.calm = true := by rfl) (hs : ∀ x, foldedSetIterable iter X.env x = pure x := by intro _; rfl) :
    DS X (.Assign [.Name y py] (.DictComp kx vx [⟨tg, iter, ifs, 0⟩] scope pos) spos) (sSetTk i (lTkc di dg dt dk dv (own.map (·.2)))) := by
  obtain ⟨wi, i1, i2⟩ := hi
  obtain ⟨g, g1, g2⟩ := hg
  obtain ⟨tt, t1, t2⟩ := ht
  refine ⟨_, ps_setTkc (tk := canE X.K dk) (tv := canE X.K dv) hu hc hN hy hyl hsw i1 ok g1 t1 (fun s H C cl fp => (hk s H C cl fp).can) (fun s H C cl fp => (hv s H C cl fp).can) hs, fun F0 B F H ρ σ s E DD h D k => ?_⟩
  exact sim_tkc i2 g2 t2 sim_canE sim_canE B F H ρ σ E _ h _ fun p xs ks F' H' g hp hf hh ha z => k.nx F' H' _ _ (s.to g) (tks_new E g i hp hf hh ha) z
theorem dtk_c (hu : X.A.units < cLine) (hN : X.N.Nodup) (hi : DIc X tg iter di) (hg : DGw X scope (own.map (·.2)) tg dg) (ht : DPTs X scope ifs dt) (hk : ∀ s H C cl fp, DE (BX X scope s H C cl fp) kx dk) (hv : ∀ s H C cl fp, DE (BX X scope s H C cl fp) vx dv)
    (ok : BlkOk X.N X.env.scope scope own := by exact blkOk_by (by first | decide +kernel | kernel_rfl)) (hc : X.calm = true := by rfl) (hs : ∀ x, foldedSetIterable iter X.env x = pure x := by intro _; rfl) :
    DTk X (.DictComp kx vx [⟨tg, iter, ifs, 0⟩] scope pos) (lTkc di dg dt dk dv (own.map (·.2))) := by
  obtain ⟨wi, i1, i2⟩ := hi
  obtain ⟨g, g1, g2⟩ := hg
  obtain ⟨tt, t1, t2⟩ := ht
  exact ⟨_, pe_tkc (tk := canE X.K dk) (tv := canE X.K dv) hu hc hN i1 ok g1 t1 (fun s H C cl fp => (hk s H C cl fp).can) (fun s H C cl fp => (hv s H C cl fp).can) hs, sim_tkc i2 g2 t2 sim_canE sim_canE⟩
/-- x in xs, x not in xs: xs a list of data of any depth -/
def tInD (neg : Bool) : G2 := fun x y q => match y with
  | .list ds => SeqAt.shaped x = true ∧ SeqAt.shaped (.list ds) = true ∧ q (.bool ((ds.any fun z => PyData.eqv z x) != neg))
  | _ => False
theorem o_inD (hu : X.A.units + 65 < cLine) : OpD X (compareOp .In) (tInD false) := by
  refine ⟨_, op_inD hu, fun F H v u x y fh bx bY q hq Q k => ?_⟩
  unfold tInD at hq
  split at hq
  · exact ⟨x, _, bx.dp fh, bY.dp fh, hq.1, hq.2.1, k _ _ F H (Gr.refl fh) (.bl _) (by simpa using hq.2.2)⟩
  · exact hq.elim
theorem o_notInD (hu : X.A.units + 65 < cLine) : OpD X (compareOp .NotIn) (tInD true) := by
  refine ⟨_, op_notInD hu, fun F H v u x y fh bx bY q hq Q k => ?_⟩
  unfold tInD at hq
  split at hq
  · exact ⟨x, _, bx.dp fh, bY.dp fh, hq.1, hq.2.1, k _ _ F H (Gr.refl fh) (.bl _) (by simpa using hq.2.2)⟩
  · exact hq.elim
end
section
variable {X : Cx} {k : Nat} {x : Str} {p pos : Pos} {e : Expr} {es : List Expr} {da : RL} {g : FD}
theorem vw_list {K : Frag} {F H F' H' : Hp} {p : Addr} {vs : List V} {ds : List D} (fh : Same F H) (g : Gr H H F' H') (hp : H p = none) (hh : H' p = some (.lst vs)) (ha : DpAll K F' vs ds) (hn : noLstAll ds = true) : ∃ F2 : Hp, Gr F H F2 H' ∧ F2 p = none ∧ DpAll K F2 vs ds := by
  have g2 := keepOff_gr (H' := H') fh g.hh
  have fp : F p = none := fh.free hp
  classical
  refine ⟨fun q => if q = p then none else keepOff F H H' q, ⟨fun b u w => ?_, g.hh, fun b u w => ?_, fun b w m => ?_⟩, by simp, ?_⟩
  · show (if b = p then none else _) = _
    rw [if_neg (ne_of_none w fp)]
    exact g2.ff b u w
  · have w : (if b = p then none else keepOff F H H' b) = some u := w
    split at w
    · cases w
    · exact g2.fh b u w
  · show (if b = p then none else _) = _
    split
    · rfl
    · exact g2.own b w m
  · refine dpAll_cut (H := H') (fun b u w nm => ?_) ds hn (ha.mono g.fh)
    have : b ≠ p := fun y => by
      subst y
      rw [hh] at w
      cases w
      exact nm trivial
    show (if b = p then none else _) = _
    rw [if_neg this]
    exact keepOff_keep g.hh b u w nm
/-- f(..), own lists among what is handed over -/
def dFnV (g : FD) (da : RL) : RE := fun ρ q => da (view ρ) fun xs => g xs fun r => match r with | .val d => noLst d = true ∧ q d | .own ds => noLstAll ds = true ∧ q (.list ds) | .tks _ => False
theorem sim_fnV {K : Frag} {ta : TA} {n : Nat} (ha : SimA K n ta da) : SimE K (tCall (SpD K n g) [] (fun _ _ _ => False) ta) (dFnV g da) := fun B F H ρ σ Ev q hq Q k =>
  ha B H H (view ρ) σ Ev.view _ hq _ fun vs ds F1 H1 g1 r ln z => by
    refine ⟨F1, ds, _, g1.fh, by rw [List.append_nil, r.length, ln], by rw [List.append_nil]; exact r, z, fun r' qr v F2 H2 g2 rr => ?_⟩
    have g := g1.trans g2
    cases r' with
    | val d => exact k v d (keepOff F H H2) H2 (keepOff_gr Ev.fh g.hh) (dp_cut (keepOff_keep g.hh) d qr.1 (Dp.mono rr g.fh)) qr.2
    | own ds' =>
      obtain ⟨p, us, rfl, hb, hf, hh, ha'⟩ := rr
      have hp : H p = none := g1.hh.free hb
      obtain ⟨F3, g3, f3, a3⟩ := vw_list Ev.fh g hp hh ha' qr.1
      exact k (.ref p) (.list ds') _ H2 (gr_frz g3 hp f3 hh) (.lst (.inl (.inl upd_same)) (a3.mono (same_new f3))) qr.2
    | tks ks => exact rr.elim
theorem Ready.toV (G : Ready X.prog X.w X.K X.mg X.base x (e :: es).length k g) (gA : X.A.guards = some []) (hr : Room k X.A) (ha : DA X (e :: es) da) (hg : Gl X x := by rfl)
    (hdb : (x == ("__debug__" : Str)) = false := by decide) (he : starEach (e :: es) X.env = (false, eval e X.env) :: starEach es X.env := by rfl) (hpl : (backTo pos (starEach es X.env)).any (·.1) = false := by rfl) : DE X (.Call (.Name x p) (e :: es) [] pos) (dFnV g da) := by
  obtain ⟨f, fd, ps, G1, hm, hk, hb⟩ := G.ex
  obtain ⟨ta, a1, a2⟩ := ha
  exact ⟨_, pe_callG G1 gA hr hg hm hk hb a1 hdb he hpl, sim_fnV a2⟩
end
end DL

namespace DL
open PySem PySem.Spec PyProof.Rows L2
/-! ### sorted(xs), xs a list of tuples of d whole numbers, any number of them -/
abbrev rkT (B : Int) (h : Heap) (v : Value) : Int := TS.code B (TS.intsOf h v)
theorem swo_rk (r : Value → Int) : SrtO.Swo fun v u => decide (r v < r u) := by
  refine ⟨fun x y h => ?_, fun x y z h1 h2 => ?_⟩
  · have a := of_decide_eq_true h
    exact decide_eq_false (by omega)
  · have a := of_decide_eq_false h1
    have b := of_decide_eq_false h2
    exact decide_eq_false (by omega)
theorem tups_cmp {prog : Program} {w : World} {A : Around} {s : Shared} {vs : List Value} {d : Nat} {B : Int} {r : Value → Int} (x : TS.TupsOk s.heap d B vs) (hr : ∀ v ∈ vs, ∀ ns, TS.TupInts s.heap v ns → r v = TS.code B ns) :
    SrtO.Cmp prog w A s (tuples' true) (fun p => p.1 ∈ vs) (SrtO.lt2 fun v u => decide (r v < r u)) := by
  intro p q hp hq
  obtain ⟨ns, tp, lp, bp⟩ := x _ hp
  obtain ⟨ms, tq, lq, bq⟩ := x _ hq
  have e1 := hr _ hp _ tp
  have e2 := hr _ hq _ tq
  show wpAny (model prog w) A (keyLt' (tuples' true) p.1 q.1) (fun z s' => s' = s ∧ z = decide (r p.1 < r q.1)) (fun _ _ => False) s
  rw [e1, e2]
  obtain ⟨a, ys, f1, ⟨o, ho, hc, n, hdt⟩, i⟩ := tp
  obtain ⟨a', zs, f2, ⟨o', ho', hc', n', hdt'⟩, i'⟩ := tq
  rw [f1, f2]
  refine PySem.W.kat_lt ho hdt ho' hdt' ?_
  have sz : decide (ys.size < zs.size) = false := by
    have l1 := i.length
    have l2 := i'.length
    rw [Array.length_toList] at l1 l2
    exact decide_eq_false (by omega)
  rw [sz]
  exact TS.lex_ints 0 i i' (by omega) bp bq ⟨rfl, rfl⟩
theorem tups_sortable {prog : Program} {w : World} {A : Around} {s : Shared} {a : Addr} {vs : List Value} {d : Nat} {B : Int} (hd : 1 ≤ d) (h0 : 2 ≤ vs.length) (x : TS.TupsOk s.heap d B vs) (ha : ∀ o, s.heap.get? a = some o → o.cls ≠ .type "tuple") (r : Value → Int) (hr : ∀ v ∈ vs, ∀ ns, TS.TupInts s.heap v ns → r v = TS.code B ns) :
    SrtO.SortableO prog w A s a vs fun v u => decide (r v < r u) := by
  intro h' keep
  have kp : ∀ b o, s.heap.get? b = some o → o.cls = .type "tuple" → h'.get? b = some o := fun b o e c => keep b o (fun z => by subst z; exact ha o e c) e
  have x' : TS.TupsOk h' d B vs := x.keeps kp
  have hr' : ∀ v ∈ vs, ∀ ns, TS.TupInts h' v ns → r v = TS.code B ns := fun v hv ns t => by
    obtain ⟨ms, tm, _⟩ := x v hv
    have e : ns = ms := t.ints.symm.trans (tm.keeps kp).ints
    rw [e]
    exact hr v hv ms tm
  obtain ⟨fs, k, hl, hi⟩ := TS.firsts_of hd vs x'
  refine ⟨tuples' true, fun Q E hq => ?_, tups_cmp (s := { s with heap := h' }) x' hr'⟩
  refine PySem.W.kat_kind (T := .type "int") k (by omega) (fun f hm => ?_) (by rfl) ?_
  · obtain ⟨n, t, rfl⟩ := hi f hm
    exact PySem.W.Looks.of_pure rfl
  · have e : (Value.type "int" != Value.type "tuple") = true := by first | decide +kernel | rfl | decide
    rw [e]
    exact hq
def rSortUO (K : Frag) (d : Nat) (B : Int) : List V → Hp → VK → Prop := fun vs H Q => ∃ (a : Addr) (xs : List V), vs = [V.ref a] ∧ SqL K H a xs ∧ (∀ x ∈ xs, ∃ ns, TupI K H x ns ∧ ns.length = d ∧ TS.Bd B ns) ∧
  ∀ (ys : List V) (p : Addr), ys.Perm xs → ys.Pairwise (fun x y => ∀ n m, TupI K H x n → TupI K H y m → TS.code B n ≤ TS.code B m) → H p = none → Q (.ref p) (upd H p (.lst ys))
theorem cr_sortUO {X : Cx} {d : Nat} {B : Int} (hd : 1 ≤ d) : CallR X (.builtin "sorted") (rSortUO X.K d B) := by
  rintro pins s σ H vs us Q I r ⟨a, xs, rfl, hs, hx, q⟩
  obtain ⟨its, rv, hl, hz⟩ := I.list hs
  rw [Vals.ref1 r]
  obtain ⟨e1, e2⟩ := bkV_refs rv fun x m => let ⟨ns, ⟨t, e, _⟩, _⟩ := hx x m; ⟨t, e⟩
  have tu : TS.TupsOk s.heap d B its := fun v hv => by
    obtain ⟨t, rfl⟩ := e2 v hv
    obtain ⟨ns, ⟨t', e, ht⟩, hn, hb⟩ := hx _ (show V.ref t ∈ xs by rw [e1]; exact List.mem_map.mpr ⟨_, hv, rfl⟩)
    cases e
    exact ⟨ns, tupI_raw I ht, hn, hb⟩
  refine SrtO.sorted_ord (swo_rk (rkT B s.heap)) hl.isList (by rw [← rv.length]; exact hz) (fun h2 h₁ a' ha' kp => ?_) fun out h1 h2 => ?_
  · refine tups_sortable (s := { s with heap := h₁ }) hd h2 (tu.keeps fun b o e _ => (kp b o e).2) (fun o e => ?_) _ fun v hv ns t => ?_
    · have e' : some o = some (seqObj "list" its.toArray 0) := e.symm.trans ha'
      cases e'
      intro c
      exact absurd (Value.type.inj c) (by decide)
    · obtain ⟨ms, tm, _⟩ := tu v hv
      have e : ns = ms := t.ints.symm.trans (tm.keeps fun b o e _ => (kp b o e).2).ints
      rw [e]
      exact congrArg (TS.code B) tm.ints
  · obtain ⟨ep, he'⟩ := PyProof.Rows.sortedAll_at s.heap its out.toArray
    have h3 : ∀ u ∈ out, ∃ a, u = Value.ref a := fun u hu => e2 u (h2.perm.mem_iff.mp hu)
    have hp : (out.map bkV).Perm xs := by
      rw [e1]
      exact h2.perm.map bkV
    have hlen : (out.map bkV).length ≤ sizeLine := by
      rw [hp.length_eq]
      exact hz
    refine ⟨.ref _, upd H (s.heap.objs.size + 1) (.lst (out.map bkV)), I.laid (t' := s.toks) (fun _ _ => PyProof.Rows.sortedAll_old) (Nat.le_succ _) ⟨hlen, out, ep, bkV_vals h3, he'⟩, rfl, q _ _ hp ?_ (I.hok.fresh (Nat.le_succ _))⟩
    rw [List.pairwise_map]
    refine List.Pairwise.imp (fun {u v} huv n m hn hm => ?_) h1
    obtain ⟨t, et, ht⟩ := hn
    obtain ⟨t', et', ht'⟩ := hm
    have i1 : TS.intsOf s.heap u = n := by rw [bkV_ref et]; exact (tupI_raw I ht).ints
    have i2 : TS.intsOf s.heap v = m := by rw [bkV_ref et']; exact (tupI_raw I ht').ints
    rw [← i1, ← i2]
    exact Int.not_lt.mp (of_decide_eq_false huv)
/-! over data -/
abbrev tI (k : List Int) : D := .tuple (k.map PyData.int)
theorem tI_inj {a b : List Int} (h : tI a = tI b) : a = b := by
  have h : a.map PyData.int = b.map PyData.int := by injection h
  exact List.map_inj_right (fun x y e => by injection e) |>.mp h
theorem dpAll_perm {K : Frag} {F : Hp} {ys xs : List V} (p : ys.Perm xs) : ∀ {ds : List D}, DpAll K F xs ds → ∃ es, es.Perm ds ∧ DpAll K F ys es := by
  induction p with
  | nil => intro ds h; exact ⟨ds, .refl _, h⟩
  | cons x p ih =>
    intro ds h
    cases h with
    | cons h1 h2 =>
      obtain ⟨es, e1, e2⟩ := ih h2
      exact ⟨_, e1.cons _, .cons h1 e2⟩
  | swap x y l =>
    intro ds h
    cases h with
    | cons h1 h2 =>
      cases h2 with
      | cons h2 h3 => exact ⟨_, .swap _ _ _, .cons h2 (.cons h1 h3)⟩
  | trans p1 p2 ih1 ih2 =>
    intro ds h
    obtain ⟨es, e1, e2⟩ := ih2 h
    obtain ⟨fs, f1, f2⟩ := ih1 e2
    exact ⟨fs, f1.trans e1, f2⟩
theorem perm_of_map {α β : Type} {f : α → β} : ∀ {es : List β} {ks : List α}, es.Perm (ks.map f) → ∃ ks' : List α, ks'.Perm ks ∧ es = ks'.map f := by
  intro es ks h
  generalize e : ks.map f = m at h
  induction h generalizing ks with
  | nil => exact ⟨ks, .refl _, by rw [e]⟩
  | cons x p ih =>
    cases ks with
    | nil => simp at e
    | cons k ks =>
      rw [List.map_cons] at e
      injection e with a b
      obtain ⟨ks', p', rfl⟩ := ih b
      exact ⟨k :: ks', p'.cons _, by rw [List.map_cons, a]⟩
  | swap x y l =>
    cases ks with
    | nil => simp at e
    | cons k ks =>
      rw [List.map_cons] at e
      injection e with a b
      cases ks with
      | nil => simp at b
      | cons k2 ks =>
        rw [List.map_cons] at b
        injection b with c b
        exact ⟨k2 :: k :: ks, .swap _ _ _, by rw [List.map_cons, List.map_cons, a, b, c]⟩
  | trans p1 p2 ih1 ih2 =>
    obtain ⟨k1, q1, e1⟩ := ih2 e
    obtain ⟨k2, q2, e2⟩ := ih1 e1.symm
    exact ⟨k2, q2.trans q1, e2⟩
/-- what is sorted: tuples of n whole numbers below 2 ^ 20 -/
structure TupOk (n : Nat) (ks : List (List Int)) : Prop where
  pos : 1 ≤ n
  all : ∀ k ∈ ks, k.length = n ∧ ∀ i ∈ k, 0 ≤ i ∧ i < 1048576
def lSortT : List D → (List D → Prop) → Prop := fun xs q => match xs with
  | [.list ds] => ∃ (ks : List (List Int)) (n : Nat), ds = ks.map tI ∧ TupOk n ks ∧ ∀ ks' : List (List Int), ks'.Perm ks → ks'.Pairwise (fun a b => TS.code 1048576 a ≤ TS.code 1048576 b) → q (ks'.map tI)
  | _ => False
def rSortUA (K : Frag) : List V → Hp → VK → Prop := fun vs H Q => ∃ d B, 1 ≤ d ∧ rSortUO K d B vs H Q
theorem cr_sortUA {X : Cx} : CallR X (.builtin "sorted") (rSortUA X.K) := fun pins s σ H vs us Q I r ⟨d, B, hd, h⟩ => cr_sortUO hd pins s σ H vs us Q I r h
theorem dpT {K : Frag} {F : Hp} : ∀ {vs : List V} {ks : List (List Int)}, DpAll K F vs (ks.map tI) → ∀ x ∈ vs, ∃ k ∈ ks, TupI K F x k
  | [], _, _, x, hx => absurd hx (by simp)
  | v :: vs, ks, h, x, hx => by
    cases ks with
    | nil => cases h
    | cons k ks =>
      cases h with
      | cons h1 h2 =>
        rcases List.mem_cons.mp hx with e | hx
        · subst e
          obtain ⟨b, e, hs⟩ := dp_key h1
          exact ⟨k, List.mem_cons_self, b, e, hs⟩
        · obtain ⟨k', hk, r⟩ := dpT h2 x hx
          exact ⟨k', List.mem_cons_of_mem _ hk, r⟩
theorem TupI.mono {K : Frag} {F H : Hp} {x : V} {k : List Int} (h : TupI K F x k) (e : Same F H) : TupI K H x k := let ⟨t, a, b⟩ := h; ⟨t, a, Same.seqT e b⟩
theorem dpPair {K : Frag} {F H : Hp} (fh : Same F H) {R : List Int → List Int → Prop} : ∀ {vs : List V} {ks : List (List Int)}, DpAll K F vs (ks.map tI) → vs.Pairwise (fun x y => ∀ n m, TupI K H x n → TupI K H y m → R n m) → ks.Pairwise R
  | _, [], _, _ => List.Pairwise.nil
  | [], _ :: _, h, _ => by cases h
  | v :: vs, k :: ks, h, p => by
    cases h with
    | cons h1 h2 =>
      obtain ⟨p1, p2⟩ := List.pairwise_cons.mp p
      refine List.pairwise_cons.mpr ⟨fun k' hk' => ?_, dpPair fh h2 p2⟩
      obtain ⟨b, e, hs⟩ := dp_key h1
      have : ∃ x ∈ vs, TupI K F x k' := by
        obtain ⟨i, hi⟩ := List.mem_iff_getElem?.mp hk'
        obtain ⟨u, hu, r⟩ := h2.get (i := i) (d := tI k') (by rw [List.getElem?_map, hi]; rfl)
        obtain ⟨b, e, hs⟩ := dp_key r
        exact ⟨u, List.mem_of_getElem? hu, b, e, hs⟩
      obtain ⟨x, hx, r⟩ := this
      exact p1 x hx k k' (TupI.mono ⟨b, e, hs⟩ fh) (TupI.mono r fh)
theorem c_sortedT {X : Cx} : CallL X (.builtin "sorted") lSortT := by
  refine ⟨_, cr_sortUA, fun F H vs xs fh bx q hq Q k => ?_⟩
  unfold lSortT at hq
  split at hq
  · obtain ⟨ks, n, rfl, ok, hq⟩ := hq
    obtain ⟨v, rfl, b⟩ := bx.one
    obtain ⟨p, us, rfl, h1, h2⟩ := b.lst fh
    refine ⟨n, 1048576, ok.pos, p, us, rfl, h1, fun x hx => ?_, fun ys p2 e1 e2 hp2 => ?_⟩
    · obtain ⟨k, hk, r⟩ := dpT h2 x hx
      obtain ⟨l1, l2⟩ := ok.all k hk
      exact ⟨k, TupI.mono r fh, l1, l2⟩
    · obtain ⟨es, f1, f2⟩ := dpAll_perm e1 h2
      obtain ⟨ks', g1, rfl⟩ := perm_of_map f1
      exact k p2 _ _ F _ (Gr.newO fh hp2) hp2 (fh.free hp2) upd_same f2 (hq ks' g1 (dpPair fh f2 e2))
  · exact hq.elim
end DL

/-! groups of permutations as lists -/
namespace GP
open PM
abbrev Pm := List Nat
section
variable {n : Nat}
theorem cmp_len {a b : Pm} : (cmp a b).length = b.length := by simp [cmp]
theorem cmp_assoc {a b c : Pm} (hb : IsP b n) (hc : IsP c n) : cmp (cmp a b) c = cmp a (cmp b c) := by
  refine g_ext (by simp [cmp_len]) fun i hi => ?_
  have hi' : i < n := by rw [cmp_len, hc.len] at hi; exact hi
  rw [g_cmp (by rw [hc.len]; exact hi'), g_cmp (by rw [hb.len]; exact hc.lt i hi'), g_cmp (by rw [cmp_len, hc.len]; exact hi'), g_cmp (by rw [hc.len]; exact hi')]
theorem g_range {n j : Nat} (h : j < n) : g (List.range n) j = j := by simp [g, h]
theorem id_cmp {b : Pm} (hb : IsP b n) : cmp (List.range n) b = b := by
  refine g_ext cmp_len fun i hi => ?_
  rw [cmp_len, hb.len] at hi
  rw [g_cmp (by rw [hb.len]; exact hi)]
  exact g_range (hb.lt i hi)
theorem cmp_id {a : Pm} (ha : IsP a n) : cmp a (List.range n) = a := by
  refine g_ext (by rw [cmp_len, List.length_range, ha.len]) fun i hi => ?_
  rw [cmp_len, List.length_range] at hi
  rw [g_cmp (by rw [List.length_range]; exact hi)]
  simp [g, hi]
theorem cmp_canc {m x y : Pm} (hm : IsP m n) (hx : IsP x n) (hy : IsP y n) (h : cmp m x = cmp m y) : x = y := by
  refine g_ext (by rw [hx.len, hy.len]) fun i hi => ?_
  rw [hx.len] at hi
  have e : g (cmp m x) i = g (cmp m y) i := by rw [h]
  rw [g_cmp (by rw [hx.len]; exact hi), g_cmp (by rw [hy.len]; exact hi)] at e
  exact hm.inj _ _ (hx.lt i hi) (hy.lt i hi) e
/-- what permutations make -/
inductive Gen (n : Nat) (gs : List Pm) : Pm → Prop
  | one : Gen n gs (List.range n)
  | mul {g x : Pm} : g ∈ gs → Gen n gs x → Gen n gs (cmp g x)
def AllP (n : Nat) (gs : List Pm) : Prop := ∀ g ∈ gs, IsP g n
theorem AllP.app {gs hs : List Pm} (h : AllP n gs) (h' : AllP n hs) : AllP n (gs ++ hs) := fun g hg => by
  rcases List.mem_append.mp hg with a | a
  · exact h g a
  · exact h' g a
theorem Gen.isP {gs : List Pm} (hg : AllP n gs) {x : Pm} (h : Gen n gs x) : IsP x n := by
  induction h with
  | one => exact isP_range n
  | mul a _ ih => exact IsP.cmp (hg _ a) ih
theorem Gen.cmp {gs : List Pm} (hg : AllP n gs) {x y : Pm} (h : Gen n gs x) (h' : Gen n gs y) : Gen n gs (PM.cmp x y) := by
  induction h with
  | one => rw [id_cmp (h'.isP hg)]; exact h'
  | mul a b ih => rw [cmp_assoc (b.isP hg) (h'.isP hg)]; exact .mul a ih
theorem Gen.of {gs : List Pm} (hg : AllP n gs) {x : Pm} (h : x ∈ gs) : Gen n gs x := by
  have := Gen.mul (n := n) h .one
  rw [cmp_id (hg x h)] at this
  exact this
theorem Gen.mono {gs hs : List Pm} (hh : AllP n hs) (h : ∀ g ∈ gs, Gen n hs g) {x : Pm} (hx : Gen n gs x) : Gen n hs x := by
  induction hx with
  | one => exact .one
  | mul a _ ih => exact Gen.cmp hh (h _ a) ih
theorem Gen.least {gs : List Pm} {S : Pm → Prop} (h1 : S (List.range n)) (h2 : ∀ g ∈ gs, ∀ x, S x → S (PM.cmp g x)) {x : Pm} (hx : Gen n gs x) : S x := by
  induction hx with
  | one => exact h1
  | mul a _ ih => exact h2 _ a _ ih
/-- a finite group -/
structure Grp (n : Nat) (G : List Pm) : Prop where
  one : List.range n ∈ G
  isP : AllP n G
  mul : ∀ x ∈ G, ∀ y ∈ G, cmp x y ∈ G
theorem Grp.gen {G gs : List Pm} (h : Grp n G) (hs : ∀ g ∈ gs, g ∈ G) {x : Pm} (hx : Gen n gs x) : x ∈ G := hx.least h.one fun g hg x hx => h.mul _ (hs g hg) _ hx
theorem nodup_sub : ∀ {l m : List Pm}, l.Nodup → (∀ x ∈ l, x ∈ m) → l.length ≤ m.length
  | [], _, _, _ => Nat.zero_le _
  | a :: r, m, hn, h => by
    obtain ⟨h1, h2⟩ := List.nodup_cons.mp hn
    have ha := h a List.mem_cons_self
    have := nodup_sub (l := r) (m := m.erase a) h2 fun x hx => by
      have : x ≠ a := fun e => h1 (e ▸ hx)
      exact (List.mem_erase_of_ne this).mpr (h x (List.mem_cons_of_mem _ hx))
    rw [List.length_erase_of_mem ha] at this
    have : 0 < m.length := List.length_pos_of_mem ha
    rw [List.length_cons]
    omega
theorem dedup : ∀ G : List Pm, ∃ G' : List Pm, G'.Nodup ∧ ∀ x, x ∈ G' ↔ x ∈ G
  | [] => ⟨[], List.nodup_nil, fun _ => .rfl⟩
  | a :: r => by
    obtain ⟨G', h1, h2⟩ := dedup r
    by_cases c : a ∈ r
    · exact ⟨G', h1, fun x => by rw [h2, List.mem_cons]; exact ⟨.inr, fun h => h.elim (fun e => e ▸ c) id⟩⟩
    · exact ⟨a :: G', List.nodup_cons.mpr ⟨fun h => c ((h2 a).mp h), h1⟩, fun x => by rw [List.mem_cons, List.mem_cons, h2]⟩
/-- an injective map of a finite list into itself reaches all -/
theorem surj_of {G : List Pm} {f : Pm → Pm} (hm : ∀ x ∈ G, f x ∈ G) (hi : ∀ x ∈ G, ∀ y ∈ G, f x = f y → x = y) {y : Pm} (hy : y ∈ G) : ∃ x ∈ G, f x = y := by
  refine Classical.byContradiction fun c => ?_
  have key : ∀ l : List Pm, l.Nodup → (∀ x ∈ l, x ∈ G) → (y :: l.map f).Nodup := by
    intro l hn hs
    refine List.nodup_cons.mpr ⟨fun h => ?_, ?_⟩
    · obtain ⟨x, hx, e⟩ := List.mem_map.mp h
      exact c ⟨x, hs x hx, e⟩
    · rw [List.nodup_iff_pairwise_ne, List.pairwise_map]
      refine List.Pairwise.imp_of_mem (fun {a b} ha hb hab e => hab (hi a (hs a ha) b (hs b hb) e)) (List.nodup_iff_pairwise_ne.mp hn)
  obtain ⟨G', d1, d2⟩ := dedup G
  have h1 := key G' d1 fun x hx => (d2 x).mp hx
  have h2 := nodup_sub (m := G') h1 fun x hx => by
    rcases List.mem_cons.mp hx with e | e
    · rw [e]; exact (d2 y).mpr hy
    · obtain ⟨z, hz, rfl⟩ := List.mem_map.mp e
      exact (d2 _).mpr (hm z ((d2 z).mp hz))
  rw [List.length_cons, List.length_map] at h2
  omega
theorem Grp.inv {G : List Pm} (h : Grp n G) {x : Pm} (hx : x ∈ G) : ∃ y ∈ G, cmp x y = List.range n ∧ cmp y x = List.range n := by
  obtain ⟨y, hy, e⟩ := surj_of (f := cmp x) (fun z hz => h.mul _ hx _ hz) (fun a ha b hb e => cmp_canc (h.isP x hx) (h.isP a ha) (h.isP b hb) e) h.one
  refine ⟨y, hy, e, ?_⟩
  have hX := h.isP x hx
  have hY := h.isP y hy
  refine cmp_canc hX (IsP.cmp hY hX) (isP_range n) ?_
  rw [← cmp_assoc hY hX, e, id_cmp hX, cmp_id hX]
/-- the closure -/
structure IsClo (n : Nat) (gs M : List Pm) : Prop where
  nd : M.Nodup
  iff : ∀ x, x ∈ M ↔ Gen n gs x
theorem IsClo.grp {gs M : List Pm} (hg : AllP n gs) (h : IsClo n gs M) : Grp n M := ⟨(h.iff _).mpr .one, fun x hx => ((h.iff x).mp hx).isP hg, fun x hx y hy => (h.iff _).mpr (Gen.cmp hg ((h.iff x).mp hx) ((h.iff y).mp hy))⟩
structure Bfs (n : Nat) (gs M : List Pm) (a : Nat) : Prop where
  nd : M.Nodup
  one : List.range n ∈ M
  gen : ∀ x ∈ M, Gen n gs x
  cl : ∀ i, i < a → ∀ x, M[i]? = some x → ∀ g ∈ gs, cmp g x ∈ M
  le : a ≤ M.length
theorem Bfs.start (gs : List Pm) : Bfs n gs [List.range n] 0 := ⟨by simp, by simp, fun x hx => by rw [List.mem_singleton.mp hx]; exact .one, fun i hi => by omega, Nat.zero_le _⟩
theorem Bfs.done {gs M : List Pm} {a : Nat} (h : Bfs n gs M a) (ha : M.length ≤ a) : IsClo n gs M := ⟨h.nd, fun x => ⟨h.gen x, fun hx => hx.least h.one fun g hg y hy => by
  obtain ⟨i, hi, e⟩ := List.getElem_of_mem hy
  exact h.cl i (by omega) y (by rw [← e]; exact List.getElem?_eq_getElem hi) g hg⟩⟩
/-- within the turn of a: the generators of js are done -/
structure BfsT (n : Nat) (gs M js : List Pm) (a : Nat) : Prop where
  b : Bfs n gs M a
  lt : a < M.length
  t : ∀ x, M[a]? = some x → ∀ g ∈ js, cmp g x ∈ M
theorem BfsT.start {gs M : List Pm} {a : Nat} (h : Bfs n gs M a) (ha : a < M.length) : BfsT n gs M [] a := ⟨h, ha, fun x _ g hg => by simp at hg⟩
theorem BfsT.fin {gs M : List Pm} {a : Nat} (h : BfsT n gs M gs a) : Bfs n gs M (a + 1) := ⟨h.b.nd, h.b.one, h.b.gen, fun i hi x hx g hg => by
  by_cases c : i = a
  · subst c; exact h.t x hx g hg
  · exact h.b.cl i (by omega) x hx g hg, h.lt⟩
theorem BfsT.old {gs M js : List Pm} {a : Nat} {g x : Pm} (h : BfsT n gs M js a) (hx : M[a]? = some x) (hm : cmp g x ∈ M) : BfsT n gs M (js ++ [g]) a := ⟨h.b, h.lt, fun y hy k hk => by
  rcases List.mem_append.mp hk with q | q
  · exact h.t y hy k q
  · rw [List.mem_singleton.mp q]
    rw [hx] at hy
    cases hy
    exact hm⟩
theorem clo_nil : IsClo n [] [List.range n] := ⟨by simp, fun x => ⟨fun h => by rw [List.mem_singleton.mp h]; exact .one, fun h => h.least (by simp) fun g hg => by simp at hg⟩⟩
theorem get_app {M : List Pm} {y x : Pm} {i : Nat} (hi : i < M.length) (h : (M ++ [y])[i]? = some x) : M[i]? = some x := by
  rw [List.getElem?_append_left hi] at h
  exact h
theorem BfsT.new {gs M js : List Pm} {a : Nat} {g x : Pm} (h : BfsT n gs M js a) (hg : g ∈ gs) (hx : M[a]? = some x) (hm : cmp g x ∉ M) : BfsT n gs (M ++ [cmp g x]) (js ++ [g]) a := by
  have hlt := h.lt
  refine ⟨⟨?_, List.mem_append_left _ h.b.one, fun y hy => ?_, fun i hi y hy k hk => ?_, by rw [List.length_append]; have := h.b.le; omega⟩, by rw [List.length_append]; omega, fun y hy k hk => ?_⟩
  · refine List.nodup_append.mpr ⟨h.b.nd, by simp, fun a ha b hb e => ?_⟩
    rw [List.mem_singleton.mp hb] at e
    exact hm (e ▸ ha)
  · rcases List.mem_append.mp hy with q | q
    · exact h.b.gen y q
    · rw [List.mem_singleton.mp q]
      exact .mul hg (h.b.gen x (List.mem_of_getElem? hx))
  · exact List.mem_append_left _ (h.b.cl i hi y (get_app (by omega) hy) k hk)
  · have hy := get_app hlt hy
    rcases List.mem_append.mp hk with q | q
    · exact List.mem_append_left _ (h.t y hy k q)
    · rw [List.mem_singleton.mp q]
      rw [hx] at hy
      cases hy
      exact List.mem_append_right _ List.mem_cons_self
/-! ### order -/
def nk (p : Pm) : List Int := p.map fun i : Nat => (i : Int)
theorem nk_inj {p q : Pm} (h : nk p = nk q) : p = q := (List.map_inj_right (fun x y e => by omega)).mp h
abbrev cd (p : Pm) : Int := TS.code 1048576 (nk p)
theorem nk_bd {p : Pm} (h : IsP p n) (hn : n ≤ 1000) : TS.Bd 1048576 (nk p) := fun m hm => by
  obtain ⟨i, hi, rfl⟩ := List.mem_map.mp hm
  obtain ⟨j, hj, e⟩ := List.getElem_of_mem hi
  rw [h.len] at hj
  have := h.lt j hj
  have e2 : g p j = i := by simp [g, h.len, hj, e]
  omega
theorem code_inj {B : Int} : ∀ {a b : List Int}, a.length = b.length → TS.Bd B a → TS.Bd B b → TS.code B a = TS.code B b → a = b
  | [], [], _, _, _, _ => rfl
  | [], _ :: _, h, _, _, _ => by simp at h
  | _ :: _, [], h, _, _, _ => by simp at h
  | x :: a, y :: b, h, ha, hb, e => by
    have hl : a.length = b.length := by simpa using h
    rcases Int.lt_trichotomy x y with c | c | c
    · have := TS.code_lt hl ha.tail hb.tail c
      omega
    · subst c
      have e2 : TS.code B a = TS.code B b := by
        have e1 : x * B ^ a.length + TS.code B a = x * B ^ b.length + TS.code B b := e
        rw [hl] at e1
        omega
      rw [code_inj hl ha.tail hb.tail e2]
    · have := TS.code_lt hl.symm hb.tail ha.tail c
      omega
theorem cd_inj {p q : Pm} (hp : IsP p n) (hq : IsP q n) (hn : n ≤ 1000) (e : cd p = cd q) : p = q :=
  nk_inj (code_inj (by simp [nk, hp.len, hq.len]) (nk_bd hp hn) (nk_bd hq hn) e)
/-- strictly ascending -/
abbrev Asc (T : List Pm) : Prop := T.Pairwise fun a b => cd a < cd b
theorem Asc.nd {T : List Pm} (h : Asc T) : T.Nodup := List.nodup_iff_pairwise_ne.mpr (h.imp fun {a b} q e => by rw [e] at q; omega)
theorem asc_uniq {S T : List Pm} (hS : Asc S) (hT : Asc T) (h : ∀ x, x ∈ S ↔ x ∈ T) : S = T := by
  have p : S.Perm T := (List.perm_ext_iff_of_nodup hS.nd hT.nd).mpr h
  refine List.Perm.eq_of_pairwise (le := fun a b => cd a < cd b) (fun a b _ _ q r => by omega) hS hT p
theorem asc_of {M T : List Pm} (hP : AllP n M) (hn : n ≤ 1000) (nd : M.Nodup) (p : T.Perm M) (h : T.Pairwise fun a b => cd a ≤ cd b) : Asc T := by
  have nT := p.nodup_iff.mpr nd
  have hT : AllP n T := fun x hx => hP x (p.mem_iff.mp hx)
  refine List.Pairwise.imp_of_mem (fun {a b} ha hb q => ?_) (h.and (List.nodup_iff_pairwise_ne.mp nT))
  rcases Int.lt_or_eq_of_le q.1 with c | c
  · exact c
  · exact absurd (cd_inj (hT a ha) (hT b hb) hn c) q.2
/-- the table of what permutations make -/
structure IsTab (n : Nat) (gs T : List Pm) : Prop where
  asc : Asc T
  iff : ∀ x, x ∈ T ↔ Gen n gs x
theorem IsTab.uniq {gs S T : List Pm} (a : IsTab n gs S) (b : IsTab n gs T) : S = T := asc_uniq a.asc b.asc fun x => by rw [a.iff, b.iff]
theorem IsTab.clo {gs T : List Pm} (a : IsTab n gs T) : IsClo n gs T := ⟨a.asc.nd, a.iff⟩
theorem IsTab.grp {gs T : List Pm} (hg : AllP n gs) (a : IsTab n gs T) : Grp n T := a.clo.grp hg
theorem IsTab.congr {gs hs T : List Pm} (a : IsTab n gs T) (hg : AllP n gs) (hh : AllP n hs) (h1 : ∀ g ∈ gs, Gen n hs g) (h2 : ∀ g ∈ hs, Gen n gs g) : IsTab n hs T :=
  ⟨a.asc, fun x => (a.iff x).trans ⟨fun h => h.mono hh h1, fun h => h.mono hg h2⟩⟩
theorem IsClo.congr {gs hs T : List Pm} (a : IsClo n gs T) (hg : AllP n gs) (hh : AllP n hs) (h1 : ∀ g ∈ gs, Gen n hs g) (h2 : ∀ g ∈ hs, Gen n gs g) : IsClo n hs T :=
  ⟨a.nd, fun x => (a.iff x).trans ⟨fun h => h.mono hh h1, fun h => h.mono hg h2⟩⟩
/-! ### one member more -/
theorem g_cmpP {a b : Pm} (hb : IsP b n) {i : Nat} (hi : i < n) : g (cmp a b) i = g a (g b i) := g_cmp (by rw [hb.len]; exact hi)
theorem pm_ext {a b : Pm} (ha : IsP a n) (hb : IsP b n) (h : ∀ i, i < n → g a i = g b i) : a = b := g_ext (by rw [ha.len, hb.len]) fun i hi => h i (by rw [← ha.len]; exact hi)
/-- two-sided inverses, pointwise -/
theorem Grp.invP {G : List Pm} (h : Grp n G) {x : Pm} (hx : x ∈ G) : ∃ y ∈ G, IsP y n ∧ (∀ i, i < n → g x (g y i) = i) ∧ ∀ i, i < n → g y (g x i) = i := by
  obtain ⟨y, hy, e1, e2⟩ := h.inv hx
  have hX := h.isP x hx
  have hY := h.isP y hy
  refine ⟨y, hy, hY, fun i hi => ?_, fun i hi => ?_⟩
  · rw [← g_cmpP hY hi, e1, g_range hi]
  · rw [← g_cmpP hX hi, e2, g_range hi]
theorem coset {U K gs : List Pm} {m : Pm} (hU : Grp n U) (hK : Grp n K) (sub : ∀ x ∈ K, x ∈ U) (sq : ∀ x ∈ U, cmp x x ∈ K) (hm : m ∈ U) (hgs : AllP n gs) (hG : ∀ x, x ∈ K ↔ Gen n gs x) : ∀ x, x ∈ K ++ K.map (cmp m) ↔ Gen n (gs ++ [m]) x := by
  have hM := hU.isP m hm
  have hgm : AllP n (gs ++ [m]) := hgs.app fun x hx => by rw [List.mem_singleton.mp hx]; exact hM
  have up : ∀ x, x ∈ K → Gen n (gs ++ [m]) x := fun x hx => ((hG x).mp hx).mono hgm fun y hy => Gen.of hgm (List.mem_append_left _ hy)
  intro x
  constructor
  · intro hx
    rcases List.mem_append.mp hx with q | q
    · exact up x q
    · obtain ⟨y, hy, rfl⟩ := List.mem_map.mp q
      exact .mul (by simp) (up y hy)
  · intro hx
    refine hx.least (List.mem_append_left _ hK.one) fun a ha x hx => ?_
    obtain ⟨m', hm', pm', i1, i2⟩ := hU.invP hm
    rcases List.mem_append.mp ha with qa | qa
    · have haK : a ∈ K := (hG a).mpr (Gen.of hgs qa)
      have hA := hK.isP a haK
      rcases List.mem_append.mp hx with q | q
      · exact List.mem_append_left _ (hK.mul _ haK _ q)
      · obtain ⟨y, hy, rfl⟩ := List.mem_map.mp q
        obtain ⟨a', ha', pa', j1, j2⟩ := hK.invP haK
        have hY := hK.isP y hy
        refine List.mem_append_right _ (List.mem_map.mpr ⟨cmp (cmp (cmp (cmp m' a) (cmp m' a)) (cmp a' (cmp m m))) y, ?_, ?_⟩)
        · exact hK.mul _ (hK.mul _ (sq _ (hU.mul _ hm' _ (sub a haK))) _ (hK.mul _ ha' _ (sq m hm))) _ hy
        · have p1 := IsP.cmp pm' hA
          have p2 := IsP.cmp p1 p1
          have p3 := IsP.cmp hM hM
          have p4 := IsP.cmp pa' p3
          have p5 := IsP.cmp p2 p4
          have p6 := IsP.cmp p5 hY
          have p7 := IsP.cmp hM hY
          refine pm_ext (IsP.cmp hM p6) (IsP.cmp hA p7) fun i hi => ?_
          have l1 := hY.lt i hi
          have l2 := hM.lt _ l1
          have l3 := hM.lt _ l2
          have l4 := pa'.lt _ l3
          rw [g_cmpP p6 hi, g_cmpP hY hi, g_cmpP p4 l1, g_cmpP p3 l1, g_cmpP hM l1, g_cmpP p1 l4, g_cmpP hA l4, j1 _ l3, i2 _ l2, g_cmpP hA l2, i1 _ (hA.lt _ l2), g_cmpP p7 hi, g_cmpP hY hi]
    · rw [List.mem_singleton.mp qa]
      rcases List.mem_append.mp hx with q | q
      · exact List.mem_append_right _ (List.mem_map.mpr ⟨x, q, rfl⟩)
      · obtain ⟨y, hy, rfl⟩ := List.mem_map.mp q
        have hY := hK.isP y hy
        rw [← cmp_assoc hM hY]
        exact List.mem_append_left _ (hK.mul _ (sq m hm) _ hy)
theorem coset_nodup {U K : List Pm} {m : Pm} (hU : Grp n U) (hK : Grp n K) (hm : IsP m n) (hn : m ∉ K) (nd : K.Nodup) : (K ++ K.map (cmp m)).Nodup := by
  refine List.nodup_append.mpr ⟨nd, ?_, fun a ha b hb e => ?_⟩
  · rw [List.nodup_iff_pairwise_ne, List.pairwise_map]
    exact List.Pairwise.imp_of_mem (fun {a b} ha hb hab e => hab (cmp_canc hm (hK.isP a ha) (hK.isP b hb) e)) (List.nodup_iff_pairwise_ne.mp nd)
  · obtain ⟨y, hy, rfl⟩ := List.mem_map.mp hb
    subst e
    obtain ⟨y', hy', py', i1, i2⟩ := hK.invP hy
    have hY := hK.isP y hy
    refine hn ?_
    have e : cmp (cmp m y) y' = m := by
      refine pm_ext (IsP.cmp (IsP.cmp hm hY) py') hm fun i hi => ?_
      rw [g_cmpP py' hi, g_cmpP hY (py'.lt i hi), i1 i hi]
    rw [← e]
    exact hK.mul _ ha _ hy'
/-! ### what must be added to L to make the members of rest -/
open Classical in
noncomputable def dueGo (n : Nat) (L : List Pm) : List Pm → List Pm → List Pm
  | [], kp => kp
  | m :: r, kp => if Gen n (L ++ kp) m then dueGo n L r kp else dueGo n L r (kp ++ [m])
theorem dueGo_yes {L r kp : List Pm} {m : Pm} (h : Gen n (L ++ kp) m) : dueGo n L (m :: r) kp = dueGo n L r kp := by rw [dueGo, if_pos h]
theorem dueGo_no {L r kp : List Pm} {m : Pm} (h : ¬ Gen n (L ++ kp) m) : dueGo n L (m :: r) kp = dueGo n L r (kp ++ [m]) := by rw [dueGo, if_neg h]
theorem dueGo_sub {L : List Pm} : ∀ (r kp : List Pm), ∀ x ∈ dueGo n L r kp, x ∈ kp ∨ x ∈ r
  | [], kp, x, h => .inl h
  | m :: r, kp, x, h => by
    by_cases c : Gen n (L ++ kp) m
    · rw [dueGo_yes c] at h
      rcases dueGo_sub r kp x h with q | q
      · exact .inl q
      · exact .inr (List.mem_cons_of_mem _ q)
    · rw [dueGo_no c] at h
      rcases dueGo_sub r _ x h with q | q
      · rcases List.mem_append.mp q with q | q
        · exact .inl q
        · exact .inr (by rw [List.mem_singleton.mp q]; exact List.mem_cons_self)
      · exact .inr (List.mem_cons_of_mem _ q)
theorem dueGo_has {L : List Pm} : ∀ (r kp : List Pm), ∀ x ∈ kp, x ∈ dueGo n L r kp
  | [], kp, x, h => h
  | m :: r, kp, x, h => by
    by_cases c : Gen n (L ++ kp) m
    · rw [dueGo_yes c]
      exact dueGo_has r kp x h
    · rw [dueGo_no c]
      exact dueGo_has r _ x (List.mem_append_left _ h)
theorem dueGo_gen {L : List Pm} (hL : AllP n L) : ∀ (r kp : List Pm), AllP n r → AllP n kp → ∀ x ∈ r, Gen n (L ++ dueGo n L r kp) x
  | m :: r, kp, hr, hk, x, hx => by
    have hr' : AllP n r := fun y hy => hr y (List.mem_cons_of_mem _ hy)
    have hm := hr m List.mem_cons_self
    have alld : AllP n (L ++ dueGo n L (m :: r) kp) := hL.app fun y hy => (dueGo_sub _ _ y hy).elim (hk y) (hr y)
    by_cases c : Gen n (L ++ kp) m
    · rcases List.mem_cons.mp hx with e | hx
      · rw [e]
        exact c.mono alld fun y hy => Gen.of alld (by
          rcases List.mem_append.mp hy with q | q
          · exact List.mem_append_left _ q
          · exact List.mem_append_right _ (dueGo_has _ _ y q))
      · rw [dueGo_yes c]
        exact dueGo_gen hL r kp hr' hk x hx
    · have hk' : AllP n (kp ++ [m]) := hk.app fun y hy => by rw [List.mem_singleton.mp hy]; exact hm
      rcases List.mem_cons.mp hx with e | hx
      · rw [e]
        refine Gen.of alld (List.mem_append_right _ ?_)
        rw [dueGo_no c]
        exact dueGo_has _ _ m (by simp)
      · rw [dueGo_no c]
        exact dueGo_gen hL r _ hr' hk' x hx
theorem dueGo_nodup {L : List Pm} (hL : AllP n L) : ∀ (r kp : List Pm), AllP n r → AllP n kp → kp.Nodup → (dueGo n L r kp).Nodup
  | [], kp, _, _, h => h
  | m :: r, kp, hr, hk, h => by
    have hr' : AllP n r := fun y hy => hr y (List.mem_cons_of_mem _ hy)
    by_cases c : Gen n (L ++ kp) m
    · rw [dueGo_yes c]
      exact dueGo_nodup hL r kp hr' hk h
    · rw [dueGo_no c]
      refine dueGo_nodup hL r _ hr' (hk.app fun y hy => by rw [List.mem_singleton.mp hy]; exact hr m List.mem_cons_self) (List.nodup_append.mpr ⟨h, by simp, fun a ha b hb e => c ?_⟩)
      rw [List.mem_singleton.mp hb] at e
      rw [← e]
      exact Gen.of (hL.app hk) (List.mem_append_right _ ha)
end
end GP

/-! groups whose order is a power of two -/
namespace GP
open PM
section
variable {n : Nat}
/-- the different values of a list -/
def dd {α : Type} [DecidableEq α] : List α → List α
  | [] => []
  | a :: r => if a ∈ dd r then dd r else a :: dd r
theorem mem_dd {α : Type} [DecidableEq α] {x : α} : ∀ {l : List α}, x ∈ dd l ↔ x ∈ l
  | [] => .rfl
  | a :: r => by
    unfold dd
    by_cases c : a ∈ dd r
    · rw [if_pos c, mem_dd, List.mem_cons]
      exact ⟨.inr, fun h => h.elim (fun e => mem_dd.mp (e ▸ c)) id⟩
    · rw [if_neg c, List.mem_cons, List.mem_cons, mem_dd]
theorem nd_dd {α : Type} [DecidableEq α] : ∀ {l : List α}, (dd l).Nodup
  | [] => List.nodup_nil
  | a :: r => by
    unfold dd
    by_cases c : a ∈ dd r
    · rw [if_pos c]; exact nd_dd
    · rw [if_neg c]; exact List.nodup_cons.mpr ⟨c, nd_dd⟩
theorem len_split {α : Type} (p : α → Bool) : ∀ l : List α, l.length = (l.filter p).length + (l.filter fun x => !p x).length
  | [] => rfl
  | a :: l => by
    have ih := len_split p l
    rw [List.filter_cons, List.filter_cons]
    cases h : p a
    · simp; omega
    · simp; omega
/-- equal fibres -/
theorem fib {α : Type} [DecidableEq α] {f : Pm → α} {c : Nat} : ∀ (R : List α) (G : List Pm), R.Nodup → (∀ x ∈ G, f x ∈ R) → (∀ r ∈ R, (G.filter fun x => decide (f x = r)).length = c) → G.length = c * R.length
  | [], G, _, h, _ => by
    cases G with
    | nil => simp
    | cons a r => exact absurd (h a (by simp)) (by simp)
  | r :: R, G, nd, h, hc => by
    obtain ⟨n1, n2⟩ := List.nodup_cons.mp nd
    have e : G.length = (G.filter fun x => decide (f x = r)).length + (G.filter fun x => !decide (f x = r)).length := len_split _ _
    have ih := fib (c := c) R (G.filter fun x => !decide (f x = r)) n2 (fun x hx => by
      obtain ⟨h1, h2⟩ := List.mem_filter.mp hx
      rcases List.mem_cons.mp (h x h1) with q | q
      · rw [decide_eq_true q] at h2; cases h2
      · exact q) fun r' hr' => by
        rw [List.filter_filter]
        rw [← hc r' (List.mem_cons_of_mem _ hr')]
        congr 1
        refine List.filter_congr fun x _ => ?_
        by_cases q : f x = r'
        · have : f x ≠ r := fun z => n1 (by rw [← z, q]; exact hr')
          simp [q, this]
          exact fun z => this (q.trans z)
        · simp [q]
    rw [e, hc r List.mem_cons_self, ih, List.length_cons, Nat.mul_succ]
    omega
theorem filter_len_eq {l m : List Pm} (hl : l.Nodup) (hm : m.Nodup) (f : Pm → Pm) (h1 : ∀ x ∈ l, f x ∈ m) (h2 : ∀ x ∈ l, ∀ y ∈ l, f x = f y → x = y) (h3 : ∀ y ∈ m, ∃ x ∈ l, f x = y) : l.length = m.length := by
  have nf : (l.map f).Nodup := by
    rw [List.nodup_iff_pairwise_ne, List.pairwise_map]
    exact List.Pairwise.imp_of_mem (fun {a b} ha hb hab e => hab (h2 a ha b hb e)) (List.nodup_iff_pairwise_ne.mp hl)
  have a := nodup_sub nf (m := m) fun x hx => by
    obtain ⟨y, hy, rfl⟩ := List.mem_map.mp hx
    exact h1 y hy
  have b := nodup_sub hm (m := l.map f) fun x hx => by
    obtain ⟨y, hy, e⟩ := h3 x hx
    exact List.mem_map.mpr ⟨y, hy, e⟩
  rw [List.length_map] at a b
  omega
/-- orbit and stabilizer: f a = f b exactly if b is a times a member of S -/
theorem orb_stab {α : Type} [DecidableEq α] {G S : List Pm} (hG : Grp n G) (nG : G.Nodup) (nS : S.Nodup) (hS : ∀ x ∈ S, x ∈ G) {f : Pm → α} (hf : ∀ a ∈ G, ∀ b ∈ G, f b = f a ↔ ∃ s ∈ S, b = cmp a s) : G.length = S.length * (dd (G.map f)).length := by
  refine fib (f := f) (dd (G.map f)) G nd_dd (fun x hx => mem_dd.mpr (List.mem_map.mpr ⟨x, hx, rfl⟩)) fun r hr => ?_
  obtain ⟨a, ha, rfl⟩ := List.mem_map.mp (mem_dd.mp hr)
  have pa := hG.isP a ha
  refine (filter_len_eq nS (nG.filter _) (cmp a) (fun x hx => ?_) (fun x hx y hy e => cmp_canc pa (hG.isP x (hS x hx)) (hG.isP y (hS y hy)) e) fun y hy => ?_).symm
  · have hm := hG.mul _ ha _ (hS x hx)
    exact List.mem_filter.mpr ⟨hm, decide_eq_true ((hf a ha _ hm).mpr ⟨x, hx, rfl⟩)⟩
  · obtain ⟨h1, h2⟩ := List.mem_filter.mp hy
    obtain ⟨s, hs, e⟩ := (hf a ha y h1).mp (of_decide_eq_true h2)
    exact ⟨s, hs, e.symm⟩
/-! left cosets -/
/-- y lies in x K -/
def InC (K : List Pm) (x y : Pm) : Prop := ∃ k ∈ K, y = cmp x k
theorem InC.refl {K : List Pm} (hK : Grp n K) {x : Pm} (hx : IsP x n) : InC K x x := ⟨_, hK.one, (cmp_id hx).symm⟩
theorem InC.symm {K : List Pm} (hK : Grp n K) {x y : Pm} (hx : IsP x n) (h : InC K x y) : InC K y x := by
  obtain ⟨k, hk, rfl⟩ := h
  obtain ⟨k', hk', e1, e2⟩ := hK.inv hk
  exact ⟨k', hk', by rw [cmp_assoc (hK.isP k hk) (hK.isP k' hk'), e1, cmp_id hx]⟩
theorem InC.trans {K : List Pm} (hK : Grp n K) {x y z : Pm} (h : InC K x y) (h' : InC K y z) : InC K x z := by
  obtain ⟨k, hk, rfl⟩ := h
  obtain ⟨k', hk', rfl⟩ := h'
  exact ⟨cmp k k', hK.mul _ hk _ hk', cmp_assoc (hK.isP k hk) (hK.isP k' hk')⟩
theorem InC.left {K : List Pm} (hK : Grp n K) {a x y : Pm} (hx : IsP x n) (h : InC K x y) : InC K (cmp a x) (cmp a y) := by
  obtain ⟨k, hk, rfl⟩ := h
  exact ⟨k, hk, (cmp_assoc hx (hK.isP k hk)).symm⟩
open Classical in
/-- the first member of U in the coset of x -/
noncomputable def rep (U K : List Pm) (x : Pm) : Option Pm := U.find? fun u => decide (InC K x u)
open Classical in
theorem rep_eq {U K : List Pm} (hK : Grp n K) {x y : Pm} (hy : IsP y n) (hx : IsP x n) (h : InC K x y) : rep U K y = rep U K x := by
  unfold rep
  congr 1
  funext u
  exact decide_eq_decide.mpr ⟨fun q => h.trans hK q, fun q => (h.symm hK hx).trans hK q⟩
open Classical in
theorem rep_spec {U K : List Pm} (hU : Grp n U) (hK : Grp n K) {x : Pm} (hx : x ∈ U) : ∃ r, rep U K x = some r ∧ r ∈ U ∧ InC K x r := by
  have hs : (rep U K x).isSome = true := by
    unfold rep
    rw [List.find?_isSome]
    exact ⟨x, hx, decide_eq_true (InC.refl hK (hU.isP x hx))⟩
  obtain ⟨r, hr⟩ := Option.isSome_iff_exists.mp hs
  refine ⟨r, hr, List.mem_of_find?_eq_some hr, ?_⟩
  have := List.find?_some hr
  exact of_decide_eq_true this
theorem rep_iff {U K : List Pm} (hU : Grp n U) (hK : Grp n K) {x y : Pm} (hx : x ∈ U) (hy : y ∈ U) : rep U K y = rep U K x ↔ InC K x y := by
  refine ⟨fun h => ?_, fun h => rep_eq hK (hU.isP y hy) (hU.isP x hx) h⟩
  obtain ⟨r, e, hr, c⟩ := rep_spec hU hK hx
  obtain ⟨r', e', hr', c'⟩ := rep_spec hU hK hy
  rw [e, e'] at h
  cases h
  exact c.trans hK (c'.symm hK (hU.isP y hy))
/-- Lagrange -/
theorem lagrange {U K : List Pm} (hU : Grp n U) (hK : Grp n K) (nU : U.Nodup) (nK : K.Nodup) (sub : ∀ x ∈ K, x ∈ U) : U.length = K.length * (dd (U.map (rep U K))).length :=
  orb_stab hU nU nK sub fun a ha b hb => by rw [rep_iff hU hK ha hb]; exact .rfl
theorem two_dvd {k a b : Nat} (h : a * b = 2 ^ k) : ∃ i, a = 2 ^ i ∧ i ≤ k := by
  induction k generalizing a b with
  | zero => exact ⟨0, by have := Nat.eq_one_of_mul_eq_one_right h; simpa using this, Nat.le_refl _⟩
  | succ k ih =>
    by_cases c : 2 ∣ a
    · obtain ⟨a', rfl⟩ := c
      have : a' * b = 2 ^ k := by
        rw [Nat.pow_succ, Nat.mul_assoc] at h
        omega
      obtain ⟨i, hi, hk⟩ := ih this
      exact ⟨i + 1, by rw [hi, Nat.pow_succ]; omega, by omega⟩
    · have hb : 2 ∣ b := by
        have h2 : 2 ∣ a * b := by rw [h, Nat.pow_succ]; exact Nat.dvd_mul_left 2 _
        have cp : Nat.Coprime 2 a := by
          have := Nat.gcd_dvd_left 2 a
          have h3 : Nat.gcd 2 a ∣ a := Nat.gcd_dvd_right 2 a
          have h4 : Nat.gcd 2 a ≤ 2 := Nat.le_of_dvd (by decide) this
          have h5 : 0 < Nat.gcd 2 a := Nat.gcd_pos_of_pos_left _ (by decide)
          have h6 : Nat.gcd 2 a ≠ 2 := fun z => c (by rw [z] at h3; exact h3)
          show Nat.gcd 2 a = 1
          omega
        exact cp.dvd_of_dvd_mul_left h2
      obtain ⟨b', rfl⟩ := hb
      have : a * b' = 2 ^ k := by
        rw [Nat.pow_succ, ← Nat.mul_assoc, Nat.mul_comm a 2, Nat.mul_assoc] at h
        omega
      obtain ⟨i, hi, hk⟩ := ih this
      exact ⟨i, hi, by omega⟩
/-- sets that fall into even parts -/
theorem even_parts {α : Type} [DecidableEq α] (orb : α → List α) (hn : ∀ r, (orb r).Nodup) : ∀ (m : Nat) (K : List α), K.length ≤ m → K.Nodup → (∀ r ∈ K, r ∈ orb r) → (∀ r ∈ K, ∀ s ∈ orb r, s ∈ K) → (∀ r ∈ K, ∀ s ∈ K, s ∉ orb r → ∀ t ∈ orb s, t ∉ orb r) → (∀ r ∈ K, 2 ∣ (orb r).length) → 2 ∣ K.length
  | 0, K, h, _, _, _, _, _ => by have : K.length = 0 := by omega
                                 rw [this]; exact Nat.dvd_zero 2
  | m + 1, [], _, _, _, _, _, _ => Nat.dvd_zero 2
  | m + 1, r :: K, h, nd, h1, h2, h3, h4 => by
    have hr : r ∈ r :: K := List.mem_cons_self
    have e : (r :: K).length = ((r :: K).filter fun x => decide (x ∈ orb r)).length + ((r :: K).filter fun x => !decide (x ∈ orb r)).length := len_split _ _
    have e1 : ((r :: K).filter fun x => decide (x ∈ orb r)).length = (orb r).length := by
      refine List.Perm.length_eq ((List.perm_ext_iff_of_nodup (nd.filter _) (hn r)).mpr fun x => ?_)
      rw [List.mem_filter, decide_eq_true_eq]
      exact ⟨fun h => h.2, fun h => ⟨h2 r hr x h, h⟩⟩
    have pos : 0 < (orb r).length := List.length_pos_of_mem (h1 r hr)
    have ih := even_parts orb hn m ((r :: K).filter fun x => !decide (x ∈ orb r)) (by omega) (nd.filter _)
      (fun s hs => h1 s (List.mem_filter.mp hs).1)
      (fun s hs t ht => by
        obtain ⟨a, b⟩ := List.mem_filter.mp hs
        have b : s ∉ orb r := by simpa using b
        refine List.mem_filter.mpr ⟨h2 s a t ht, ?_⟩
        have := h3 r hr s a b t ht
        simpa using this)
      (fun s hs t ht => h3 s (List.mem_filter.mp hs).1 t (List.mem_filter.mp ht).1)
      (fun s hs => h4 s (List.mem_filter.mp hs).1)
    have := h4 r hr
    rw [e, e1]
    exact Nat.dvd_add this ih
/-- a part of a group that is no whole one: some member outside of it keeps it -/
theorem norm_grows {U K : List Pm} {k : Nat} (hU : Grp n U) (hK : Grp n K) (nU : U.Nodup) (nK : K.Nodup) (sub : ∀ x ∈ K, x ∈ U) (hk : U.length = 2 ^ k) (hlt : K.length < U.length) :
    ∃ m ∈ U, m ∉ K ∧ ∀ a ∈ K, ∃ b ∈ K, cmp a m = cmp m b := by
  have lag := lagrange hU hK nU nK sub
  obtain ⟨j, hj, hjk⟩ := two_dvd (a := K.length) (b := (dd (U.map (rep U K))).length) (lag ▸ hk)
  -- the cosets are even in number
  have ev : 2 ∣ (dd (U.map (rep U K))).length := by
    obtain ⟨i, hi, _⟩ := two_dvd (a := (dd (U.map (rep U K))).length) (b := K.length) (k := k) (by rw [Nat.mul_comm, ← lag, hk])
    cases i with
    | zero => rw [hi] at lag; simp at lag; omega
    | succ i => rw [hi, Nat.pow_succ]; exact Nat.dvd_mul_left 2 _
  refine Classical.byContradiction fun no => ?_
  -- the coset of the identity is the only one that is fixed
  let R := dd (U.map (rep U K))
  let un : Option Pm → Pm := fun o => o.getD []
  let orb : Option Pm → List (Option Pm) := fun o => dd (K.map fun a => rep U K (cmp a (un o)))
  have memR : ∀ o, o ∈ R ↔ ∃ x ∈ U, rep U K x = o := fun o => by
    show o ∈ dd _ ↔ _
    rw [mem_dd, List.mem_map]
  have inR : ∀ o ∈ R, ∃ r ∈ U, o = some r ∧ rep U K r = o := fun o ho => by
    obtain ⟨x, hx, e⟩ := (memR o).mp ho
    obtain ⟨r, er, hr, c⟩ := rep_spec hU hK hx
    refine ⟨r, hr, by rw [← e, er], ?_⟩
    rw [← e]
    exact (rep_iff hU hK hx hr).mpr c
  have o1 : rep U K (List.range n) ∈ R := (memR _).mpr ⟨_, hU.one, rfl⟩
  -- all but this one fall into even parts
  have e : R.length = (R.filter fun o => decide (o = rep U K (List.range n))).length + (R.filter fun o => !decide (o = rep U K (List.range n))).length := len_split _ _
  have e1 : (R.filter fun o => decide (o = rep U K (List.range n))).length = 1 := by
    have : (R.filter fun o => decide (o = rep U K (List.range n))).Perm [rep U K (List.range n)] := (List.perm_ext_iff_of_nodup (nd_dd.filter _) (by simp)).mpr fun x => by
      rw [List.mem_filter, decide_eq_true_eq, List.mem_singleton]
      exact ⟨fun h => h.2, fun h => ⟨h ▸ o1, h⟩⟩
    rw [this.length_eq]; rfl
  have act : ∀ o ∈ R, ∀ a ∈ K, rep U K (cmp a (un o)) ∈ R := fun o ho a ha => by
    obtain ⟨r, hr, rfl, _⟩ := inR o ho
    exact (memR _).mpr ⟨_, hU.mul _ (sub a ha) _ hr, rfl⟩
  have un_ok : ∀ o ∈ R, un o ∈ U ∧ rep U K (un o) = o := fun o ho => by
    obtain ⟨r, hr, rfl, e⟩ := inR o ho
    exact ⟨hr, e⟩
  -- acting twice
  have act2 : ∀ x ∈ U, ∀ a ∈ K, rep U K (cmp a (un (rep U K x))) = rep U K (cmp a x) := fun x hx a ha => by
    obtain ⟨r, er, hr, c⟩ := rep_spec hU hK hx
    have : un (rep U K x) = r := by rw [er]; rfl
    rw [this]
    exact (rep_iff hU hK (hU.mul _ (sub a ha) _ hx) (hU.mul _ (sub a ha) _ hr)).mpr (c.left hK (hU.isP x hx))
  have even : 2 ∣ (R.filter fun o => !decide (o = rep U K (List.range n))).length := by
    refine even_parts orb (fun r => nd_dd) _ _ (Nat.le_refl _) (nd_dd.filter _) (fun o ho => ?_) (fun o ho s hs => ?_) (fun o ho s hs c t ht h => ?_) fun o ho => ?_
    · obtain ⟨ho, _⟩ := List.mem_filter.mp ho
      obtain ⟨u1, u2⟩ := un_ok o ho
      exact mem_dd.mpr (List.mem_map.mpr ⟨_, hK.one, by rw [id_cmp (hU.isP _ u1), u2]⟩)
    · obtain ⟨ho, no1⟩ := List.mem_filter.mp ho
      obtain ⟨u1, u2⟩ := un_ok o ho
      obtain ⟨a, ha, rfl⟩ := List.mem_map.mp (mem_dd.mp hs)
      refine List.mem_filter.mpr ⟨act o ho a ha, ?_⟩
      have no1 : o ≠ rep U K (List.range n) := by simpa using no1
      have : rep U K (cmp a (un o)) ≠ rep U K (List.range n) := fun z => no1 (by
        rw [← u2]
        refine (rep_iff hU hK hU.one u1).mpr ?_
        obtain ⟨b, hb, eb⟩ := (rep_iff hU hK hU.one (hU.mul _ (sub a ha) _ u1)).mp z
        rw [id_cmp (hK.isP b hb)] at eb
        obtain ⟨a', ha', f1, f2⟩ := hK.inv ha
        refine ⟨cmp a' b, hK.mul _ ha' _ hb, ?_⟩
        rw [id_cmp (IsP.cmp (hK.isP a' ha') (hK.isP b hb)), ← eb, ← cmp_assoc (hK.isP a ha) (hU.isP _ u1), f2, id_cmp (hU.isP _ u1)])
      simpa using this
    · obtain ⟨ho, _⟩ := List.mem_filter.mp ho
      obtain ⟨hs, _⟩ := List.mem_filter.mp hs
      obtain ⟨u1, u2⟩ := un_ok o ho
      obtain ⟨v1, v2⟩ := un_ok s hs
      obtain ⟨a, ha, e⟩ := List.mem_map.mp (mem_dd.mp ht)
      obtain ⟨b, hb, e2⟩ := List.mem_map.mp (mem_dd.mp h)
      refine c (mem_dd.mpr (List.mem_map.mpr ?_))
      obtain ⟨a', ha', f1, f2⟩ := hK.inv ha
      refine ⟨cmp a' b, hK.mul _ ha' _ hb, ?_⟩
      have p1 := hK.isP a ha
      have p2 := hK.isP a' ha'
      have p3 := hK.isP b hb
      have p4 := hU.isP _ u1
      have p5 := hU.isP _ v1
      have := act2 (cmp b (un o)) (hU.mul _ (sub b hb) _ u1) a' ha'
      rw [e2, ← e, act2 (cmp a (un s)) (hU.mul _ (sub a ha) _ v1) a' ha', ← cmp_assoc p1 p5, f2, id_cmp p5, v2, ← cmp_assoc p3 p4] at this
      exact this.symm
    · obtain ⟨ho, no1⟩ := List.mem_filter.mp ho
      have no1 : o ≠ rep U K (List.range n) := by simpa using no1
      obtain ⟨u1, u2⟩ := un_ok o ho
      have p4 := hU.isP _ u1
      -- those that keep the coset
      classical
      have hS : ∀ x ∈ K.filter (fun a => decide (rep U K (cmp a (un o)) = o)), x ∈ K := fun x hx => (List.mem_filter.mp hx).1
      have os := orb_stab (S := K.filter fun a => decide (rep U K (cmp a (un o)) = o)) (f := fun a => rep U K (cmp a (un o))) hK nK (nK.filter _) hS fun a ha b hb => by
        obtain ⟨a', ha', f1, f2⟩ := hK.inv ha
        have p1 := hK.isP a ha
        have p2 := hK.isP a' ha'
        have p3 := hK.isP b hb
        constructor
        · intro h
          refine ⟨cmp a' b, List.mem_filter.mpr ⟨hK.mul _ ha' _ hb, decide_eq_true ?_⟩, by rw [← cmp_assoc p2 p3, f1, id_cmp p3]⟩
          have h2 := act2 (cmp b (un o)) (hU.mul _ (sub b hb) _ u1) a' ha'
          have h3 := act2 (cmp a (un o)) (hU.mul _ (sub a ha) _ u1) a' ha'
          rw [h, h3, ← cmp_assoc p1 p4, f2, id_cmp p4, u2, ← cmp_assoc p3 p4] at h2
          exact h2.symm
        · rintro ⟨s, hs, rfl⟩
          obtain ⟨h1, h2⟩ := List.mem_filter.mp hs
          have h2 := of_decide_eq_true h2
          rw [cmp_assoc (hK.isP s h1) p4, ← act2 (cmp s (un o)) (hU.mul _ (sub s h1) _ u1) a ha, h2]
      rw [hj] at os
      obtain ⟨i, hi, _⟩ := two_dvd (a := (orb o).length) (b := (K.filter fun a => decide (rep U K (cmp a (un o)) = o)).length) (k := j) (by rw [Nat.mul_comm]; exact os.symm)
      cases i with
      | succ i => rw [hi, Nat.pow_succ]; exact Nat.dvd_mul_left 2 _
      | zero =>
        exfalso
        -- the orbit is the coset alone: un o keeps K
        refine no ⟨un o, u1, fun h => no1 ?_, fun a ha => ?_⟩
        · rw [← u2]
          exact (rep_iff hU hK hU.one u1).mpr ⟨un o, h, (id_cmp p4).symm⟩
        · have h1 : (orb o).length = 1 := hi.trans (Nat.pow_zero 2)
          have m1 : o ∈ orb o := mem_dd.mpr (List.mem_map.mpr ⟨_, hK.one, by rw [id_cmp p4, u2]⟩)
          have m2 : rep U K (cmp a (un o)) ∈ orb o := mem_dd.mpr (List.mem_map.mpr ⟨a, ha, rfl⟩)
          have : rep U K (cmp a (un o)) = o := by
            match hh : orb o, h1, m1, m2 with
            | [z], _, m1, m2 => exact (List.mem_singleton.mp m2).trans (List.mem_singleton.mp m1).symm
          have := (rep_iff hU hK u1 (hU.mul _ (sub a ha) _ u1)).mp (this.trans u2.symm)
          obtain ⟨b, hb, e⟩ := this
          exact ⟨b, hb, e⟩
  have : 2 ∣ R.length := ev
  rw [e, e1] at this
  omega
end
end GP

namespace GP
open PM
section
variable {n : Nat}
open Classical in
/-- the inverse -/
noncomputable def iv (n : Nat) (x : Pm) : Pm := if h : ∃ y, IsP y n ∧ cmp x y = List.range n ∧ cmp y x = List.range n then choose h else []
theorem iv_spec {G : List Pm} (hG : Grp n G) {x : Pm} (hx : x ∈ G) : iv n x ∈ G ∧ cmp x (iv n x) = List.range n ∧ cmp (iv n x) x = List.range n := by
  have px := hG.isP x hx
  obtain ⟨y, hy, e1, e2⟩ := hG.inv hx
  have h : ∃ y, IsP y n ∧ cmp x y = List.range n ∧ cmp y x = List.range n := ⟨y, hG.isP y hy, e1, e2⟩
  have e : iv n x = Classical.choose h := by unfold iv; rw [dif_pos h]
  obtain ⟨c1, c2, c3⟩ := Classical.choose_spec h
  rw [e]
  refine ⟨?_, c2, c3⟩
  have : Classical.choose h = y := cmp_canc px c1 (hG.isP y hy) (c2.trans e1.symm)
  rw [this]
  exact hy
def Nrm (K : List Pm) (m : Pm) : Prop := ∀ a ∈ K, ∃ b ∈ K, cmp a m = cmp m b
/-- m may be added to K -/
structure Dbl (K : List Pm) (m : Pm) : Prop where
  out : m ∉ K
  sq : cmp m m ∈ K
  nrm : ∀ l ∈ K, ∃ l' ∈ K, cmp m l = cmp l' m
theorem nrm_turn {K : List Pm} {m : Pm} (hK : Grp n K) (hm : IsP m n) (h : Nrm K m) : ∀ l ∈ K, ∃ l' ∈ K, cmp m l = cmp l' m := by
  intro l hl
  classical
  let f : Pm → Pm := fun a => if h' : ∃ b ∈ K, cmp a m = cmp m b then Classical.choose h' else a
  have hf : ∀ a ∈ K, f a ∈ K ∧ cmp a m = cmp m (f a) := fun a ha => by
    have h' := h a ha
    have e : f a = Classical.choose h' := dif_pos h'
    rw [e]
    exact Classical.choose_spec h'
  have canc : ∀ a ∈ K, ∀ b ∈ K, cmp a m = cmp b m → a = b := fun a ha b hb e => by
    refine pm_ext (hK.isP a ha) (hK.isP b hb) fun i hi => ?_
    obtain ⟨j, hj, rfl⟩ := hm.surj hi
    have := congrArg (fun z => g z j) e
    simpa [g_cmpP hm hj] using this
  obtain ⟨a, ha, e⟩ := surj_of (f := f) (fun a ha => (hf a ha).1) (fun a ha b hb e => canc a ha b hb (by rw [(hf a ha).2, (hf b hb).2, e])) hl
  exact ⟨a, ha, by rw [← e, (hf a ha).2]⟩
theorem nrm_back {K : List Pm} {m : Pm} (hK : Grp n K) (hm : IsP m n) (h : ∀ l ∈ K, ∃ l' ∈ K, cmp m l = cmp l' m) : Nrm K m := by
  intro l hl
  classical
  let f : Pm → Pm := fun a => if h' : ∃ b ∈ K, cmp m a = cmp b m then Classical.choose h' else a
  have hf : ∀ a ∈ K, f a ∈ K ∧ cmp m a = cmp (f a) m := fun a ha => by
    have h' := h a ha
    have e : f a = Classical.choose h' := dif_pos h'
    rw [e]
    exact Classical.choose_spec h'
  obtain ⟨a, ha, e⟩ := surj_of (f := f) (fun a ha => (hf a ha).1) (fun a ha b hb e => cmp_canc hm (hK.isP a ha) (hK.isP b hb) (by rw [(hf a ha).2, (hf b hb).2, e])) hl
  exact ⟨a, ha, by rw [← e, (hf a ha).2]⟩
theorem dbl_exists {U K : List Pm} {k : Nat} (hU : Grp n U) (hK : Grp n K) (nU : U.Nodup) (nK : K.Nodup) (sub : ∀ x ∈ K, x ∈ U) (hk : U.length = 2 ^ k) (hlt : K.length < U.length) : ∃ m ∈ U, Dbl K m := by
  obtain ⟨m0, hm0, out0, nrm0⟩ := norm_grows hU hK nU nK sub hk hlt
  classical
  let N := U.filter fun x => decide (Nrm K x)
  have memN : ∀ x, x ∈ N ↔ x ∈ U ∧ Nrm K x := fun x => by
    show x ∈ U.filter _ ↔ _
    rw [List.mem_filter, decide_eq_true_eq]
  have hN : Grp n N := by
    refine ⟨(memN _).mpr ⟨hU.one, fun a ha => ⟨a, ha, ?_⟩⟩, fun x hx => hU.isP x ((memN x).mp hx).1, fun x hx y hy => ?_⟩
    · rw [cmp_id (hK.isP a ha), id_cmp (hK.isP a ha)]
    · obtain ⟨u1, n1⟩ := (memN x).mp hx
      obtain ⟨u2, n2⟩ := (memN y).mp hy
      refine (memN _).mpr ⟨hU.mul _ u1 _ u2, fun a ha => ?_⟩
      obtain ⟨b, hb, e⟩ := n1 a ha
      obtain ⟨c, hc, e'⟩ := n2 b hb
      have px := hU.isP x u1
      have py := hU.isP y u2
      exact ⟨c, hc, by rw [← cmp_assoc px py, e, cmp_assoc (hK.isP b hb) py, e', ← cmp_assoc py (hK.isP c hc)]⟩
  have nN : N.Nodup := nU.filter _
  have subN : ∀ x ∈ K, x ∈ N := fun x hx => (memN x).mpr ⟨sub x hx, fun a ha => by
    obtain ⟨y, hy, e1, e2⟩ := hK.inv hx
    have p1 := hK.isP x hx
    have p2 := hK.isP y hy
    have p3 := hK.isP a ha
    exact ⟨cmp y (cmp a x), hK.mul _ hy _ (hK.mul _ ha _ hx), by rw [← cmp_assoc p2 (IsP.cmp p3 p1), e1, id_cmp (IsP.cmp p3 p1)]⟩⟩
  have NU : ∀ x ∈ N, x ∈ U := fun x hx => ((memN x).mp hx).1
  have hm0N : m0 ∈ N := (memN _).mpr ⟨hm0, nrm0⟩
  have lagN := lagrange hU hN nU nN NU
  obtain ⟨i, hi, _⟩ := two_dvd (a := N.length) (b := (dd (U.map (rep U N))).length) (lagN ▸ hk)
  have lag := lagrange hN hK nN nK subN
  let R := dd (N.map (rep N K))
  have hne : K.length ≠ N.length := fun e => by
    have p : K.Perm N := by
      refine (List.perm_ext_iff_of_nodup nK nN).mpr fun x => ⟨subN x, fun hx => ?_⟩
      refine Classical.byContradiction fun c => ?_
      have := nodup_sub (l := x :: K) (m := N) (List.nodup_cons.mpr ⟨c, nK⟩) fun y hy => by
        rcases List.mem_cons.mp hy with q | q
        · rw [q]; exact hx
        · exact subN y q
      rw [List.length_cons] at this
      omega
    exact out0 (p.mem_iff.mpr hm0N)
  have ev : 2 ∣ R.length := by
    obtain ⟨j, hj, _⟩ := two_dvd (a := R.length) (b := K.length) (k := i) (by rw [Nat.mul_comm, ← lag, hi])
    cases j with
    | zero => rw [show (dd (N.map (rep N K))).length = R.length from rfl, hj] at lag; simp at lag; omega
    | succ j => rw [hj, Nat.pow_succ]; exact Nat.dvd_mul_left 2 _
  refine Classical.byContradiction fun no => ?_
  let un : Option Pm → Pm := fun o => o.getD []
  have memR : ∀ o, o ∈ R ↔ ∃ x ∈ N, rep N K x = o := fun o => by
    show o ∈ dd _ ↔ _
    rw [mem_dd, List.mem_map]
  have un_ok : ∀ o ∈ R, un o ∈ N ∧ rep N K (un o) = o := fun o ho => by
    obtain ⟨x, hx, e⟩ := (memR o).mp ho
    obtain ⟨r, er, hr, c⟩ := rep_spec hN hK hx
    have : un o = r := by show o.getD [] = r; rw [← e, er]; rfl
    rw [this]
    exact ⟨hr, by rw [← e]; exact (rep_iff hN hK hx hr).mpr c⟩
  let J : Option Pm → Option Pm := fun o => rep N K (iv n (un o))
  have JR : ∀ o ∈ R, J o ∈ R := fun o ho => (memR _).mpr ⟨_, (iv_spec hN (un_ok o ho).1).1, rfl⟩
  -- inverses respect the cosets
  have ivc : ∀ x ∈ N, ∀ y ∈ N, InC K x y → InC K (iv n x) (iv n y) := fun x hx y hy h => by
    obtain ⟨k, hk, rfl⟩ := h
    obtain ⟨x1, x2, x3⟩ := iv_spec hN hx
    obtain ⟨y1, y2, y3⟩ := iv_spec hN hy
    obtain ⟨k1, hk1, f1, f2⟩ := hK.inv hk
    -- (x k)' = k' x' = x' b
    obtain ⟨b, hb, e⟩ := ((memN _).mp x1).2 k1 hk1
    refine ⟨b, hb, ?_⟩
    rw [← e]
    have px := hN.isP x hx
    have pk := hK.isP k hk
    have pk1 := hK.isP k1 hk1
    have pi := hN.isP _ x1
    refine cmp_canc (IsP.cmp px pk) (hN.isP _ y1) (IsP.cmp pk1 pi) ?_
    rw [y2, cmp_assoc pk (IsP.cmp pk1 pi), ← cmp_assoc pk1 pi (a := k), f1, id_cmp pi, x2]
  have ivv : ∀ x ∈ N, iv n (iv n x) = x := fun x hx => by
    obtain ⟨x1, x2, x3⟩ := iv_spec hN hx
    obtain ⟨z1, z2, z3⟩ := iv_spec hN x1
    exact cmp_canc (hN.isP _ x1) (hN.isP _ z1) (hN.isP x hx) (z2.trans x3.symm)
  have JJ : ∀ o ∈ R, J (J o) = o := fun o ho => by
    obtain ⟨u1, u2⟩ := un_ok o ho
    obtain ⟨v1, v2⟩ := un_ok (J o) (JR o ho)
    obtain ⟨w1, _, _⟩ := iv_spec hN u1
    have c := (rep_iff hN hK w1 v1).mp v2
    have c2 := ivc _ w1 _ v1 c
    rw [ivv _ u1] at c2
    show rep N K (iv n (un (J o))) = o
    rw [(rep_iff hN hK u1 (iv_spec hN v1).1).mpr c2, u2]
  have o1 : rep N K (List.range n) ∈ R := (memR _).mpr ⟨_, hN.one, rfl⟩
  have fixed : ∀ o ∈ R, o ≠ rep N K (List.range n) → J o ≠ o := fun o ho hne h => by
    obtain ⟨u1, u2⟩ := un_ok o ho
    obtain ⟨w1, w2, w3⟩ := iv_spec hN u1
    have c : InC K (un o) (iv n (un o)) := (rep_iff hN hK u1 w1).mp (h.trans u2.symm)
    obtain ⟨b, hb, e⟩ := c
    have pu := hN.isP _ u1
    obtain ⟨b', hb', f1, f2⟩ := hK.inv hb
    have pb := hK.isP b hb
    have pb' := hK.isP b' hb'
    refine no ⟨un o, NU _ u1, fun hin => hne ?_, ?_, nrm_turn hK pu ((memN _).mp u1).2⟩
    · rw [← u2]
      exact (rep_iff hN hK hN.one u1).mpr ⟨un o, hin, (id_cmp pu).symm⟩
    · -- x (x b) = 1
      rw [e] at w2
      have : cmp (un o) (un o) = b' := by
        have q : cmp (cmp (cmp (un o) (un o)) b) b' = b' := by
          rw [cmp_assoc pu pb, w2, id_cmp pb']
        rw [cmp_assoc pb pb', f1, cmp_id (IsP.cmp pu pu)] at q
        exact q
      rw [this]
      exact hb'
  have e : R.length = (R.filter fun o => decide (o = rep N K (List.range n))).length + (R.filter fun o => !decide (o = rep N K (List.range n))).length := len_split _ _
  have e1 : (R.filter fun o => decide (o = rep N K (List.range n))).length = 1 := by
    have : (R.filter fun o => decide (o = rep N K (List.range n))).Perm [rep N K (List.range n)] := (List.perm_ext_iff_of_nodup (nd_dd.filter _) (by simp)).mpr fun x => by
      rw [List.mem_filter, decide_eq_true_eq, List.mem_singleton]
      exact ⟨fun h => h.2, fun h => ⟨h ▸ o1, h⟩⟩
    rw [this.length_eq]; rfl
  have J1 : J (rep N K (List.range n)) = rep N K (List.range n) := by
    obtain ⟨u1, u2⟩ := un_ok _ o1
    have c := (rep_iff hN hK hN.one u1).mp u2
    have c2 := ivc _ hN.one _ u1 c
    have : iv n (List.range n) = List.range n := by
      obtain ⟨z1, z2, z3⟩ := iv_spec hN hN.one
      rw [id_cmp (hN.isP _ z1)] at z2
      exact z2
    rw [this] at c2
    exact (rep_iff hN hK hN.one (iv_spec hN u1).1).mpr c2
  have even : 2 ∣ (R.filter fun o => !decide (o = rep N K (List.range n))).length := by
    refine even_parts (fun o => dd [o, J o]) (fun r => nd_dd) _ _ (Nat.le_refl _) (nd_dd.filter _) (fun o ho => mem_dd.mpr (by simp)) (fun o ho s hs => ?_) (fun o ho s hs c t ht h => ?_) fun o ho => ?_
    · obtain ⟨h1, h2⟩ := List.mem_filter.mp ho
      have h2 : o ≠ rep N K (List.range n) := by simpa using h2
      have hs : s = o ∨ s = J o := by simpa using mem_dd.mp hs
      rcases hs with rfl | rfl
      · exact ho
      · refine List.mem_filter.mpr ⟨JR o h1, ?_⟩
        have : J o ≠ rep N K (List.range n) := fun z => h2 (by rw [← JJ o h1, z, J1])
        simpa using this
    · obtain ⟨h1, _⟩ := List.mem_filter.mp ho
      obtain ⟨h2, _⟩ := List.mem_filter.mp hs
      have ht : t = s ∨ t = J s := by simpa using mem_dd.mp ht
      have h : t = o ∨ t = J o := by simpa using mem_dd.mp h
      have c : ¬ (s = o ∨ s = J o) := fun z => c (mem_dd.mpr (by simpa using z))
      rcases ht with rfl | rfl
      · exact c h
      · rcases h with h | h
        · exact c (.inr (by rw [← h, JJ s h2]))
        · exact c (.inl (by rw [← JJ s h2, h, JJ o h1]))
    · obtain ⟨h1, h2⟩ := List.mem_filter.mp ho
      have h2 : o ≠ rep N K (List.range n) := by simpa using h2
      have := fixed o h1 h2
      have e : dd [o, J o] = [o, J o] := by
        simp only [dd, List.not_mem_nil, if_false, List.mem_singleton]
        rw [if_neg fun z => this z.symm]
      rw [e]
      exact ⟨1, rfl⟩
  have : 2 ∣ R.length := ev
  rw [e, e1] at this
  omega
/-- K and m together -/
theorem coset2 {K gs : List Pm} {m : Pm} (hK : Grp n K) (hm : IsP m n) (hd : Dbl K m) (hgs : AllP n gs) (hG : ∀ x, x ∈ K ↔ Gen n gs x) : ∀ x, x ∈ K ++ K.map (cmp m) ↔ Gen n (gs ++ [m]) x := by
  have hgm : AllP n (gs ++ [m]) := hgs.app fun x hx => by rw [List.mem_singleton.mp hx]; exact hm
  have up : ∀ x, x ∈ K → Gen n (gs ++ [m]) x := fun x hx => ((hG x).mp hx).mono hgm fun y hy => Gen.of hgm (List.mem_append_left _ hy)
  have nr := nrm_back hK hm hd.nrm
  intro x
  constructor
  · intro hx
    rcases List.mem_append.mp hx with q | q
    · exact up x q
    · obtain ⟨y, hy, rfl⟩ := List.mem_map.mp q
      exact .mul (by simp) (up y hy)
  · intro hx
    refine hx.least (List.mem_append_left _ hK.one) fun a ha x hx => ?_
    rcases List.mem_append.mp ha with qa | qa
    · have haK : a ∈ K := (hG a).mpr (Gen.of hgs qa)
      rcases List.mem_append.mp hx with q | q
      · exact List.mem_append_left _ (hK.mul _ haK _ q)
      · obtain ⟨y, hy, rfl⟩ := List.mem_map.mp q
        obtain ⟨b, hb, e⟩ := nr a haK
        have py := hK.isP y hy
        refine List.mem_append_right _ (List.mem_map.mpr ⟨cmp b y, hK.mul _ hb _ hy, ?_⟩)
        rw [← cmp_assoc (hK.isP b hb) py, ← e, cmp_assoc hm py]
    · rw [List.mem_singleton.mp qa]
      rcases List.mem_append.mp hx with q | q
      · exact List.mem_append_right _ (List.mem_map.mpr ⟨x, q, rfl⟩)
      · obtain ⟨y, hy, rfl⟩ := List.mem_map.mp q
        have py := hK.isP y hy
        rw [← cmp_assoc hm py]
        exact List.mem_append_left _ (hK.mul _ hd.sq _ hy)
theorem coset2_nodup {K : List Pm} {m : Pm} (hK : Grp n K) (hm : IsP m n) (hn : m ∉ K) (nd : K.Nodup) : (K ++ K.map (cmp m)).Nodup := by
  refine List.nodup_append.mpr ⟨nd, ?_, fun a ha b hb e => ?_⟩
  · rw [List.nodup_iff_pairwise_ne, List.pairwise_map]
    exact List.Pairwise.imp_of_mem (fun {a b} ha hb hab e => hab (cmp_canc hm (hK.isP a ha) (hK.isP b hb) e)) (List.nodup_iff_pairwise_ne.mp nd)
  · obtain ⟨y, hy, rfl⟩ := List.mem_map.mp hb
    subst e
    obtain ⟨y', hy', py', i1, i2⟩ := hK.invP hy
    have hY := hK.isP y hy
    refine hn ?_
    have e : cmp (cmp m y) y' = m := by
      refine pm_ext (IsP.cmp (IsP.cmp hm hY) py') hm fun i hi => ?_
      rw [g_cmpP py' hi, g_cmpP hY (py'.lt i hi), i1 i hi]
    rw [← e]
    exact hK.mul _ ha _ hy'
/-- the next table of the chain -/
structure Nx (U K : List Pm) (T : List Pm) : Prop where
  asc : Asc T
  ex : ∃ A m B, U = A ++ m :: B ∧ (∀ x ∈ A, ¬ Dbl K x) ∧ Dbl K m ∧ ∀ x, x ∈ T ↔ x ∈ K ++ K.map (cmp m)
theorem first_uniq {P : Pm → Prop} : ∀ {A A' B B' : List Pm} {m m' : Pm}, A ++ m :: B = A' ++ m' :: B' → (∀ x ∈ A, ¬ P x) → P m → (∀ x ∈ A', ¬ P x) → P m' → m = m'
  | [], [], _, _, _, _, h, _, _, _, _ => by injection h
  | [], a :: A', _, _, m, m', h, _, h2, h3, _ => by
    injection h with h1 _
    exact absurd (h1 ▸ h2) (h3 a List.mem_cons_self)
  | a :: A, [], _, _, m, m', h, h1, _, _, h4 => by
    injection h with e _
    exact absurd (e ▸ h4) (h1 a List.mem_cons_self)
  | a :: A, b :: A', _, _, m, m', h, h1, h2, h3, h4 => by
    injection h with _ h
    exact first_uniq h (fun x hx => h1 x (List.mem_cons_of_mem _ hx)) h2 (fun x hx => h3 x (List.mem_cons_of_mem _ hx)) h4
theorem Nx.uniq {U K T T' : List Pm} (a : Nx U K T) (b : Nx U K T') : T = T' := by
  obtain ⟨A, m, B, e, h1, h2, h3⟩ := a.ex
  obtain ⟨A', m', B', e', h1', h2', h3'⟩ := b.ex
  have : m = m' := first_uniq (e.symm.trans e') h1 h2 h1' h2'
  subst this
  exact asc_uniq a.asc b.asc fun x => by rw [h3, h3']
/-- k steps from K0 -/
inductive Ch (U K0 : List Pm) : Nat → List (List Pm) → List Pm → Prop
  | start : Ch U K0 0 [K0] K0
  | step {k cs K T} : Ch U K0 k cs K → Nx U K T → Ch U K0 (k + 1) (cs ++ [T]) T
theorem Ch.uniq {U K0 : List Pm} : ∀ {k : Nat} {cs cs' : List (List Pm)} {K K' : List Pm}, Ch U K0 k cs K → Ch U K0 k cs' K' → cs = cs' ∧ K = K'
  | 0, _, _, _, _, .start, .start => ⟨rfl, rfl⟩
  | k + 1, _, _, _, _, .step a b, .step a' b' => by
    obtain ⟨rfl, rfl⟩ := Ch.uniq a a'
    obtain rfl := b.uniq b'
    exact ⟨rfl, rfl⟩
theorem Nx.grp {U K T : List Pm} (hU : Grp n U) (hK : Grp n K) (nK : K.Nodup) (sub : ∀ x ∈ K, x ∈ U) (h : Nx U K T) : Grp n T ∧ T.Nodup ∧ (∀ x ∈ T, x ∈ U) ∧ T.length = 2 * K.length := by
  obtain ⟨A, m, B, e, h1, h2, h3⟩ := h.ex
  have hmU : m ∈ U := by rw [e]; simp
  have pm := hU.isP m hmU
  have hG : ∀ x, x ∈ K ↔ Gen n K x := fun x => ⟨fun hx => Gen.of hK.isP hx, fun hx => hK.gen (fun _ h => h) hx⟩
  have c2 := coset2 hK pm h2 hK.isP hG
  have pp : AllP n (K ++ [m]) := hK.isP.app fun x hx => by rw [List.mem_singleton.mp hx]; exact pm
  have clo : IsClo n (K ++ [m]) T := ⟨h.asc.nd, fun x => by rw [h3, c2]⟩
  have nd2 := coset2_nodup hK pm h2.out nK
  refine ⟨clo.grp pp, h.asc.nd, fun x hx => hU.gen (fun y hy => (List.mem_append.mp hy).elim (sub y) fun q => by rw [List.mem_singleton.mp q]; exact hmU) ((clo.iff x).mp hx), ?_⟩
  have : T.Perm (K ++ K.map (cmp m)) := (List.perm_ext_iff_of_nodup h.asc.nd nd2).mpr h3
  rw [this.length_eq, List.length_append, List.length_map]
  omega
theorem Ch.facts {U K0 : List Pm} (hU : Grp n U) (h0 : Grp n K0) (n0 : K0.Nodup) (s0 : ∀ x ∈ K0, x ∈ U) (a0 : Asc K0) : ∀ {k : Nat} {cs : List (List Pm)} {K : List Pm}, Ch U K0 k cs K → Grp n K ∧ K.Nodup ∧ (∀ x ∈ K, x ∈ U) ∧ K.length = 2 ^ k * K0.length ∧ Asc K ∧ cs.length = k + 1 ∧ cs[k]? = some K ∧ (∀ T ∈ cs, (∀ x ∈ T, x ∈ U) ∧ T.Nodup)
  | 0, _, _, .start => ⟨h0, n0, s0, by simp, a0, rfl, rfl, fun T hT => by rw [List.mem_singleton.mp hT]; exact ⟨s0, n0⟩⟩
  | k + 1, _, _, .step (cs := cs) (K := K) (T := T) a b => by
    obtain ⟨c1, c2, c3, c4, _, c6, _, c8⟩ := Ch.facts hU h0 n0 s0 a0 a
    obtain ⟨d1, d2, d3, d4⟩ := b.grp hU c1 c2 c3
    refine ⟨d1, d2, d3, by rw [d4, c4, Nat.pow_succ, ← Nat.mul_assoc, Nat.mul_comm 2], b.asc, by simp [c6], by rw [List.getElem?_append_right (by omega), c6]; simp, fun T' hT' => ?_⟩
    rcases List.mem_append.mp hT' with q | q
    · exact c8 T' q
    · rw [List.mem_singleton.mp q]; exact ⟨d3, d2⟩
theorem same_len {K U : List Pm} (nK : K.Nodup) (sub : ∀ x ∈ K, x ∈ U) (h : U.length ≤ K.length) : ∀ x ∈ U, x ∈ K := fun x hx => by
  refine Classical.byContradiction fun c => ?_
  have := nodup_sub (l := x :: K) (m := U) (List.nodup_cons.mpr ⟨c, nK⟩) fun y hy => by
    rcases List.mem_cons.mp hy with q | q
    · rw [q]; exact hx
    · exact sub y q
  rw [List.length_cons] at this
  omega
end
end GP

namespace DL
open PySem PySem.Spec PyProof.Rows L2
/-! ### a def with one parameter that is given by its name alone, or left out (then None) -/
section
variable {X : Cx} {k n : Nat} {f : Addr} {fd : FuncData} {ps : List Str} {x y : Str} {p pos : Pos} {e : Expr} {es : List Expr} {kws : List Keyword} {t tk : TA} {sp : Sp} {g : FD} {da : RL} {de : RE}
theorem pe_callG0 (F : FnG X.prog X.w X.K X.mg X.base k f fd ps sp) (gA : X.A.guards = some []) (room : Room k X.A) (hg : Gl X x) (hm : X.mg x = some (.ref f)) (hk : PySem.W.keepIn X.K (.ref f) = true) (hb : Binds X.K fd ps [.none])
    (ha : PA X (e :: es) t) (hdb : (x == ("__debug__" : Str)) = false := by decide) (he : starEach (e :: es) X.env = (false, eval e X.env) :: starEach es X.env := by rfl) (hpl : (backTo pos (starEach es X.env)).any (·.1) = false := by rfl) :
    PE X (.Call (.Name x p) (e :: es) [] pos) (tCall sp [.non] (fun _ _ _ => False) t) := by
  constructor
  intro pins s σ H Q I h
  refine wpAny_Call_Name_kw (ld_glob I hg hm (PySem.W.callWith_K (h₀ := X.base) I.ok.mod.kin hk (thn (ha.run pos pins s σ H _ I h) ?_) he hpl) hdb)
  rintro us s1 ⟨vs, H1, J, r, q⟩
  refine ⟨J.kIn, ?_⟩
  have r2 : Vals (vs ++ [V.non]) (us ++ [Value.none]) := r.append (.cons rfl .nil)
  have hl : (us ++ ([.none] : List Value)).length = ps.length := by rw [← r2.length]; exact F.len _ _ _ _ q
  have hbb := hb s1 us J.kIn hl
  refine wpAny_call (codeAny_mono (F.run X.A X.stack s1 H1 ⟨us, []⟩ (us ++ [.none]) (vs ++ [.non]) Q _ gA room J.env0 hbb r2 q) ?_)
  intro r' s' hq
  match r', hq with
  | .ok (.ret u), hq => exact J.after hq
  | .error e, hq => exact (pass0 pins σ H1 s1 e s' J hq)
theorem pe_callGK (F : FnG X.prog X.w X.K X.mg X.base k f fd ps sp) (gA : X.A.guards = some []) (room : Room k X.A) (hg : Gl X x) (hm : X.mg x = some (.ref f)) (hk : PySem.W.keepIn X.K (.ref f) = true) (hb : KBn X.K fd ps n [y] (fun us ws => us ++ ws) (fun vs zs => vs ++ zs))
    (ha : PA X (e :: es) t) (hkw : PK X kws tk) (hall : (backToKw pos (keywordEach kws X.env)).all (·.1.isSome) = true := by rfl) (hks : (backToKw pos (keywordEach kws X.env)).filterMap (·.1) = [y] := by rfl)
    (hdb : (x == ("__debug__" : Str)) = false := by decide) (he : starEach (e :: es) X.env = (false, eval e X.env) :: starEach es X.env := by rfl)
    (hpl : ((backTo pos (starEach (e :: es) X.env)).any (·.1) || (backToKw pos (keywordEach kws X.env)).any (·.1.isNone)) = false := by rfl) :
    PE X (.Call (.Name x p) (e :: es) kws pos) (tCallN n 1 sp (fun vs zs => vs ++ zs) (fun _ _ _ => False) t tk) := by
  refine ⟨fun pins s σ H Q I h => ?_⟩
  refine wpAny_Call_Name_kw (ld_glob I hg hm ?_ hdb)
  refine PySem.W.callWith_KW (h₀ := X.base) I.ok.mod.kin hk hall (thn (ha.run pos pins s σ H _ I h) fun us s1 ⟨vs, H1, I1, r, q⟩ => ?_) hpl he
  refine thn (hkw.run pos pins s1 σ H1 _ I1 q) fun ws s2 ⟨zs, H2, I2, rz, l1, l2, q2⟩ => ⟨I2.kIn, ?_⟩
  rw [hks]
  have r2 := hb.rel r rz
  refine wpAny_call (codeAny_mono (F.run X.A X.stack s2 H2 ⟨us, [y].zip ws⟩ (us ++ ws) (vs ++ zs) Q _ gA room I2.env0 (hb.to s2 us ws I2.kIn (r.length.symm.trans l1) (rz.length.symm.trans l2)) r2 q2) ?_)
  intro r' s' hq
  match r', hq with
  | .ok (.ret u), hq => exact I2.after hq
  | .error e, hq => exact (pass0 pins σ H2 s2 e s' I2 hq)
def dFn0 (g : FD) (da : RL) : RE := fun ρ q => da ρ fun xs => g (xs ++ [.none]) fun r => q (valD r)
def dFnK (g : FD) (da : RL) (de : RE) : RE := fun ρ q => da ρ fun xs => de ρ fun d => g (xs ++ [d]) fun r => q (valD r)
theorem sim_fn0 {K : Frag} {ta : TA} {n : Nat} (ha : SimA K n ta da) : SimE K (tCall (SpD K (n + 1) g) [.non] (fun _ _ _ => False) ta) (dFn0 g da) := fun B F H ρ σ Ev q hq Q k =>
  ha B F H ρ σ Ev _ hq _ fun vs ds F1 H1 g1 r ln z => by
    refine ⟨F1, ds ++ [.none], _, g1.fh, by rw [List.length_append, r.length, ln]; rfl, r.append (.cons .non .nil), z, fun r' qr v F2 H2 g2 rr => ?_⟩
    cases r' with
    | val d => exact k v d F2 H2 (g1.trans g2) rr qr
    | own ds' =>
      obtain ⟨p, us, rfl, hb, hf, hh, ha'⟩ := rr
      have gf := gr_frz g2 hb hf hh
      exact k (.ref p) (.list ds') _ H2 (g1.trans gf) (.lst (.inl (.inl upd_same)) (ha'.mono (same_new hf))) qr
    | tks ks => exact rr.elim
theorem sim_fnK {K : Frag} {ta : TA} {te : TE} {n : Nat} (ha : SimA K n ta da) (he : SimE K te de) : SimE K (tCallN n 1 (SpD K (n + 1) g) (fun vs zs => vs ++ zs) (fun _ _ _ => False) ta (tCons te tNil)) (dFnK g da de) := fun B F H ρ σ Ev q hq Q k =>
  ha B F H ρ σ Ev _ hq _ fun vs ds F1 H1 g1 r ln z => he B F1 H1 ρ σ (Ev.grow g1) _ z _ fun v0 d0 F2 H2 g2 dp z2 => by
    refine ⟨by rw [r.length, ln], rfl, F2, ds ++ [d0], _, g2.fh, by rw [List.length_append, r.length, ln]; rfl, (r.mono g2.ff).append (.cons dp .nil), z2, fun r' qr v F3 H3 g3 rr => ?_⟩
    cases r' with
    | val d => exact k v d F3 H3 ((g1.trans g2).trans g3) rr qr
    | own ds' =>
      obtain ⟨p, us, rfl, hb, hf, hh, ha'⟩ := rr
      have gf := gr_frz g3 hb hf hh
      exact k (.ref p) (.list ds') _ H3 ((g1.trans g2).trans gf) (.lst (.inl (.inl upd_same)) (ha'.mono (same_new hf))) qr
    | tks ks => exact rr.elim
end
/-- such a def that stands ready: n parameters, then the one by its name y -/
structure ReadyK (P : Program) (w : World) (K : Frag) (mg : Str → Option Value) (base : Heap) (x : Str) (n : Nat) (y : Str) (k : Nat) (g : FD) : Prop where
  ex : ∃ f fd ps, FnG P w K mg base k f fd ps (SpD K (n + 1) g) ∧ mg x = some (.ref f) ∧ PySem.W.keepIn K (.ref f) = true ∧ Binds K fd ps [.none] ∧ KBn K fd ps n [y] (fun us ws => us ++ ws) (fun vs zs => vs ++ zs)
section
variable {X : Cx} {k n : Nat} {x y : Str} {p pos kpos : Pos} {e a : Expr} {es : List Expr} {g : FD} {da : RL} {de : RE}
theorem ReadyK.to0 (G : ReadyK X.prog X.w X.K X.mg X.base x (e :: es).length y k g) (gA : X.A.guards = some []) (hr : Room k X.A) (ha : DA X (e :: es) da) (hg : Gl X x := by rfl)
    (hdb : (x == ("__debug__" : Str)) = false := by decide) (he : starEach (e :: es) X.env = (false, eval e X.env) :: starEach es X.env := by rfl) (hpl : (backTo pos (starEach es X.env)).any (·.1) = false := by rfl) : DE X (.Call (.Name x p) (e :: es) [] pos) (dFn0 g da) := by
  obtain ⟨f, fd, ps, G1, hm, hk, hb, _⟩ := G.ex
  obtain ⟨ta, a1, a2⟩ := ha
  exact ⟨_, pe_callG0 G1 gA hr hg hm hk hb a1 hdb he hpl, sim_fn0 a2⟩
theorem ReadyK.toK (G : ReadyK X.prog X.w X.K X.mg X.base x (e :: es).length y k g) (gA : X.A.guards = some []) (hr : Room k X.A) (ha : DA X (e :: es) da) (hd : DE X a de) (hg : Gl X x := by rfl)
    (hall : (backToKw pos (keywordEach [⟨some y, a, kpos⟩] X.env)).all (·.1.isSome) = true := by rfl) (hks : (backToKw pos (keywordEach [⟨some y, a, kpos⟩] X.env)).filterMap (·.1) = [y] := by rfl)
    (hdb : (x == ("__debug__" : Str)) = false := by decide) (he : starEach (e :: es) X.env = (false, eval e X.env) :: starEach es X.env := by rfl)
    (hpl : ((backTo pos (starEach (e :: es) X.env)).any (·.1) || (backToKw pos (keywordEach [⟨some y, a, kpos⟩] X.env)).any (·.1.isNone)) = false := by rfl) : DE X (.Call (.Name x p) (e :: es) [⟨some y, a, kpos⟩] pos) (dFnK g da de) := by
  obtain ⟨f, fd, ps, G1, hm, hk, _, hb⟩ := G.ex
  obtain ⟨ta, a1, a2⟩ := ha
  obtain ⟨te, e1, e2⟩ := hd
  exact ⟨_, pe_callGK G1 gA hr hg hm hk hb a1 (pk_cons e1 pk_nil) hall hks hdb he hpl, sim_fnK a2 e2⟩
theorem ReadyK.mono {P : Program} {w : World} {K : Frag} {mg : Str → Option Value} {base : Heap} {x y : Str} {n k j : Nat} {g : FD} (G : ReadyK P w K mg base x n y k g) (h : k ≤ j) : ReadyK P w K mg base x n y j g := by
  obtain ⟨f, fd, ps, G1, hm, hk, hb⟩ := G.ex
  exact ⟨f, fd, ps, G1.mono h, hm, hk, hb⟩
end
end DL

namespace GP
open PM
section
variable {n : Nat}
/-- a proper part of a 2-group lies in half of the group -/
theorem half_ex {U : List Pm} {k : Nat} (hU : Grp n U) (nU : U.Nodup) (hk : U.length = 2 ^ k) : ∀ (w : Nat) (K : List Pm), U.length - K.length ≤ w → Grp n K → K.Nodup → (∀ x ∈ K, x ∈ U) → K.length < U.length → ∃ H, Grp n H ∧ H.Nodup ∧ (∀ x ∈ H, x ∈ U) ∧ (∀ x ∈ K, x ∈ H) ∧ 2 * H.length = U.length
  | 0, K, hw, _, _, _, hlt => by omega
  | w + 1, K, hw, hK, nK, sub, hlt => by
    by_cases c : 2 * K.length = U.length
    · exact ⟨K, hK, nK, sub, fun x h => h, c⟩
    · obtain ⟨m, hm, hd⟩ := dbl_exists hU hK nU nK sub hk hlt
      have pm := hU.isP m hm
      have hG : ∀ x, x ∈ K ↔ Gen n K x := fun x => ⟨fun hx => Gen.of hK.isP hx, fun hx => hK.gen (fun _ h => h) hx⟩
      have c2 := coset2 hK pm hd hK.isP hG
      have pp : AllP n (K ++ [m]) := hK.isP.app fun x hx => by rw [List.mem_singleton.mp hx]; exact pm
      have nd2 := coset2_nodup hK pm hd.out nK
      have clo : IsClo n (K ++ [m]) (K ++ K.map (cmp m)) := ⟨nd2, fun x => by rw [c2]⟩
      have g2 := clo.grp pp
      have l2 : (K ++ K.map (cmp m)).length = 2 * K.length := by rw [List.length_append, List.length_map]; omega
      have lag := lagrange hU hK nU nK sub
      have pos := List.length_pos_of_mem hK.one
      obtain ⟨i, hi, hik⟩ := two_dvd (lag ▸ hk)
      have lt2 : 2 * K.length < U.length := by
        rcases Nat.lt_or_ge (i + 1) k with z | z
        · have := Nat.pow_lt_pow_right (show 1 < 2 by decide) z
          rw [Nat.pow_succ] at this
          omega
        · have e1 : i ≠ k := fun e => by rw [e] at hi; omega
          have : k = i + 1 := by omega
          subst this
          rw [Nat.pow_succ] at hk
          omega
      obtain ⟨H, a1, a2, a3, a4, a5⟩ := half_ex hU nU hk w (K ++ K.map (cmp m)) (by omega) g2 nd2 (fun x hx => hU.gen (fun y hy => (List.mem_append.mp hy).elim (sub y) fun q => by rw [List.mem_singleton.mp q]; exact hm) ((clo.iff x).mp hx)) (by omega)
      exact ⟨H, a1, a2, a3, fun x hx => a4 x (List.mem_append_left _ hx), a5⟩
/-- half of a group has all squares -/
theorem half_sq {U H : List Pm} (hU : Grp n U) (hH : Grp n H) (nH : H.Nodup) (sub : ∀ x ∈ H, x ∈ U) (hl : 2 * H.length = U.length) : ∀ x ∈ U, cmp x x ∈ H := fun x hx => by
  by_cases c : x ∈ H
  · exact hH.mul _ c _ c
  · have px := hU.isP x hx
    have nd := coset2_nodup hH px c nH
    have all := same_len nd (U := U) (fun y hy => by
      rcases List.mem_append.mp hy with q | q
      · exact sub y q
      · obtain ⟨z, hz, rfl⟩ := List.mem_map.mp q
        exact hU.mul _ hx _ (sub z hz)) (by rw [List.length_append, List.length_map]; omega) (cmp x x) (hU.mul _ hx _ hx)
    rcases List.mem_append.mp all with q | q
    · exact q
    · obtain ⟨z, hz, e⟩ := List.mem_map.mp q
      have := cmp_canc px (hH.isP z hz) px e
      exact absurd (this ▸ hz) c
/-! ### ladders -/
def Fixes (R : List Pm) (pt : Nat) : Prop := ∀ m ∈ R, g m pt = pt
def sqs (R : List Pm) (mo : Option Pm) : List Pm := (R.map fun m => cmp m m) ++ mo.toList
/-- a rung: a 2-group of at most 2^k members that has the mirror -/
structure Rung (n pt : Nat) (mo : Option Pm) (k : Nat) (R : List Pm) : Prop where
  grp : Grp n R
  asc : Asc R
  two : ∃ j, R.length = 2 ^ j ∧ j ≤ k
  mir : ∀ m, mo = some m → m ∈ R ∧ g m pt = pt ∧ cmp m m = List.range n
theorem Rung.sub {pt k : Nat} {mo : Option Pm} {R : List Pm} (h : Rung n pt mo k R) : ∀ x ∈ sqs R mo, x ∈ R := fun x hx => by
  rcases List.mem_append.mp hx with q | q
  · obtain ⟨y, hy, rfl⟩ := List.mem_map.mp q
    exact h.grp.mul _ hy _ hy
  · cases mo with
    | none => simp at q
    | some m =>
      have : x = m := by simpa using q
      rw [this]
      exact (h.mir m rfl).1
theorem Rung.isP {pt k : Nat} {mo : Option Pm} {R : List Pm} (h : Rung n pt mo k R) : AllP n (sqs R mo) := fun x hx => h.grp.isP x (h.sub x hx)
/-- the mirror and the identity -/
theorem mir_grp {pt : Nat} {mo : Option Pm} {R : List Pm} (hp : pt < n) (hR : Grp n R) (hm : ∀ m, mo = some m → m ∈ R ∧ g m pt = pt ∧ cmp m m = List.range n) : ∃ K, Grp n K ∧ K.Nodup ∧ (∀ x ∈ K, x ∈ R) ∧ Fixes K pt ∧ ∀ m, mo = some m → m ∈ K := by
  have base : Grp n [List.range n] := ⟨by simp, fun x hx => by rw [List.mem_singleton.mp hx]; exact isP_range n, fun x hx y hy => by
    rw [List.mem_singleton.mp hx, List.mem_singleton.mp hy, id_cmp (isP_range n)]; simp⟩
  by_cases c : ∃ m, mo = some m ∧ m ≠ List.range n
  · obtain ⟨m, e, hne⟩ := c
    obtain ⟨h1, h2, h3⟩ := hm m e
    have pm := hR.isP m h1
    refine ⟨[List.range n, m], ⟨by simp, fun x hx => ?_, fun x hx y hy => ?_⟩, by simp [Ne.symm hne], fun x hx => ?_, fun x hx => ?_, fun m' e' => ?_⟩
    · rcases List.mem_cons.mp hx with q | q
      · rw [q]; exact isP_range n
      · rw [List.mem_singleton.mp q]; exact pm
    · rcases List.mem_cons.mp hx with q | q <;> rcases List.mem_cons.mp hy with r | r
      · rw [q, r, id_cmp (isP_range n)]; simp
      · rw [q, List.mem_singleton.mp r, id_cmp pm]; simp
      · rw [r, List.mem_singleton.mp q, cmp_id pm]; simp
      · rw [List.mem_singleton.mp q, List.mem_singleton.mp r, h3]; simp
    · rcases List.mem_cons.mp hx with q | q
      · rw [q]; exact hR.one
      · rw [List.mem_singleton.mp q]; exact h1
    · rcases List.mem_cons.mp hx with q | q
      · rw [q]; exact g_range hp
      · rw [List.mem_singleton.mp q]; exact h2
    · rw [e] at e'
      injection e' with e'
      rw [← e']; simp
  · refine ⟨[List.range n], base, by simp, fun x hx => by rw [List.mem_singleton.mp hx]; exact hR.one, fun x hx => by rw [List.mem_singleton.mp hx]; exact g_range hp, fun m e => ?_⟩
    by_cases d : m = List.range n
    · rw [d]; simp
    · exact absurd ⟨m, e, d⟩ c
theorem Rung.next {pt k : Nat} {mo : Option Pm} {R T : List Pm} (hp : pt < n) (h : Rung n pt mo k R) (hf : ¬ Fixes R pt) (hT : IsTab n (sqs R mo) T) : ∃ k', k = k' + 1 ∧ Rung n pt mo k' T := by
  obtain ⟨j, hj, hjk⟩ := h.two
  obtain ⟨K, k1, k2, k3, k4, k5⟩ := mir_grp hp h.grp h.mir
  have hlt : K.length < R.length := by
    refine Classical.byContradiction fun c => hf fun m hm => k4 m (same_len k2 k3 (by omega) m hm)
  obtain ⟨H, a1, a2, a3, a4, a5⟩ := half_ex h.grp h.asc.nd hj _ K (Nat.le_refl _) k1 k2 k3 hlt
  have hs := half_sq h.grp a1 a2 a3 a5
  have sH : ∀ x ∈ sqs R mo, x ∈ H := fun x hx => by
    rcases List.mem_append.mp hx with q | q
    · obtain ⟨y, hy, rfl⟩ := List.mem_map.mp q
      exact hs y hy
    · cases mo with
      | none => simp at q
      | some m =>
        have : x = m := by simpa using q
        rw [this]
        exact a4 m (k5 m rfl)
  have gT := hT.grp h.isP
  have TH : ∀ x ∈ T, x ∈ H := fun x hx => a1.gen sH ((hT.iff x).mp hx)
  have TR : ∀ x ∈ T, x ∈ R := fun x hx => a3 x (TH x hx)
  have le := nodup_sub hT.asc.nd TH
  have lag := lagrange h.grp gT h.asc.nd hT.asc.nd TR
  obtain ⟨i, hi, hij⟩ := two_dvd (lag ▸ hj)
  have hij2 : i < j := by
    refine Classical.byContradiction fun z => ?_
    have : i = j := by omega
    subst this
    have := Nat.two_pow_pos i
    omega
  refine ⟨k - 1, by omega, gT, hT.asc, ⟨i, hi, by omega⟩, fun m e => ⟨(hT.iff m).mpr (Gen.of h.isP ?_), (h.mir m e).2⟩⟩
  subst e
  exact List.mem_append_right _ (by simp)
theorem Rung.len {pt k : Nat} {mo : Option Pm} {R : List Pm} (h : Rung n pt mo k R) (hk : k ≤ 7) : R.length ≤ 128 := by
  obtain ⟨j, hj, hjk⟩ := h.two
  rw [hj]
  exact Nat.pow_le_pow_right (show 0 < 2 by decide) (show j ≤ 7 by omega)
/-- the ladder from a table -/
inductive Lad (n pt : Nat) (mo : Option Pm) : List Pm → List (List Pm) → Prop
  | stop {R} : Fixes R pt → Lad n pt mo R [R]
  | step {R T cs} : ¬ Fixes R pt → IsTab n (sqs R mo) T → Lad n pt mo T cs → Lad n pt mo R (R :: cs)
theorem Lad.uniq {pt : Nat} {mo : Option Pm} : ∀ {R : List Pm} {cs cs' : List (List Pm)}, Lad n pt mo R cs → Lad n pt mo R cs' → cs = cs'
  | _, _, _, .stop _, .stop _ => rfl
  | _, _, _, .stop h, .step h' _ _ => absurd h h'
  | _, _, _, .step h _ _, .stop h' => absurd h' h
  | _, _, _, .step _ a b, .step _ a' b' => by
    obtain rfl := a.uniq a'
    rw [Lad.uniq b b']
theorem Lad.facts {pt : Nat} {mo : Option Pm} (hp : pt < n) : ∀ {R : List Pm} {cs : List (List Pm)} {k : Nat}, Lad n pt mo R cs → Rung n pt mo k R → k ≤ 7 → cs.length ≤ k + 1 ∧ ∀ T ∈ cs, T.length ≤ 128 ∧ AllP n T
  | _, _, k, .stop _, h, hk => ⟨by simp, fun T hT => by rw [List.mem_singleton.mp hT]; exact ⟨h.len hk, h.grp.isP⟩⟩
  | _, _, k, .step (cs := cs) hf a b, h, hk => by
    obtain ⟨k', rfl, h'⟩ := h.next hp hf a
    obtain ⟨f1, f2⟩ := Lad.facts hp b h' (by omega)
    refine ⟨by rw [List.length_cons]; omega, fun T hT => ?_⟩
    rcases List.mem_cons.mp hT with q | q
    · rw [q]; exact ⟨h.len hk, h.grp.isP⟩
    · exact f2 T q
end
end GP

namespace DL
open PySem PySem.Spec PyProof.Rows L2
/-! ### sets of whole numbers by a comprehension; sorted(..) of them -/
section
variable {P : Program} {w : World} {A : Around} {E : Value → Shared → Prop} {s : Shared} {a : Addr}
/-- sorted(set), any number of members -/
theorem sorted_setN {S : Int → Bool} {n : Nat} {Q : Value → Shared → Prop} (RR : SetR w s.heap a S n) (hhd : A.handled = none) (hzn : n ≤ sizeLine)
    (hK : ∀ (t' : Shared) (pp : Addr) (oo : Array Value) (cc : Nat) (ms : List Int), (∀ b o, s.heap.get? b = some o → t'.heap.get? b = some o) → t'.gens = s.gens → t'.os = s.os → s.heap.objs.size ≤ pp →
      t'.heap.get? pp = some (seqObj "list" oo cc) → IntsAre oo.toList ms → ms.Pairwise (· < ·) → (∀ k, k ∈ ms ↔ S k = true) → ms.length = n → Q (.ref pp) t') :
    wpAny (model P w) A (call (.builtin "sorted") [.ref a]) Q E s := by
  obtain ⟨ob, ens, epo, tb, hob, hexa, hda, gd, ndp, hmm, hbb, hfi, hnn, hri, hle⟩ := RR
  refine Calls.call_function_entry kind_sorted plain_sorted entry_sorted (args_sorted1 _) ?_
  unfold Builtin.«sorted»
  refine wpAny_bind (m := checkCount "sorted" 1 1 _) (wpAny_pure ?_)
  refine wpAny_bind (collect_set (A := A.in1) hhd ⟨ob, hob, hexa.1, hda⟩ hfi hbb hri hle fun u1 ws kp1 hzz g1 o1 pmm => ?_)
  have hwl : ws.length = n := by rw [pmm.length_eq, List.length_map, Array.length_toList]; exact hnn
  have hIn : IntsAre ws (ws.map Builtin.Re.reRawOf) := ints_of ws fun v hv => by
    obtain ⟨en, hen, qe⟩ := List.mem_map.mp (pmm.mem_iff.mp hv)
    obtain ⟨k, kt, h1, _⟩ := gd en hen
    exact ⟨k, kt, by rw [← qe]; exact h1⟩
  have pkk : (ws.map Builtin.Re.reRawOf).Perm (ens.toList.map keyOf) := by
    have q := pmm.map Builtin.Re.reRawOf
    rw [List.map_map] at q
    exact q
  have hwz : ws.length ≤ sizeLine := by rw [hwl]; exact hzn
  refine wpAny_bind (wpAny_newList ?_ hwz)
  have hLo : (u1.heap.push (seqObj "list" ws.toArray 0)).get? u1.heap.objs.size = some (seqObj "list" ws.toArray 0) := Heap.get?_push_size _ rfl
  refine wpAny_bind (wpAny_holding (wpAny_call_entry slot_list_sort ⟨_, hLo, rfl⟩ entry_list_sort (SrtO.list_sort_ord SrtO.swo_int hLo hwz (fun h2 => SrtO.ints_sortable hIn h2) fun out b1 b2 => ⟨_, rfl, ?_⟩) (args_list_sort _)))
  obtain ⟨k1, k2, k3⟩ := SrtO.ints_out hIn b1 b2
  obtain ⟨c, hcc⟩ := sortedHeap_at (vs := ws) (out := out.toArray) hLo
  have pnn : (out.map SrtO.iv).Perm (ens.toList.map keyOf) := k2.trans pkk
  refine wpAny_pure ⟨_, rfl, hK _ u1.heap.objs.size out.toArray c (out.map SrtO.iv) (fun b u e => ?_) g1 o1 hzz hcc (by simpa using k1) (lt_of_le_nodup _ k3 (pnn.nodup_iff.mpr ndp)) (fun k => by rw [pnn.mem_iff, ← hmm k]) ?_⟩
  · have q := kp1 b u e
    have hls := Heap.lt_size q
    show (sortedHeap (u1.heap.push (seqObj "list" ws.toArray 0)) u1.heap.objs.size ws out.toArray).get? b = some u
    rw [sortedHeap_old (Nat.ne_of_lt hls) (by rw [size_push']; exact Nat.lt_succ_of_lt hls)]
    exact Heap.get?_push_of_some _ q
  · rw [pnn.length_eq, List.length_map, Array.length_toList]; exact hnn
end
section
variable {X : Cx} {pos : Pos}
def rSortedSN (w : World) : List V → Hp → VK → Prop := fun vs H Q => ∃ (a : Addr) (S : Int → Bool) (n : Nat), vs = [V.ref a] ∧ H a = some (SetO w a S n) ∧ n ≤ sizeLine ∧
  ∀ (ms : List Int) (p : Addr), ms.Pairwise (· < ·) → (∀ k : Int, k ∈ ms ↔ S k = true) → H p = none → Q (.ref p) (upd H p (.lst (ms.map V.int)))
theorem cr_sortedSN (hcm : X.calm = true) : CallR X (.builtin "sorted") (rSortedSN X.w) := by
  intro pins s σ H vs us Q I r h
  obtain ⟨a, S, n, rfl, ha, hzn, q⟩ := h
  have RR := setO_get I ha
  rw [Vals.ref1 r]
  refine sorted_setN RR (I.ok.hd hcm) hzn fun t' pp oo c ms kk gg oe hpp hgt hii hss hmm hll => ?_
  have hlen : (ms.map V.int).length ≤ sizeLine := by rw [List.length_map, hll]; exact hzn
  have hpn : H pp = none := I.hok.fresh hpp
  have JJ : Inv X pins σ (upd H pp (.lst (ms.map V.int))) { s with heap := t'.heap, gens := t'.gens, drawn := t'.drawn, toks := t'.toks } :=
    I.call (ch := []) (Un.laid kk hpp hpn) (I.hok.laid kk hpp ⟨hlen, oo.toList, c, vals_of_ints hii, hgt⟩) (by rw [gg]; exact I.bare) (fun _ z => nomatch z)
  have et : t' = { s with heap := t'.heap, gens := t'.gens, drawn := t'.drawn, toks := t'.toks } := by
    cases t'
    cases s
    cases oe
    rfl
  rw [et]
  exact ⟨.ref pp, _, JJ, rfl, q ms pp hss hmm hpn⟩
/-- {x for ..}, whole numbers -/
def tScN (w : World) (wi : TI) (g : TG) (tt : TT) (tk : TE) (vs : List Nat) : TE := fun σ H Q => wi σ H fun J H1 => ∀ D, H1 D = none → ∃ W : Nat → Nat → Hp → Prop, (∃ m, W 0 m (upd H1 D (SetO w D (fun _ => false) 0))) ∧ ∀ i m H, W i m H →
  (J.stop i H ∧ Q (.ref D) H) ∨ (J.go i H ∧ ∃ Nx : Hp → Prop, (∀ H', Nx H' → ∃ m', m' < m ∧ W (i + 1) m' H') ∧ ∀ x H', J.yld i H x H' → g x (wipe σ vs) H' fun σ2 H2 => wipe σ2 vs = wipe σ vs ∧ tt σ2 H2 fun b H3 =>
    if b = true then tk σ2 H3 fun y H4 => ∃ (k : Int) (S : Int → Bool) (n : Nat), y = .int k ∧ H4 D = some (SetO w D S n) ∧ n + 1 < scanBound ∧ Nx (upd H4 D (SetO w D (fun j => S j || decide (j = k)) (if S k = true then n else n + 1))) else Nx H3)
theorem scn_core {pins : List (Addr × Obj)} {s : Shared} {σ : L2.St} {H : Hp} {Q : VK} {kx tg iter : Expr} {ifs : List Expr} {scope : Scope} {own : List (Str × Nat)} {pos pos' : Pos} {wj : TI} {g : TG} {tt : TT} {tk : TE} {use : Option (Value → Sem Unit)} {Qf : Value → Shared → Prop}
    (hc : X.calm = true) (hN : X.N.Nodup) (I : Inv X pins σ H s) (hi : PI X tg iter wj) (okb : BlkOk X.N X.env.scope scope own)
    (hg : ∀ (s : Shared) (H : Hp) (C : Addr) (cl : List (Str × Addr)) (fp : List Addr), PG (X.blk s H scope (compEnvC scope cl C X.env) fp) tg g) (ht : ∀ (s : Shared) (H : Hp) (C : Addr) (cl : List (Str × Addr)) (fp : List Addr), PTs (X.blk s H scope (compEnvC scope cl C X.env) fp) ifs tt)
    (hk : ∀ (s : Shared) (H : Hp) (C : Addr) (cl : List (Str × Addr)) (fp : List Addr), PE (X.blk s H scope (compEnvC scope cl C X.env) fp) kx tk)
    (hs : ∀ x, foldedSetIterable iter X.env x = pure x)
    (h : tScN X.w wj g tt tk (own.map (·.2)) σ H Q)
    (hRR : ∀ D C s' m H', Inv X pins σ H' s' → Q (.ref D) H' → s'.heap.Ns C m → FpOk X pins H' C → compPost (model X.prog X.w) X.A X.xe use Qf (.ref D) C (.ok .next) s') :
    wpAny (model X.prog X.w) X.A (comprehension (.SetComp kx [⟨tg, iter, ifs, 0⟩] scope pos) scope X.env pos' (newSet (.type "set")) false (eval iter X.env) use) Qf X.xe s := by
  have hfree : ∀ y ∈ scope.names, y.2 = .free → ∃ c, X.env.cells.lookup y.1 = some c := fun y hy e => by
    rcases okb.free y hy e with k | k
    · exact I.ok.has _ (.inl k)
    · exact I.ok.has _ (.inr k)
  refine wpAny_comprehension_free (use := use) rfl hs (closure_ok hfree) okb.kind (fun y hy e => by rw [okb.uniq y hy, e])
    (thn (hi.run pins s σ H _ I h) fun xv t1 hx => thn hx fun itv t2 h2 => ?_)
  obtain ⟨it, fp, tn, J, G2, e, Y2, T, st2, f2, q⟩ := h2
  subst e
  refine PySem.wpAny_newSet_raw fun led hled => newEnv_comp ?_
  subst hled
  generalize hDd : t2.heap.objs.size = D
  have hDn : G2 D = none := Y2.hok.fresh (Nat.le_of_eq hDd)
  obtain ⟨W, ⟨m0, w0⟩, turn⟩ := q D hDn
  -- the new list
  generalize hs3 : ({ t2 with heap := t2.heap.push { cls := .type "set", dict := none, data := .set #[] 0 (.fresh 0 0 (!(X.w.params.followText "set-order"))) } } : Shared) = t3
  have Y3 : Inv X pins σ (upd G2 D (SetO X.w D (fun _ => false) 0)) t3 := by
    rw [← hs3]
    refine Y2.laid (t' := t2.toks) (fun b o e => Heap.get?_push_of_some _ e) (Nat.le_of_eq hDd) ?_
    rw [← hDd]
    exact setO_new (setR_fresh X.w)
  have h3 : t3.heap = t2.heap.push { cls := .type "set", dict := none, data := .set #[] 0 (.fresh 0 0 (!(X.w.params.followText "set-order"))) } := by rw [← hs3]
  have sz : ∀ b ∈ fp, b < t2.heap.objs.size := fun b hb => by
    obtain ⟨o, e, _⟩ := T.obj _ _ st2 b hb
    exact Heap.lt_size e
  have f3 : ∀ b ∈ fp, FpOk X pins (upd G2 D (SetO X.w D (fun _ => false) 0)) b ∧ b < t3.heap.objs.size := fun b hb => by
    have hls := sz b hb
    refine ⟨⟨?_, (f2 b hb).2⟩, by rw [h3, Heap.size_push]; exact Nat.lt_succ_of_lt hls⟩
    rw [upd_ne (by rw [← hDd]; exact Nat.ne_of_lt hls)]
    exact (f2 b hb).1
  have st3 : tn 0 t3.heap := T.keep _ _ _ st2 fun b _ o e => by rw [h3]; exact Heap.get?_push_of_some _ e
  have Y4 := block_start Y3 okb hN f3
  have pg := hg t3 (upd G2 D (SetO X.w D (fun _ => false) 0)) t3.heap.objs.size (cellsFrom (t3.heap.objs.size + 1) scope.names (cloFrom X.env.cells scope.names [])) fp
  have pt := ht t3 (upd G2 D (SetO X.w D (fun _ => false) 0)) t3.heap.objs.size (cellsFrom (t3.heap.objs.size + 1) scope.names (cloFrom X.env.cells scope.names [])) fp
  have pk := hk t3 (upd G2 D (SetO X.w D (fun _ => false) 0)) t3.heap.objs.size (cellsFrom (t3.heap.objs.size + 1) scope.names (cloFrom X.env.cells scope.names [])) fp
  show codeAny _ _ (.compStart (.SetComp kx [⟨tg, iter, ifs, 0⟩] scope pos) 0 (.ref it) (.ref D) (compEnvC scope (cellsFrom (t3.heap.objs.size + 1) scope.names (cloFrom X.env.cells scope.names [])) t3.heap.objs.size X.env)) (compPost (model X.prog X.w) X.A X.xe use Qf (.ref D) t3.heap.objs.size) { t3 with heap := pushCells (t3.heap.push { cls := .type "dict", data := .dict #[] }) scope.names }
  have nfp : ∀ b ∈ fp, (upd G2 D (SetO X.w D (fun _ => false) 0)) b = none := fun b hb => (f3 b hb).1.1
  generalize hce : compEnvC scope (cellsFrom (t3.heap.objs.size + 1) scope.names (cloFrom X.env.cells scope.names [])) t3.heap.objs.size X.env = cx at Y4 pg pt pk ⊢
  have cL : cx.locals = t3.heap.objs.size := by subst hce; rfl
  generalize hH3 : upd G2 D (SetO X.w D (fun _ => false) 0) = G3 at Y3 Y4 pg pt pk w0 nfp f3
  generalize hs4 : ({ t3 with heap := pushCells (t3.heap.push { cls := .type "dict", data := .dict #[] }) scope.names } : Shared) = t4 at Y4 ⊢
  have st4 : tn 0 t4.heap := T.keep _ _ _ st3 fun b _ o e => by rw [← hs4]; exact pushCells_keeps _ _ _ _ (Heap.get?_push_of_some _ e)
  have sta : ∀ {σ' : L2.St} {H' : Hp} {s' : Shared}, Inv (X.blk t3 G3 scope cx fp) [] σ' H' s' → (∀ b ∈ fp, H' b = none) → ∀ b ∈ fp, FpOk (X.blk t3 G3 scope cx fp) [] H' b := fun {σ' H' s'} Y' hn b hb =>
    ⟨hn b hb, (Y'.ok.exf b hb).1, Y'.ok.exfs b hb, .inl hb, fun x c e => (Y'.ok.exf b hb).2 x c e, fun p hp => absurd (show p ∈ ([] : List (Addr × Obj)) ++ [] from hp) (by simp)⟩
  have lop : codeAny (model X.prog X.w) X.A (.compLoop (.SetComp kx [⟨tg, iter, ifs, 0⟩] scope pos) 0 (.ref it) (.ref D) cx) (compPost (model X.prog X.w) X.A X.xe use Qf (.ref D) t3.heap.objs.size) t4 := by
    refine PySem.compLoop_set_any (fun n s' => ∃ i H', Inv (X.blk t3 G3 scope cx fp) [] (wipe σ (own.map (·.2))) H' s' ∧ tn i s'.heap ∧ (∀ b ∈ fp, H' b = none) ∧ W i n H') ?_ m0 ⟨0, G3, Y4, st4, nfp, w0⟩
    rintro n t5 ⟨i, G5, Y5, st5, n5, w5⟩
    rcases turn i n G5 w5 with ⟨stp0, qz⟩ | ⟨go, Nq, hnx, stp⟩
    · have td := T.done (X.blk t3 G3 scope cx fp) rfl rfl rfl hc i [] t5 _ G5 (fun _ _ => False) Y5 (sta Y5 n5) st5 stp0
      refine thnF td fun r t6 ⟨hr, Y6⟩ => ?_
      subst hr
      -- back in the def's context
      have Y7 : Inv X pins σ G5 t6 := Y3.call' (ch := fp) Y6.os Y6.base Y6.hok Y6.bare fun b hb => ⟨(f3 b hb).1.2.2.2.1, (f3 b hb).1.2.1, (f3 b hb).1.2.2.2.2.1, (f3 b hb).1.2.2.2.2.2⟩
      have nC : G5 t3.heap.objs.size = none := by
        have z : G5 cx.locals = none := Y6.free
        rw [cL] at z
        exact z
      obtain ⟨m, hn, _⟩ := Y6.loc
      have hn : t6.heap.Ns cx.locals m := hn
      rw [cL] at hn
      exact hRR D t3.heap.objs.size t6 m G5 Y7 qz hn (Y3.fpOk (Nat.le_refl _) nC)
    · have ti := T.item (X.blk t3 G3 scope cx fp) rfl rfl rfl hc i [] t5 _ G5 (fun _ _ => False) Y5 (sta Y5 n5) st5 go
      refine thnF ti fun r t6 ⟨u, hr, h6⟩ => ?_
      subst hr
      refine thnF h6 fun _ t7 ⟨x, G7, Y7, r7, y7, st7, n7⟩ => ?_
      have Y7' := Y7.pinned (sta Y7 n7) (T.obj _ _ st7)
      refine thnF (pg.run _ t7 _ G7 x u _ Y7' r7 (stp x G7 y7)) fun _ t8 ⟨τ8, G8, Y8, hw8, q8⟩ => ?_
      refine thnF (pt.run _ t8 τ8 G8 _ Y8 q8) fun b t9 ⟨G9, Y9, q9⟩ => ?_
      -- the turn's end
      have endT : ∀ {s' : Shared} {H' : Hp}, Inv (X.blk t3 G3 scope cx fp) ([] ++ pinsAt fp t7.heap) τ8 H' s' → Nq H' → ∃ m, m < n ∧ ∃ i H', Inv (X.blk t3 G3 scope cx fp) [] (wipe σ (own.map (·.2))) H' s' ∧ tn i s'.heap ∧ (∀ b ∈ fp, H' b = none) ∧ W i m H' := fun {s' H'} Y' nx => by
        obtain ⟨m', hm, w'⟩ := hnx H' nx
        have pn' : ∀ b ∈ fp, ∀ o, t7.heap.get? b = some o → s'.heap.get? b = some o ∧ H' b = none := fun b hb o e =>
          let z := Y'.pin (b, o) (List.mem_append_right _ (List.mem_append_right _ (mem_pinsAt hb e)))
          ⟨z.1, z.2.1⟩
        have hl : (wipe σ (own.map (·.2))).length = τ8.length := by rw [← hw8, wipe_length]
        refine ⟨m', hm, i + 1, H', (Y'.unpinned (pins := [])).weak hl (fun j v e => ?_), T.keep _ _ _ st7 fun b hb o e => (pn' b hb o e).1, fun b hb => ?_, w'⟩
        · rw [← hw8] at e
          exact (wipe_some e).1
        · obtain ⟨o, e, _⟩ := T.obj _ _ st7 b hb
          exact (pn' b hb o e).2
      cases b with
      | false =>
        simp only [Bool.false_eq_true, if_false] at q9 ⊢
        exact endT Y9 q9
      | true =>
        simp only [if_true] at q9 ⊢
        refine thnF (pk.run _ t9 τ8 G9 _ Y9 q9) fun z t10 ⟨yk, G10, Y10, r10, kk, S, nn, ek, hD10, room, nx⟩ => ?_
        subst ek
        obtain ⟨kt, rfl⟩ := r10
        refine setR_add (show SetR X.w t10.heap D S nn from setO_get (X := X.blk t3 G3 scope cx fp) Y10 hD10) room fun h' sb new => ?_
        have hex : ∃ u, h'.get? D = some u := by
          have ⟨o, _, _, _, ho, _⟩ := new
          exact ⟨o, ho⟩
        exact endT (Y10.write (e := D) (t' := t10.toks + 1) (by rw [hD10]; trivial) (.inl rfl) (fun b u hb hu => (sb.2 b hb).trans hu) hex (setO_new new)) nx
  exact PySem.codeAny_compStart_set lop (T.self X.A 0 _ _ _ st4 lop)
/-- as a value -/
theorem pe_scn {kx tg iter : Expr} {ifs : List Expr} {scope : Scope} {own : List (Str × Nat)} {pos : Pos} {wj : TI} {g : TG} {tt : TT} {tk : TE} (hc : X.calm = true) (hN : X.N.Nodup) (hi : PI X tg iter wj) (okb : BlkOk X.N X.env.scope scope own)
    (hg : ∀ (s : Shared) (H : Hp) (C : Addr) (cl : List (Str × Addr)) (fp : List Addr), PG (X.blk s H scope (compEnvC scope cl C X.env) fp) tg g) (ht : ∀ (s : Shared) (H : Hp) (C : Addr) (cl : List (Str × Addr)) (fp : List Addr), PTs (X.blk s H scope (compEnvC scope cl C X.env) fp) ifs tt)
    (hk : ∀ (s : Shared) (H : Hp) (C : Addr) (cl : List (Str × Addr)) (fp : List Addr), PE (X.blk s H scope (compEnvC scope cl C X.env) fp) kx tk)
    (hs : ∀ x, foldedSetIterable iter X.env x = pure x := by intro _; rfl) :
    PE X (.SetComp kx [⟨tg, iter, ifs, 0⟩] scope pos) (tScN X.w wj g tt tk (own.map (·.2))) := by
  refine ⟨fun pins s σ H Q I h => ?_⟩
  rw [arm_eval_SetComp]
  refine scn_core hc hN I hi okb hg ht hk hs h fun D C s' m H' Y' q hn f => ⟨m, hn, fun h'' sb => ?_⟩
  obtain ⟨f0, f1, f2, f3, f4, f5⟩ := f
  exact ⟨.ref D, H', Y'.turned (t' := s'.toks) (fun b o hb e => (sb.2 b hb).trans e) f0 f1 f3 f4 f5, rfl, q⟩
def scD (g : RG) (tt : RT) (dk : RE) (vs : List Nat) : List D → Rho → List Int → (List Int → Prop) → Prop
  | [], _, acc, q => q acc
  | d :: r, ρ, acc, q => g d (wipeD ρ vs) fun ρ1 => tt ρ1 fun b => (b = true → dk ρ1 fun x => ∃ k : Int, x = .int k ∧ scD g tt dk vs r ρ (acc ++ [k]) q) ∧ (b = false → scD g tt dk vs r ρ acc q)
/-- sorted({x for ..}) -/
def lSortSc (di : RL) (g : RG) (tt : RT) (dk : RE) (vs : List Nat) : RL := fun ρ q => di ρ fun items => items.length ≤ 1000 ∧ scD g tt dk vs items ρ [] fun ks => ∀ ms : List Int, ms.Pairwise (· < ·) → (∀ k, k ∈ ms ↔ k ∈ ks) → q (ms.map .int)
theorem sim_sortSc {K : Frag} {w : World} {wi : TI} {di : RL} {g : TG} {dg : RG} {tt : TT} {dt : RT} {tk : TE} {dk : RE} {vs : List Nat} (hi : SimIc K wi di) (hg : SimGw K vs g dg) (ht : SimT K tt dt) (hk : SimE K tk dk) :
    SimL K (tCB (rSortedSN w) (tCons (tScN w wi g tt tk vs) tNil)) (lSortSc di dg dt dk vs) := fun B F H ρ σ E q hq Q kk => hi B F H ρ σ E _ hq _ fun J items F1 H1 g1 it z D hD => by
  obtain ⟨hsz, z⟩ := z
  have E1 := E.grow g1
  have fD : F1 D = none := g1.fh.free hD
  have bD : B D = none := E1.bh.free hD
  have nD : ∀ (j : Nat) a, ρ[j]? = some (some (.own a)) → σ[j]? ≠ some (some (.ref D)) := fun j a e w => by
    obtain ⟨p, us, h1, _, _, f2, _⟩ := own_at E1 e
    rw [h1] at w
    cases w
    rw [hD] at f2
    cases f2
  have nT : ∀ (j : Nat) a, ρ[j]? = some (some (.tks a)) → σ[j]? ≠ some (some (.ref D)) := fun j a e w => by
    obtain ⟨p, us, h1, _, _, f2, _⟩ := tks_at E1 e
    rw [h1] at w
    cases w
    rw [hD] at f2
    cases f2
  refine ⟨fun i m H2 => m = items.length - i ∧ i ≤ items.length ∧ ∃ (F2 : Hp) (S : Int → Bool) (n : Nat) (ks : List Int), Gr F1 H1 F2 H2 ∧ EnvOk K B F2 H2 ρ σ ∧ F2 D = none ∧ H2 D = some (SetO w D S n) ∧ n ≤ i ∧ (∀ k, S k = true ↔ k ∈ ks) ∧ scD dg dt dk vs (items.drop i) ρ ks (fun ks => ∀ ms : List Int, ms.Pairwise (· < ·) → (∀ k, k ∈ ms ↔ k ∈ ks) → q (ms.map .int)),
    ⟨items.length, by simp, Nat.zero_le _, F1, _, _, [], Gr.newO g1.fh hD, E1.grow (Gr.newO g1.fh hD), fD, upd_same, Nat.le_refl _, fun k => by simp, by simpa using z⟩, ?_⟩
  rintro i m H2 ⟨rfl, hi', F2, S, n, ks, gr, E2, f2, h2, hl, ha, hz⟩
  obtain ⟨go, stop⟩ := it F2 H2 gr.ff gr.hh gr.fh i
  by_cases hlt : i < items.length
  · obtain ⟨go, yl⟩ := go hlt
    refine .inr ⟨go, fun H' => ∃ (F2 : Hp) (S : Int → Bool) (n : Nat) (ks : List Int), Gr F1 H1 F2 H' ∧ EnvOk K B F2 H' ρ σ ∧ F2 D = none ∧ H' D = some (SetO w D S n) ∧ n ≤ i + 1 ∧ (∀ k, S k = true ↔ k ∈ ks) ∧ scD dg dt dk vs (items.drop (i + 1)) ρ ks (fun ks => ∀ ms : List Int, ms.Pairwise (· < ·) → (∀ k, k ∈ ms ↔ k ∈ ks) → q (ms.map .int)),
      fun H' h => ⟨_, by omega, rfl, hlt, h⟩, fun x H3 y => ?_⟩
    obtain ⟨F3, gr3, d, hd, r⟩ := yl x H3 y
    have ed : items.drop i = d :: items.drop (i + 1) := by
      have e2 : items[i] = d := Option.some.inj ((List.getElem?_eq_getElem hlt).symm.trans hd)
      rw [← e2]
      exact List.drop_eq_getElem_cons hlt
    rw [ed] at hz
    have E3 := E2.grow gr3
    refine hg B F3 H3 (wipeD ρ vs) (wipe σ vs) x d (E3.wiped vs) r _ hz _ fun ρ4 σ4 E4 w4 z4 => ⟨by rw [w4, wipe_idem], ?_⟩
    refine ht B F3 H3 ρ4 σ4 E4 _ z4 _ fun b F5 H5 gr5 z5 => ?_
    have gA := gr3.trans gr5
    have D5 : H5 D = some (SetO w D S n) := gA.hh D _ h2
    have f5 : F5 D = none := gA.own D f2 (by rw [h2]; trivial)
    cases b with
    | true =>
      refine hk B F5 H5 ρ4 σ4 (E4.grow gr5) _ (z5.1 rfl) _ fun y dy F6 H6 gr6 r6 z6 => ?_
      obtain ⟨k, rfl, z7⟩ := z6
      cases r6
      have gB := gA.trans gr6
      have D7 : H6 D = some (SetO w D S n) := gr6.hh D _ D5
      have f7 : F6 D = none := gr6.own D f5 (by rw [D5]; trivial)
      refine ⟨k, S, n, rfl, D7, by show n + 1 < 4096; omega, F6, _, _, ks ++ [k], ?_, (E2.grow gB).other bD f7 nD nT, f7, upd_same, by split <;> omega, fun j => ?_, z7⟩
      · have gC := gr.trans gB
        refine ⟨gC.ff, fun b u e => ?_, fun b u e => ?_, gC.own⟩
        · rw [upd_ne (ne_of_none e hD)]
          exact gC.hh b u e
        · rw [upd_ne (ne_of_none e f7)]
          exact gC.fh b u e
      · simp [ha j]
    | false => exact ⟨F5, S, n, ks, gr.trans gA, E2.grow gA, f5, D5, by omega, ha, z5.2 rfl⟩
  · have e : i = items.length := by omega
    refine .inl ⟨stop (by omega), ?_⟩
    rw [e, List.drop_length] at hz
    have g12 := g1.trans gr
    refine ⟨D, S, n, rfl, h2, by rw [sizeLine_eq]; omega, fun ms p hs hm hp => ?_⟩
    exact kk p _ (ms.map .int) F2 _ (g12.trans (Gr.newO gr.fh hp)) (g12.hh.free hp) (gr.fh.free hp) upd_same (DpAll.ints ms) (hz ms hs fun k => (hm k).trans (ha k))
variable {kx tg iter : Expr} {ifs : List Expr} {own : List (Str × Nat)} {di : RL} {dg : RG} {dt : RT} {dk : RE} {scope : Scope} {p : Pos}
theorem dl_sortSc (hm : X.mg "sorted" = none) (hN : X.N.Nodup) (hi : DIc X tg iter di) (hg : DGw X scope (own.map (·.2)) tg dg) (ht : DPTs X scope ifs dt) (hk : ∀ s H C cl fp, DE (BX X scope s H C cl fp) kx dk)
    (ok : BlkOk X.N X.env.scope scope own := by exact blkOk_by (by first | decide +kernel | kernel_rfl)) (hc : X.calm = true := by rfl) (hs : ∀ x, foldedSetIterable iter X.env x = pure x := by intro _; rfl) (hgl : Gl X "sorted" := by rfl) (hv : bootBuiltins "sorted" = some (.builtin "sorted") := by decide +kernel)
    (hse : starEach [Expr.SetComp kx [⟨tg, iter, ifs, 0⟩] scope pos] X.env = (false, eval (Expr.SetComp kx [⟨tg, iter, ifs, 0⟩] scope pos) X.env) :: starEach [] X.env := by rfl) (hpl : (backTo p (starEach [] X.env)).any (·.1) = false := by rfl) {np : Pos} :
    DLs X (.Call (.Name "sorted" np) [.SetComp kx [⟨tg, iter, ifs, 0⟩] scope pos] [] p) (lSortSc di dg dt dk (own.map (·.2))) := by
  obtain ⟨wi, i1, i2⟩ := hi
  obtain ⟨g, g1, g2⟩ := hg
  obtain ⟨tt, t1, t2⟩ := ht
  exact ⟨_, pe_callB (cr_sortedSN hc) hgl hm hv (pa_cons (pe_scn (tk := canE X.K dk) hc hN i1 ok g1 t1 (fun s H C cl fp => (hk s H C cl fp).can) hs) pa_nil hse) (he := hse) (hpl := hpl), sim_sortSc i2 g2 t2 sim_canE⟩
/-- x.insert(e2, e) -/
def sIns (i : Nat) (di de : RE) : RS := fun DD ρ => match ρ[i]? with
  | some (some (.own ds)) => di ρ fun z => de ρ fun d => ∃ j : Int, z = .int j ∧ Fit (ds.length + 1) ∧ 0 ≤ j ∧ j < 2 ^ 63 ∧ DD.nx (ρ.set i (some (.own (ds.take j.toNat ++ [d] ++ ds.drop j.toNat))))
  | _ => False
theorem st_ins {i : Nat} {x : Str} {e e2 : Expr} {de di : RE} {pos1 pos2 pos3 : Pos} (hi' : DE X e2 di) (he : DE X e de) (hN : X.N[i]? = some x := by rfl) (hv : Vis X.env.scope x := by first | exact Or.inl rfl | exact Or.inr (Or.inl rfl) | exact Or.inr (Or.inr rfl)) (hd : (x == ("__debug__" : Str)) = false := by decide)
    (hcd : (x == ("__classdict__" : Str)) = false := by decide)
    (hbase : attributeBase (.Name x pos1) "insert" X.env (eval (.Name x pos1) X.env) = eval (.Name x pos1) X.env := by rfl)
    (hfew : ((backTo pos3 (starEach (e2 :: [e]) X.env)).all (fun x => !x.1) && (backToKw pos3 (keywordEach [] X.env)).all (fun x => x.1.isSome)
      && decide ((e2 :: [e]).length + ([] : List Keyword).length + (if ([] : List Keyword).isEmpty then 0 else 1) < 30)) = true := by rfl)
    (hline : (pos2.endLine == pos3.line) = true := by rfl) (hs : starEach (e2 :: [e]) X.env = (false, eval e2 X.env) :: starEach [e] X.env := by rfl) (hs1 : starEach (e :: []) X.env = (false, eval e X.env) :: starEach [] X.env := by rfl) (hplain : (backTo pos3 (starEach [e] X.env)).any (·.1) = false := by rfl)
    (hsw : swapsWith (.Call (.Attribute (.Name x pos1) "insert" pos2) [e2, e] [] pos3) none pos.line X.env = pure false := by rfl) :
    DS X (.Expr (.Call (.Attribute (.Name x pos1) "insert" pos2) [e2, e] [] pos3) pos) (sIns i di de) := by
  obtain ⟨t, a1, a2⟩ := he
  obtain ⟨u, b1, b2⟩ := hi'
  refine ⟨_, ps_expr (pe_bm PySem.F.plainAttrs_list PySem.F.slot_list_insert PySem.F.type_list_insert mt_insert (pe_var hN hv hd hcd) (pa_cons b1 (pa_cons a1 pa_nil hs1) hs) hbase hfew hline hs hplain) hsw, fun F0 B F H ρ σ s E DD h D k => ?_⟩
  unfold sIns at h
  split at h
  · rename_i ds q
    obtain ⟨p, vs, h1, f0, f1, f2, f3⟩ := own_at E q
    refine ⟨.ref p, h1, .inl ⟨rfl, vs, .inl (.inl f2)⟩, b2 B F H ρ σ E _ h _ fun v d F1 H1 g1 r1 z1 => a2 B F1 H1 ρ σ (E.grow g1) _ z1 _ fun v2 d2 F' H' g2 r z => ?_⟩
    obtain ⟨j, rfl, hl, j0, j1, z⟩ := z
    cases r1
    have g := g1.trans g2
    have f2' := g.hh p _ f2
    have f1' := g.own p f1 (by rw [f2]; trivial)
    have f3' := f3.mono g.ff
    refine ⟨p, vs, j, v2, rfl, rfl, f2', by rw [f3.length]; exact hl.le, j0, j1, k.nx F' _ _ _ ((s.to g).wr f0 f1') (own_chg (E.grow g) q h1 f0 f1' (((f3'.take j.toNat).append (.cons r .nil)).append (f3'.drop j.toNat))) z⟩
  · exact h.elim
/-- a set comprehension over rows -/
theorem sc_f {α : Type} {emb : α → D} {f : α → Int} {g : RG} {tt : RT} {dk : RE} {vs : List Nat} {ρ : Rho} {q : List Int → Prop} : ∀ (xs : List α) (acc : List Int), q (acc ++ xs.map f) →
    (∀ a ∈ xs, ∀ (R : D → Prop) (Z : Prop), R (.int (f a)) → g (emb a) (wipeD ρ vs) fun ρ1 => tt ρ1 fun b => (b = true → dk ρ1 R) ∧ (b = false → Z)) → scD g tt dk vs (xs.map emb) ρ acc q
  | [], acc, hq, _ => by
    rw [List.map_nil, List.append_nil] at hq
    exact hq
  | a :: r, acc, hq, hs => hs a List.mem_cons_self (fun x => ∃ k : Int, x = .int k ∧ scD g tt dk vs (r.map emb) ρ (acc ++ [k]) q) _ ⟨f a, rfl, sc_f r (acc ++ [f a]) (by rwa [List.append_assoc]) fun b hb => hs b (List.mem_cons_of_mem _ hb)⟩
end
end DL

namespace GP
open PM
section
variable {n : Nat}
/-- where the members take a point -/
def orb (n : Nat) (T : List Pm) (pt : Nat) : List Nat := (List.range n).filter fun k => T.any fun m => g m pt == k
theorem orb_mem {T : List Pm} {pt k : Nat} (hT : AllP n T) (hp : pt < n) : k ∈ orb n T pt ↔ ∃ m ∈ T, g m pt = k := by
  unfold orb
  rw [List.mem_filter, List.any_eq_true, List.mem_range]
  constructor
  · rintro ⟨_, m, hm, e⟩
    exact ⟨m, hm, eq_of_beq e⟩
  · rintro ⟨m, hm, rfl⟩
    exact ⟨(hT m hm).lt pt hp, m, hm, beq_self_eq_true _⟩
theorem orb_asc {T : List Pm} {pt : Nat} : (orb n T pt).Pairwise (· < ·) := List.Pairwise.filter _ List.pairwise_lt_range
theorem ints_uniq : ∀ {a b : List Int}, a.Pairwise (· < ·) → b.Pairwise (· < ·) → (∀ k, k ∈ a ↔ k ∈ b) → a = b
  | [], [], _, _, _ => rfl
  | [], y :: b, _, _, h => absurd ((h y).mpr List.mem_cons_self) (by simp)
  | x :: a, [], _, _, h => absurd ((h x).mp List.mem_cons_self) (by simp)
  | x :: a, y :: b, ha, hb, h => by
    obtain ⟨a1, a2⟩ := List.pairwise_cons.mp ha
    obtain ⟨b1, b2⟩ := List.pairwise_cons.mp hb
    have e : x = y := by
      have h1 := (h x).mp List.mem_cons_self
      have h2 := (h y).mpr List.mem_cons_self
      rcases List.mem_cons.mp h1 with q | q
      · exact q
      · rcases List.mem_cons.mp h2 with r | r
        · exact r.symm
        · have := a1 y r
          have := b1 x q
          omega
    subst e
    congr 1
    refine ints_uniq a2 b2 fun k => ⟨fun hk => ?_, fun hk => ?_⟩
    · rcases List.mem_cons.mp ((h k).mp (List.mem_cons_of_mem _ hk)) with q | q
      · have := a1 k hk; omega
      · exact q
    · rcases List.mem_cons.mp ((h k).mpr (List.mem_cons_of_mem _ hk)) with q | q
      · have := b1 k hk; omega
      · exact q
theorem orb_ints {T : List Pm} {pt : Nat} {ms : List Int} (hT : AllP n T) (hp : pt < n) (h1 : ms.Pairwise (· < ·)) (h2 : ∀ k, k ∈ ms ↔ k ∈ T.map fun m => (g m pt : Int)) : ms = (orb n T pt).map fun i : Nat => (i : Int) := by
  refine ints_uniq h1 ?_ fun k => ?_
  · rw [List.pairwise_map]
    exact orb_asc.imp fun h => by omega
  · rw [h2]
    simp only [List.mem_map]
    constructor
    · rintro ⟨m, hm, rfl⟩
      exact ⟨g m pt, (orb_mem hT hp).mpr ⟨m, hm, rfl⟩, rfl⟩
    · rintro ⟨i, hi, rfl⟩
      obtain ⟨m, hm, rfl⟩ := (orb_mem hT hp).mp hi
      exact ⟨m, hm, rfl⟩
theorem orb_count {G : List Pm} {pt : Nat} (hG : Grp n G) (nG : G.Nodup) (hp : pt < n) {S : List Pm} (nS : S.Nodup) (hS : ∀ x, x ∈ S ↔ x ∈ G ∧ g x pt = pt) : G.length = S.length * (orb n G pt).length := by
  have h := orb_stab (f := fun m => g m pt) hG nG nS (fun x hx => ((hS x).mp hx).1) fun a ha b hb => by
    have pa := hG.isP a ha
    have pb := hG.isP b hb
    obtain ⟨y, hy, py, i1, i2⟩ := hG.invP ha
    show g b pt = g a pt ↔ _
    constructor
    · intro e
      refine ⟨cmp y b, (hS _).mpr ⟨hG.mul _ hy _ hb, ?_⟩, ?_⟩
      · rw [g_cmpP pb hp, e, i2 pt hp]
      · refine pm_ext pb (IsP.cmp pa (IsP.cmp py pb)) fun i hi => ?_
        rw [g_cmpP (IsP.cmp py pb) hi, g_cmpP pb hi, i1 _ (pb.lt i hi)]
    · rintro ⟨s, hs, rfl⟩
      obtain ⟨s1, s2⟩ := (hS s).mp hs
      rw [g_cmpP (hG.isP s s1) hp, s2]
  rw [h]
  congr 1
  have nO : (orb n G pt).Nodup := orb_asc.imp fun h => Nat.ne_of_lt h
  refine ((List.perm_ext_iff_of_nodup nd_dd nO).mpr fun k => ?_).length_eq
  rw [mem_dd, orb_mem hG.isP hp]
  simp only [List.mem_map]
theorem IsTab.more {fd gs U : List Pm} (h : IsTab n fd U) (hf : AllP n fd) (h1 : ∀ x ∈ fd, x ∈ gs) (h2 : ∀ x ∈ gs, x ∈ U) : IsTab n gs U ∧ AllP n gs := by
  have hg : AllP n gs := fun x hx => (h.grp hf).isP x (h2 x hx)
  exact ⟨h.congr hf hg (fun x hx => Gen.of hg (h1 x hx)) fun x hx => (h.iff x).mp (h2 x hx), hg⟩
theorem IsTab.self {V : List Pm} (h : Grp n V) (a : Asc V) : IsTab n V V := ⟨a, fun x => ⟨fun hx => Gen.of h.isP hx, fun hx => h.gen (fun _ h => h) hx⟩⟩
end
end GP

namespace DL
open PySem PySem.Spec PyProof.Rows L2
section
variable {X : Cx} {pos : Pos} {e : Expr} {de : RE}
/-- list(range(e)) -/
def lLstRg (de : RE) : RL := fun ρ q => de ρ fun d => match d with | .int n => (-1000000 ≤ n ∧ n ≤ 1000000) ∧ q ((List.range n.toNat).map fun i => .int (i : Nat)) | _ => False
theorem dl_lstRg {p p2 p3 : Pos} (hm : X.mg "list" = none) (hm2 : X.mg "range" = none) (he : DE X e de) (hc : X.calm = true := by rfl) (hg : Gl X "list" := by rfl) (hg2 : Gl X "range" := by rfl)
    (na : starEach [.Call (.Name "range" p2) [e] [] p3] X.env = (false, eval (.Call (.Name "range" p2) [e] [] p3) X.env) :: starEach [] X.env := by rfl) (na2 : starEach [e] X.env = (false, eval e X.env) :: starEach [] X.env := by rfl) :
    DLs X (.Call (.Name "list" p) [.Call (.Name "range" p2) [e] [] p3] [] pos) (lLstRg de) := by
  obtain ⟨te, a1, a2⟩ := he
  refine ⟨_, pe_listRg hc hg hm (prg_1 hg2 hm2 a1 na2) na, fun B F H ρ σ E q hq Q k => ?_⟩
  refine a2 B F H ρ σ E _ hq _ fun v d F' H' g r z => ?_
  cases r with
  | int n =>
    obtain ⟨⟨b1, b2⟩, z⟩ := z
    refine ⟨n, rfl, ⟨by omega, by omega, by omega, by omega, by omega⟩, fun p hp => ?_⟩
    have gn := Gr.newO (o := .lst (rgV 0 n)) g.fh hp
    exact k p _ _ _ _ (g.trans gn) (g.hh.free hp) (g.fh.free hp) upd_same (rg_dp n) z
  | _ => exact z.elim
/-- x.pop(e), as a statement -/
def sPopI (i : Nat) (de : RE) : RS := fun DD ρ => match ρ[i]? with
  | some (some (.own ds)) => de ρ fun z => ∃ j : Nat, z = .int (j : Nat) ∧ j < ds.length ∧ j < 1000000 ∧ DD.nx (ρ.set i (some (.own (ds.eraseIdx j))))
  | _ => False
theorem st_popI {i : Nat} {x : Str} {pos1 pos2 pos3 : Pos} (he : DE X e de) (hN : X.N[i]? = some x := by rfl) (hv : Vis X.env.scope x := by first | exact Or.inl rfl | exact Or.inr (Or.inl rfl) | exact Or.inr (Or.inr rfl)) (hd : (x == ("__debug__" : Str)) = false := by decide)
    (hcd : (x == ("__classdict__" : Str)) = false := by decide)
    (hbase : attributeBase (.Name x pos1) "pop" X.env (eval (.Name x pos1) X.env) = eval (.Name x pos1) X.env := by rfl)
    (hfew : ((backTo pos3 (starEach (e :: []) X.env)).all (fun x => !x.1) && (backToKw pos3 (keywordEach [] X.env)).all (fun x => x.1.isSome)
      && decide ((e :: []).length + ([] : List Keyword).length + (if ([] : List Keyword).isEmpty then 0 else 1) < 30)) = true := by rfl)
    (hline : (pos2.endLine == pos3.line) = true := by rfl) (hs : starEach (e :: []) X.env = (false, eval e X.env) :: starEach [] X.env := by rfl) (hplain : (backTo pos3 (starEach [] X.env)).any (·.1) = false := by rfl)
    (hsw : swapsWith (.Call (.Attribute (.Name x pos1) "pop" pos2) [e] [] pos3) none pos.line X.env = pure false := by rfl) :
    DS X (.Expr (.Call (.Attribute (.Name x pos1) "pop" pos2) [e] [] pos3) pos) (sPopI i de) := by
  obtain ⟨t, a1, a2⟩ := he
  refine ⟨_, ps_expr (pe_bm PySem.F.plainAttrs_list PySem.F.slot_list_pop PySem.F.type_list_pop mt_popAt (pe_var hN hv hd hcd) (pa_cons a1 pa_nil hs) hbase hfew hline hs hplain) hsw, fun F0 B F H ρ σ s E DD h D k => ?_⟩
  unfold sPopI at h
  split at h
  · rename_i ds q
    obtain ⟨p, vs, h1, f0, f1, f2, f3⟩ := own_at E q
    refine ⟨.ref p, h1, .inl ⟨rfl, vs, .inl (.inl f2)⟩, a2 B F H ρ σ E _ h _ fun v d F' H' g r z => ?_⟩
    obtain ⟨j, rfl, hj, hj2, z⟩ := z
    cases r
    have f2' := g.hh p _ f2
    have f1' := g.own p f1 (by rw [f2]; trivial)
    have lv : j < vs.length := by rw [f3.length]; exact hj
    have si : seqIndex? (j : Int) vs.length = some j := by
      unfold seqIndex?
      have h0 : ¬ ((j : Int) < 0) := by omega
      simp only [h0, if_false]
      rw [if_pos (by simp; omega)]
      rfl
    exact ⟨p, vs, j, j, vs[j], rfl, rfl, f2', by omega, by omega, si, List.getElem?_eq_getElem lv, k.nx F' _ _ _ ((s.to g).wr f0 f1') (own_chg (E.grow g) q h1 f0 f1' ((f3.mono g.ff).eraseIdx j)) z⟩
  · exact h.elim
/-! ### < and >= of tuples of whole numbers that are alike long -/
/-- x before y, by the first place where they differ -/
def ltI : List Int → List Int → Bool
  | x :: xs, y :: ys => if x = y then ltI xs ys else decide (x < y)
  | _, _ => false
theorem lexAt_shift {ea r : Nat → Bool} {z : Bool} : ∀ (k i : Nat), Ob.lexAt ea r z (i + 1) k = Ob.lexAt (fun j => ea (j + 1)) (fun j => r (j + 1)) z i k
  | 0, _ => rfl
  | k + 1, i => by rw [Ob.lexAt_succ, Ob.lexAt_succ, lexAt_shift k (i + 1)]
theorem lexAt_lt : ∀ {ns ms : List Int}, ns.length = ms.length → Ob.lexAt (fun j => decide (ns.getD j 0 = ms.getD j 0)) (fun j => decide (ns.getD j 0 < ms.getD j 0)) false 0 ns.length = ltI ns ms
  | [], [], _ => rfl
  | [], _ :: _, h => by simp at h
  | _ :: _, [], h => by simp at h
  | x :: xs, y :: ys, h => by
    have h' : xs.length = ys.length := by simpa using h
    rw [List.length_cons, Ob.lexAt_succ, Nat.zero_add, lexAt_shift]
    have ih := lexAt_lt h'
    by_cases c : x = y
    · simp only [ltI, c, if_true, List.getD_cons_zero, List.getD_cons_succ, decide_true] at ih ⊢
      exact ih
    · simp [ltI, c, List.getD_cons_zero]
theorem lexAt_ge : ∀ {ns ms : List Int}, ns.length = ms.length → Ob.lexAt (fun j => decide (ns.getD j 0 = ms.getD j 0)) (fun j => decide (ms.getD j 0 ≤ ns.getD j 0)) true 0 ns.length = !ltI ns ms
  | [], [], _ => rfl
  | [], _ :: _, h => by simp at h
  | _ :: _, [], h => by simp at h
  | x :: xs, y :: ys, h => by
    have h' : xs.length = ys.length := by simpa using h
    rw [List.length_cons, Ob.lexAt_succ, Nat.zero_add, lexAt_shift]
    have ih := lexAt_ge h'
    by_cases c : x = y
    · simp only [ltI, c, if_true, List.getD_cons_zero, List.getD_cons_succ, decide_true] at ih ⊢
      exact ih
    · simp only [ltI, c, List.getD_cons_zero, decide_false, if_false, Bool.false_eq_true]
      by_cases d : x < y
      · rw [decide_eq_true d, decide_eq_false (by omega)]; rfl
      · rw [decide_eq_false d, decide_eq_true (by omega)]; rfl
def gTupI (f : Bool → Bool) : G2 := fun x y q => ∃ ns ms : List Int, x = .tuple (ns.map .int) ∧ y = .tuple (ms.map .int) ∧ ns.length = ms.length ∧ q (.bool (f (ltI ns ms)))
def rTupI (K : Frag) (f : Bool → Bool) : R2 := fun x y H Q => ∃ (a b : Addr) (ns ms : List Int), x = .ref a ∧ y = .ref b ∧ SqT K H a (ns.map V.int) ∧ SqT K H b (ms.map V.int) ∧ ns.length = ms.length ∧ Q (.bl (f (ltI ns ms))) H
theorem eq_dec (x y : Int) : (x == y) = decide (x = y) := by
  by_cases q : x = y
  · rw [decide_eq_true q]; exact beq_iff_eq.mpr q
  · rw [decide_eq_false q]; exact beq_eq_false_iff_ne.mpr q
theorem op_tupLt (hu : X.A.units < cLine) : OpR X (compareOp .Lt) (rTupI X.K id) := by
  rintro pins s σ H x y v u Q I rx ry ⟨a, b, ns, ms, rfl, rfl, ha, hb, hl, q⟩
  cases rx
  cases ry
  obtain ⟨as, r1, p1, _⟩ := I.tuple ha
  obtain ⟨bs, r2, p2, _⟩ := I.tuple hb
  have i1 := Vals.ints r1
  have i2 := Vals.ints r2
  have l1 : as.toArray.size = ns.length := by rw [List.size_toArray]; exact i1.length
  have l2 : bs.toArray.size = ms.length := by rw [List.size_toArray]; exact i2.length
  have g1 : ∀ j (h : j < as.toArray.size), ∃ t, as.toArray[j] = .int (ns.getD j 0) t := fun j h => PyProof.Rows.IntsAre.int_at i1 _ _ (by simp at h; simp [h])
  have g2 : ∀ j (h : j < bs.toArray.size), ∃ t, bs.toArray[j] = .int (ms.getD j 0) t := fun j h => PyProof.Rows.IntsAre.int_at i2 _ _ (by simp at h; simp [h])
  have R := Ob.RcOp.tuples_lt (A := X.A) (s := s) (e := fun j => decide (ns.getD j 0 = ms.getD j 0)) (r := fun j => decide (ns.getD j 0 < ms.getD j 0)) p1 p2 hu
    (fun j h h' => by
      obtain ⟨t, e1⟩ := g1 j h
      obtain ⟨t', e2⟩ := g2 j h'
      rw [e1, e2, ← eq_dec]
      exact SeqAt.EqAt.int_int _ _ _ _)
    (fun j h h' _ => by
      obtain ⟨t, e1⟩ := g1 j h
      obtain ⟨t', e2⟩ := g2 j h'
      rw [e1, e2]
      exact Ob.RcOp.lt_int _ _ _ _)
  rw [l1, l2, ← hl, Nat.min_self, decide_eq_false (Nat.lt_irrefl _), lexAt_lt hl] at R
  exact R X.prog X.w X.xe (EP X pins σ Q) ⟨.bl _, H, I, rfl, q⟩
theorem op_tupGe (hu : X.A.units < cLine) : OpR X (compareOp .GtE) (rTupI X.K not) := by
  rintro pins s σ H x y v u Q I rx ry ⟨a, b, ns, ms, rfl, rfl, ha, hb, hl, q⟩
  cases rx
  cases ry
  obtain ⟨as, r1, p1, _⟩ := I.tuple ha
  obtain ⟨bs, r2, p2, _⟩ := I.tuple hb
  have i1 := Vals.ints r1
  have i2 := Vals.ints r2
  have l1 : as.toArray.size = ns.length := by rw [List.size_toArray]; exact i1.length
  have l2 : bs.toArray.size = ms.length := by rw [List.size_toArray]; exact i2.length
  have g1 : ∀ j (h : j < as.toArray.size), ∃ t, as.toArray[j] = .int (ns.getD j 0) t := fun j h => PyProof.Rows.IntsAre.int_at i1 _ _ (by simp at h; simp [h])
  have g2 : ∀ j (h : j < bs.toArray.size), ∃ t, bs.toArray[j] = .int (ms.getD j 0) t := fun j h => PyProof.Rows.IntsAre.int_at i2 _ _ (by simp at h; simp [h])
  have R := Ob.RcOp.tuples_ge (A := X.A) (s := s) (e := fun j => decide (ns.getD j 0 = ms.getD j 0)) (r := fun j => decide (ms.getD j 0 ≤ ns.getD j 0)) p1 p2 hu
    (fun j h h' => by
      obtain ⟨t, e1⟩ := g1 j h
      obtain ⟨t', e2⟩ := g2 j h'
      rw [e1, e2, ← eq_dec]
      exact SeqAt.EqAt.int_int _ _ _ _)
    (fun j h h' _ => by
      obtain ⟨t, e1⟩ := g1 j h
      obtain ⟨t', e2⟩ := g2 j h'
      rw [e1, e2]
      exact Ob.RcOp.ge_int _ _ _ _)
  rw [l1, l2, ← hl, Nat.min_self, decide_eq_true (Nat.le_refl _), lexAt_ge hl] at R
  exact R X.prog X.w X.xe (EP X pins σ Q) ⟨.bl _, H, I, rfl, q⟩
theorem opd_tup {f : Value → Value → Sem Value} {g : Bool → Bool} (h : OpR X f (rTupI X.K g)) : OpD X f (gTupI g) := by
  refine ⟨_, h, fun F H v u x y fh bx bY q hq Q k => ?_⟩
  obtain ⟨ns, ms, rfl, rfl, hl, hq⟩ := hq
  obtain ⟨a, rfl, ha⟩ := dp_key (bx.dp fh)
  obtain ⟨b, rfl, hb⟩ := dp_key (bY.dp fh)
  exact ⟨a, b, ns, ms, rfl, rfl, ha, hb, hl, k _ _ F H (Gr.refl fh) (.bl _) hq⟩
theorem o_ltT (hu : X.A.units < cLine) : OpD X (compareOp .Lt) (gTupI id) := opd_tup (op_tupLt hu)
theorem o_geT (hu : X.A.units < cLine) : OpD X (compareOp .GtE) (gTupI not) := opd_tup (op_tupGe hu)
/-! ### sorted(..) of a tuple of whole numbers -/
theorem sorted_tupN {P : Program} {w : World} {A : Around} {E : Value → Shared → Prop} {s : Shared} {a : Addr} {ws : List Value} {ns : List Int} {Q : Value → Shared → Prop} (ht : s.heap.IsTuple a ws.toArray) (hIn : IntsAre ws ns) (hwz : ws.length ≤ sizeLine)
    (hK : ∀ (g1 g' : Heap) (oo : Array Value) (cc : Nat) (ms : List Int), (∀ b o, s.heap.get? b = some o → g1.get? b = some o) → (∀ b o, g1.get? b = some o → g'.get? b = some o) →
      g'.get? g1.objs.size = some (seqObj "list" oo cc) → IntsAre oo.toList ms → ms.Perm ns → ms.Pairwise (· ≤ ·) → Q (.ref g1.objs.size) { s with heap := g' }) :
    wpAny (model P w) A (call (.builtin "sorted") [.ref a]) Q E s := by
  obtain ⟨ob, hob, hcl, nn, hda⟩ := id ht
  refine Calls.call_function_entry kind_sorted plain_sorted entry_sorted (args_sorted1 _) ?_
  unfold Builtin.«sorted»
  refine wpAny_bind (m := checkCount "sorted" 1 1 _) (wpAny_pure ?_)
  refine wpAny_bind (wpAny_collect_seq (A := A.in1) a (.inr rfl) hob hcl hda (fun g1 kp1 => ?_) (by rw [List.size_toArray]; exact hwz))
  rw [show ws.toArray.toList = ws by simp]
  refine wpAny_bind (wpAny_newList ?_ hwz)
  have hLo : (g1.push (seqObj "list" ws.toArray 0)).get? g1.objs.size = some (seqObj "list" ws.toArray 0) := Heap.get?_push_size _ rfl
  refine wpAny_bind (wpAny_holding (wpAny_call_entry slot_list_sort ⟨_, hLo, rfl⟩ entry_list_sort (SrtO.list_sort_ord SrtO.swo_int hLo hwz (fun h2 => SrtO.ints_sortable hIn h2) fun out b1 b2 => ⟨_, rfl, ?_⟩) (args_list_sort _)))
  obtain ⟨k1, k2, k3⟩ := SrtO.ints_out hIn b1 b2
  obtain ⟨c, hcc⟩ := sortedHeap_at (vs := ws) (out := out.toArray) hLo
  refine wpAny_pure ⟨_, rfl, hK g1 _ out.toArray c (out.map SrtO.iv) kp1 (fun b u q => ?_) hcc (by simpa using k1) k2 k3⟩
  have hls := Heap.lt_size q
  show (sortedHeap (g1.push (seqObj "list" ws.toArray 0)) g1.objs.size ws out.toArray).get? b = some u
  rw [sortedHeap_old (Nat.ne_of_lt hls) (by rw [size_push']; exact Nat.lt_succ_of_lt hls)]
  exact Heap.get?_push_of_some _ q
def rSortTupN (K : Frag) : List V → Hp → VK → Prop := fun vs H Q => ∃ (a : Addr) (ns : List Int), vs = [V.ref a] ∧ SqT K H a (ns.map V.int) ∧
  ∀ (ms : List Int) (p : Addr), ms.Perm ns → ms.Pairwise (· ≤ ·) → H p = none → Q (.ref p) (upd H p (.lst (ms.map V.int)))
theorem cr_sortTupN : CallR X (.builtin "sorted") (rSortTupN X.K) := by
  rintro pins s σ H vs us Q I r ⟨a, ns, rfl, ht, q⟩
  obtain ⟨its, rv, pl, hz⟩ := I.tuple ht
  rw [Vals.ref1 r]
  have hi := rv.ints
  refine sorted_tupN pl hi (by rw [← rv.length]; exact hz) fun g1 g' oo cc ms kk1 kk2 hg hii hpm hpw => ?_
  have hlen : (ms.map V.int).length ≤ sizeLine := by
    rw [List.length_map, hpm.length_eq]
    rw [List.length_map] at hz
    exact hz
  have I1 : Inv X pins σ H { s with heap := g1 } := I.kept (t' := s.toks) kk1
  exact ⟨.ref g1.objs.size, upd H g1.objs.size (.lst (ms.map V.int)), I1.laid (t' := s.toks) kk2 (Nat.le_refl _) ⟨hlen, oo.toList, cc, vals_of_ints hii, hg⟩, rfl, q ms _ hpm hpw (I1.hok.fresh (Nat.le_refl _))⟩
/-- sorted(ns), a list or a tuple of whole numbers -/
def lSortSq : List D → (List D → Prop) → Prop := fun xs q => ∃ (u : Bool) (ns : List Int), xs = [sqD u (ns.map .int)] ∧ ∀ ms : List Int, ms.Perm ns → ms.Pairwise (· ≤ ·) → q (ms.map .int)
theorem c_sortSq : CallL X (.builtin "sorted") lSortSq := by
  refine ⟨fun vs H Q => rSortedI X.K vs H Q ∨ rSortTupN X.K vs H Q, fun pins s σ H vs us Q I r h => h.elim (cr_sortedI pins s σ H vs us Q I r) (cr_sortTupN pins s σ H vs us Q I r), fun F H vs xs fh bx q hq Q k => ?_⟩
  obtain ⟨u, ns, rfl, hq⟩ := hq
  obtain ⟨v, rfl, b⟩ := bx.one
  cases u with
  | false =>
    obtain ⟨p, rfl, h1⟩ := lst_ints fh b
    exact .inl ⟨p, ns, rfl, h1, fun ms p2 e1 e2 hp2 => k p2 _ _ F _ (Gr.newO fh hp2) hp2 (fh.free hp2) upd_same (DpAll.ints ms) (hq ms e1 e2)⟩
  | true =>
    obtain ⟨p, rfl, h1⟩ := dp_key (b.dp fh)
    exact .inr ⟨p, ns, rfl, h1, fun ms p2 e1 e2 hp2 => k p2 _ _ F _ (Gr.newO fh hp2) hp2 (fh.free hp2) upd_same (DpAll.ints ms) (hq ms e1 e2)⟩
end
end DL

namespace K43
open PySem PySem.Spec PyProof.Rows L2 DL Builtin.Int
def topS (i : Nat) : Stmt := PySem.Challenge.pw_leastnest_k43_table_judge.main.body.getD i (.Pass ⟨0, 0, 0, 0⟩)
local macro_rules | `(tactic| walk_at "rd") => `(tactic| simp -failIfUnchanged only [sSet, sSetL, sRet, sRetL, sRetO, sRetN, sNext, sBreak, sCont, sDrop, sApp, sAug, sAsg, sPar, sSetI, sPop, sSetPop, sAppPop, dTupRg, sRev, sFrz, frz1, iSeq, iRevD, iRange1, iRange2, iRangeD, rName, rTup, rTL_sq, gMulS_s, gStr1_i, rTL_t, rTL_l, rCons, rNil,
  dLst, dView, tView, lView, view, look, dVar, bVar, dC, d2, d1, l2, tBool, dNil, dCons, dTup, gI, gSubI, gMulI, gFdiv, gMod, gPow, gShl, gShr, gAnd, gXor, gLt, gLe, gGt, gGe, gAdd, gEq, gNe, isNone, gIs, gIsNot, gNeg, lCat, gLen_l, gLen_t, gLen_s, gInt, gAbs, gMax2, gMin2, gTuple_l, gTuple_t, lList_l, lList_t, gGcd, gIsqrt, dCall, lCall, dIsi, dIsi2,
  tAndD, tOrD, tNotD, tTru, truD, dAndV, dOrV, dNotV, dIf, dBits, wipeD, twoD, lComp, oNone, oSome, dSl, lSl, gSl_l, gSl_t, gSl_sq, gSq_l, gSq_t, gSq_sq, lRepL, sNever, dKIn, dKGet, gOr, dCount, dIndex, sSetTk, lTk0, lTk1, lTkc, tTkIn, dTkIn, dTkGet, sTkPut, tInD, lSortSc, sIns, lLstRg, sPopI, gIx_sq, gLen_sq, gTuple_sq, lList_sq, iZipD, gZip_sq, gZip_ts, gZip_st, gZip_ls, gZip_sl, gZip_tt, gZip_ll, gZip_lt, gZip_tl, dFn, dFn0, dFnK, lFn, dFnV, valD, tYesD, eqOk_ii, eqOk_bb, eqOk_ss, eqv_int, eqv_str, eqv_bool, noLst, noLstAll, List.map_cons, List.map_nil, Option.map_some, Option.map_none,
  List.getElem?_cons_zero, List.getElem?_cons_succ, List.set_cons_zero, List.set_cons_succ, true_and, and_true, decide_eq_true_eq, decide_eq_false_iff_not, Bool.not_eq_true', Bool.not_eq_false', beq_iff_eq, beq_eq_false_iff_ne, Bool.true_eq_false, Bool.false_eq_true, false_imp_iff, true_imp_iff, forall_const, reduceCtorEq, ne_eq, not_true_eq_false, not_false_eq_true, Bool.not_true, Bool.not_false, Bool.true_and, Bool.and_true, Bool.false_and, Bool.and_false, Int.reduceToNat, Int.cast_ofNat_Int, eq_self, isTy_none_int, isTy_none_bool, isTy_none_str, isTy_none_list, isTy_none_tuple, isTy_bool_int, isTy_bool_bool, isTy_bool_str, isTy_bool_list, isTy_bool_tuple, isTy_int_int, isTy_int_bool, isTy_int_str, isTy_int_list, isTy_int_tuple, isTy_str_int, isTy_str_bool, isTy_str_str, isTy_str_list, isTy_str_tuple, isTy_list_int, isTy_list_bool, isTy_list_str, isTy_list_list, isTy_list_tuple, isTy_tuple_int, isTy_tuple_bool, isTy_tuple_str, isTy_tuple_list, isTy_tuple_tuple, List.length_cons, List.length_nil, Nat.reduceAdd, Nat.zero_add, ix2_0, ix2_1,
  gIx_l0, gIx_t0, gIx_l1, gIx_t1, gIx_l2, gIx_t2, gIx_l3, gIx_t3, gIx_l4, gIx_t4, gIx_l5, gIx_t5, gIx_l6, gIx_t6, gIx_l7, gIx_t7, gIx_l8, gIx_t8, gIx_l9, gIx_t9, gIx_l10, gIx_t10, gIx_l11, gIx_t11, gIx_l12, gIx_t12, gIx_l13, gIx_t13, gIx_l14, gIx_t14, gIx_l15, gIx_t15])
section
variable {P : Program} {w : World} {K : Frag} {mg : Str → Option Value} {base : Heap}
def wholeD : D → Bool
  | .int _ => true
  | _ => false
theorem toNat_lt {n : Int} {k : Nat} (h : intBits n ≤ k) : n.toNat < 2 ^ k := by
  have := intBits_le_iff.mp h
  omega
theorem bits_nat {n k : Nat} (h : n < 2 ^ k) : intBits (n : Int) ≤ k := intBits_le_iff.mpr (by simpa using h)
theorem fmod_pos {a b : Int} (h : 0 < b) : 0 ≤ a.fmod b ∧ a.fmod b < b := ⟨Int.fmod_nonneg_of_pos a h, Int.fmod_lt_of_pos a h⟩
theorem mul_r {a : Int} {b : Int} (h1 : -(2 ^ 64) < b) (h2 : b < 2 ^ 64) : MulOk a b := ⟨IntMulOk.of_right (intBits_le_64 h1 h2)⟩
theorem mul_l {a : Int} {b : Int} (h1 : -(2 ^ 64) < a) (h2 : a < 2 ^ 64) : MulOk a b := ⟨IntMulOk.of_left (intBits_le_64 h1 h2)⟩
theorem div_small {a b : Int} (h0 : 0 < b) (h1 : b < 2 ^ 30) : CDivZ a b := ⟨by omega, PyProof.noPylong_small (by omega)⟩
/-- drawn places: each below its size -/
def InR : List Int → List Int → Prop
  | [], [] => True
  | r :: rs, s :: ss => (0 ≤ r ∧ r < s) ∧ InR rs ss
  | _, _ => False
theorem InR.length : ∀ {rs ss : List Int}, InR rs ss → rs.length = ss.length
  | [], [], _ => rfl
  | r :: rs, s :: ss, h => by simp [InR.length h.2]
  | [], _ :: _, h => h.elim
  | _ :: _, [], h => h.elim
theorem InR.snoc : ∀ {rs ss : List Int} {r s : Int}, InR rs ss → 0 ≤ r → r < s → InR (rs ++ [r]) (ss ++ [s])
  | [], [], _, _, _, h1, h2 => ⟨⟨h1, h2⟩, trivial⟩
  | r :: rs, s :: ss, _, _, h, h1, h2 => ⟨h.1, InR.snoc h.2 h1 h2⟩
  | [], _ :: _, _, _, h, _, _ => h.elim
  | _ :: _, [], _, _, h, _, _ => h.elim
theorem InR.cons {rs ss : List Int} {s : Int} (h : InR rs (s :: ss)) : ∃ r rs', rs = r :: rs' ∧ (0 ≤ r ∧ r < s) ∧ InR rs' ss := by
  cases rs with
  | nil => exact h.elim
  | cons r rs => exact ⟨r, rs, rfl, h.1, h.2⟩
theorem InR.nil {rs : List Int} (h : InR rs []) : rs = [] := by
  cases rs with
  | nil => rfl
  | cons r rs => exact h.elim
theorem bits_lt {n : Int} {k : Nat} (h : -(2 ^ k) < n) (h' : n < 2 ^ k) : intBits n ≤ k := by
  refine intBits_le_iff.mpr ?_
  have e : (2 : Int) ^ k = ((2 ^ k : Nat) : Int) := by simp
  rw [e] at h h'
  omega
abbrev s__law_cell : Stmt := topS 9
theorem sc__law_cell : FnScope ["script", "k", "seed", "cell"] ["script", "k"] (defScope s__law_cell) := ⟨rfl, rfl, rfl, by decide +kernel, rfl, by decide +kernel, by decide +kernel⟩
def f__law_cell : FD := fun ds q => ∃ (ns : List Int) (k : Int), ds = [.list (ns.map .int), .int k] ∧ 0 ≤ k ∧ (∀ i ∈ ns, intBits i ≤ 1048576) ∧ ∀ v, intBits v ≤ 1048576 → q (.val (.int v))
theorem ok__law_cell {f fd} {k : Nat} (F : Fun K "_law_cell" "_law_cell" s__law_cell f fd) (hdg : base.NoDigits) (m_int : mg "int" = none) (m_len : mg "len" = none) : FnG P w K mg base (k + 1) f fd ["script", "k"] (SpD K 2 f__law_cell) := by
  refine fnD F sc__law_cell fun cdv A outer s H E gA hr => ?_
  have hu := hr.units
  have nd := sc__law_cell.nd
  refine ⟨_, (ss_cons (st_if (dt_cmp o_lt (bv 1) (DE.toB (de_B c_len m_len (ab_cons (bv 0) ab_nil)))) (ss_one (st_ret (de_T c_int m_int (ab_cons (DE.toB (de_ix x_ix (bv 0) (bv 1))) ab_nil)))) ss_nil)
    (ss_cons (st_set (i := 2) nd de_int)
    (ss_cons (st_for (i_seq (dv 0)) (tg_name (i := 3) nd) (ss_one (st_set (i := 2) nd (de_op o_mod (DE.toB (de_T c_int m_int (ab_cons (DE.toB (de_op o_add (DE.toB (de_op o_mul (bv 2) (DE.toB de_int))) (DE.toB (de_op o_mod (DE.toB (de_T c_int m_int (ab_cons (bv 3) ab_nil))) (DE.toB de_int))))) ab_nil))) (DE.toB de_int)))))
    (ss_one (st_ret (de_op o_mod (DE.toB (de_T c_int m_int (ab_cons (DE.toB (de_op o_mul (DE.toB (de_op o_mul (DE.toB (de_op o_add (bv 2) (DE.toB de_int))) (DE.toB (de_op o_add (bv 1) (DE.toB de_int))))) (DE.toB de_int))) ab_nil))) (DE.toB de_int))))))), ?_⟩
  clear F nd hu hr gA E H s outer A cdv hdg m_int m_len
  intro ds q hl hg
  obtain ⟨ns, k0, rfl, h0, hb, hq⟩ := hg
  show sSeq _ _ _ [some (.val (.list (ns.map .int))), some (.val (.int k0)), none, none]
  refine sq_i fun k hk => if_n fun T hT => ?_
  walk_at "rd"
  refine ⟨fun h => ?_, fun h => ?_⟩
  · subst hT
    walk_at "rd"
    have h' : k0 < ns.length := by simpa using h
    refine gIx_ints (fun n => n ∈ ns) h0 h' (fun n e => List.mem_of_getElem? e) fun n hn => ?_
    walk_at "rd"
    exact hq n (hb n hn)
  · subst hk
    refine sq_i fun k hk => ?_
    walk_at "rd"
    subst hk
    refine sq_i fun k hk => for_in fun W hW => ?_
    walk_at "rd"
    subst hW
    refine for_map (fun _ ρ => ∃ (s : Int) (y : Option DV), ρ = [some (.val (.list (ns.map .int))), some (.val (.int k0)), some (.val (.int s)), y] ∧ 0 ≤ s ∧ s < 1000003) ns ⟨17, none, rfl, by decide, by decide⟩ ?_ ?_
    · rintro _ ⟨s, y, rfl, h1, h2⟩
      subst hk
      walk_at "rd"
      refine ⟨mul_l (by omega) (by omega), mul_r (by decide) (by decide), by decide, hq _ ?_⟩
      have := fmod_pos (a := (s + 7) * (k0 + 3) * 69621) (b := 2147483647) (by decide)
      exact intBits_le_iff.mpr (Nat.lt_of_lt_of_le (m := 2 ^ 31) (by omega) (Nat.pow_le_pow_right (by decide) (by decide)))
    · rintro a r _ ⟨s, y, rfl, h1, h2⟩ k1 hk1
      walk_at "rd"
      refine ⟨mul_r (by decide) (by decide), by decide, by decide, hk1 _ ⟨_, _, rfl, ?_⟩⟩
      exact fmod_pos (by decide)
theorem len63 {n : Nat} (h : n ≤ 1000) : Fit (n + 1) := Fit.of (by omega)
abbrev s__law_digits : Stmt := topS 10
theorem sc__law_digits : FnScope ["cell", "sizes", "total", "size", "row", "seed", "k", "rest", "twice"] ["cell", "sizes"] (defScope s__law_digits) := ⟨rfl, rfl, rfl, by decide +kernel, rfl, by decide +kernel, by decide +kernel⟩
def f__law_digits : FD := fun ds q => ∃ (c : Int) (ss : List Int), ds = [.int c, .list (ss.map .int)] ∧ ss.length ≤ 100 ∧ (∀ s ∈ ss, 0 < s ∧ s < 2 ^ 30) ∧ ∀ rs : List Int, InR rs ss → q (.own (rs.map .int))
theorem ok__law_digits {f fd} {k : Nat} (F : Fun K "_law_digits" "_law_digits" s__law_digits f fd) (hdg : base.NoDigits) (m_int : mg "int" = none) (m_len : mg "len" = none) (m_range : mg "range" = none) : FnG P w K mg base (k + 1) f fd ["cell", "sizes"] (SpD K 2 f__law_digits) := by
  refine fnD F sc__law_digits fun cdv A outer s H E gA hr => ?_
  have hu := hr.units
  have nd := sc__law_digits.nd
  refine ⟨_, (ss_cons (st_set (i := 2) nd de_int)
    (ss_cons (st_for (i_seq (dv 1)) (tg_name (i := 3) nd) (ss_one (st_set (i := 2) nd (de_op o_mul (bv 2) (bv 3)))))
    (ss_cons (st_setL (i := 4) nd (dl_lst da_nil))
    (ss_cons (st_if (dt_cmp o_ge (DE.toB (de_T c_int m_int (ab_cons (bv 0) ab_nil))) (DE.toB (de_op o_pow (DE.toB de_int) (DE.toB de_int)))) (ss_cons (st_set (i := 7) nd (de_op o_mod (DE.toB (de_T c_int m_int (ab_cons (DE.toB (de_op o_sub (DE.toB (de_T c_int m_int (ab_cons (bv 0) ab_nil))) (DE.toB (de_op o_pow (DE.toB de_int) (DE.toB de_int))))) ab_nil))) (bv 2)))
    (ss_cons (st_for (i_seq (dv 1)) (tg_name (i := 3) nd) (ss_cons (st_app (i := 4) (de_op o_mod (DE.toB (de_T c_int m_int (ab_cons (bv 7) ab_nil))) (bv 3)))
    (ss_one (st_set (i := 7) nd (de_op o_fdiv (DE.toB (de_T c_int m_int (ab_cons (bv 7) ab_nil))) (bv 3))))))
    (ss_one (st_retO 4)))) ss_nil)
    (ss_cons (st_set (i := 5) nd (de_op o_mod (DE.toB (de_T c_int m_int (ab_cons (bv 0) ab_nil))) (DE.toB de_int)))
    (ss_cons (st_for (i_range1 (de_B c_len m_len (ab_cons (bv 1) ab_nil)) m_range) (tg_name (i := 6) nd) (ss_cons (st_set (i := 5) nd (de_op o_mod (DE.toB (de_T c_int m_int (ab_cons (DE.toB (de_op o_add (DE.toB (de_op o_add (DE.toB (de_op o_mul (bv 5) (DE.toB de_int))) (DE.toB (de_op o_mul (DE.toB de_int) (bv 6))))) (DE.toB de_int))) ab_nil))) (DE.toB de_int)))
    (ss_cons (st_set (i := 8) nd (de_op o_mod (DE.toB (de_T c_int m_int (ab_cons (DE.toB (de_op o_mul (bv 5) (DE.toB (de_op o_add (DE.toB (de_op o_fdiv (bv 5) (DE.toB de_int))) (DE.toB de_int))))) ab_nil))) (DE.toB de_int)))
    (ss_one (st_app (i := 4) (de_op o_mod (DE.toB (de_T c_int m_int (ab_cons (DE.toB (de_op o_fdiv (bv 8) (DE.toB de_int))) ab_nil))) (DE.toB (de_ix x_ix (bv 1) (bv 6)))))))))
    (ss_one (st_retO 4)))))))), ?_⟩
  clear F nd hu hr gA E H s outer A cdv hdg m_int m_len m_range
  intro ds q hl hg
  obtain ⟨c, ss, rfl, hlen, hs, hq⟩ := hg
  show sSeq _ _ _ [some (.val (.int c)), some (.val (.list (ss.map .int))), none, none, none, none, none, none, none]
  refine sq_i fun k hk => ?_
  walk_at "rd"
  subst hk
  refine sq_i fun k hk => for_in fun W hW => ?_
  walk_at "rd"
  subst hW
  refine for_map (fun r ρ => (∀ s ∈ r, 0 < s ∧ s < 2 ^ 30) ∧ ∃ (t : Int) (y : Option DV), ρ = [some (.val (.int c)), some (.val (.list (ss.map .int))), some (.val (.int t)), y, none, none, none, none, none] ∧ 0 < t) ss ⟨hs, 1, none, rfl, by decide⟩ ?_ ?_
  · rintro _ ⟨-, t, y, rfl, h1⟩
    subst hk
    refine sq_i fun k hk => ?_
    walk_at "rd"
    subst hk
    refine sq_i fun k hk => if_n fun T hT => ?_
    walk_at "rd"
    refine ⟨by decide, fun h => ?_, fun h => ?_⟩
    · subst hT
      refine sq_i fun k hk => ?_
      walk_at "rd"
      refine ⟨by decide, by omega, ?_⟩
      subst hk
      refine sq_i fun k hk => for_in fun W hW => ?_
      walk_at "rd"
      subst hW
      refine for_map (fun r ρ => ∃ (rs done : List Int) (z : Int) (y : Option DV), ρ = [some (.val (.int c)), some (.val (.list (ss.map .int))), some (.val (.int t)), y, some (.own (rs.map .int)), none, none, some (.val (.int z)), none] ∧ ss = done ++ r ∧ InR rs done) ss ⟨[], [], _, y, rfl, rfl, trivial⟩ ?_ ?_
      · rintro _ ⟨rs, done, z, y, rfl, e, hr⟩
        subst hk
        walk_at "rd"
        rw [List.append_nil] at e
        subst e
        exact hq rs hr
      · rintro a r _ ⟨rs, done, z, y, rfl, e, hr⟩ k1 hk1
        have ha := hs a (by rw [e]; simp)
        refine sq_i fun k2 hk2 => ?_
        walk_at "rd"
        have := hr.length
        have h3 : done.length + (r.length + 1) = ss.length := by rw [e]; simp
        refine ⟨by rw [List.length_map]; exact len63 (by omega), by omega, ?_⟩
        subst hk2
        walk_at "rd"
        refine ⟨div_small ha.1 ha.2, hk1 _ ⟨rs ++ [z.fmod a], done ++ [a], z.fdiv a, _, by simp only [List.map_append, List.map_cons, List.map_nil]; rfl, by rw [e]; simp, hr.snoc (fmod_pos ha.1).1 (fmod_pos ha.1).2⟩⟩
    · subst hk
      refine sq_i fun k hk => ?_
      walk_at "rd"
      refine ⟨by decide, ?_⟩
      subst hk
      refine sq_i fun k hk => for_in fun W hW => ?_
      walk_at "rd"
      refine ⟨Rng.of (by omega) (by simp; omega), ?_⟩
      subst hW
      simp only [List.length_map, Int.toNat_natCast]
      refine for_up (fun i ρ => ∃ (rs : List Int) (z : Int) (y y2 y3 : Option DV), ρ = [some (.val (.int c)), some (.val (.list (ss.map .int))), some (.val (.int t)), y, some (.own (rs.map .int)), some (.val (.int z)), y2, none, y3] ∧ InR rs (ss.take i) ∧ 0 ≤ z ∧ z < 2147483648) 0 ss.length ⟨[], _, _, none, none, rfl, by simp [InR], (fmod_pos (by decide)).1, Int.lt_trans (fmod_pos (by decide)).2 (by decide)⟩ ?_ ?_
      · rintro _ ⟨rs, z, y, y2, y3, rfl, hr, h3, h4⟩
        subst hk
        walk_at "rd"
        rw [List.take_length] at hr
        exact hq rs hr
      · rintro i _ hi ⟨rs, z, y, y2, y3, rfl, hr, h3, h4⟩ k1 hk1
        walk_at "rd"
        simp only [Int.zero_add]
        refine sq_i fun k2 hk2 => ?_
        walk_at "rd"
        refine ⟨mul_r (by decide) (by decide), mul_r (by omega) (by omega), by decide, ?_⟩
        have hz := fmod_pos (a := z * 48271 + 974711 * (i : Int) + 12345) (b := 2147483647) (by decide)
        generalize (z * 48271 + 974711 * (i : Int) + 12345).fmod 2147483647 = z' at hz ⊢
        subst hk2
        refine sq_i fun k2 hk2 => ?_
        walk_at "rd"
        have hd : z'.fdiv 65537 = z' / 65537 := Int.fdiv_eq_ediv_of_nonneg _ (by decide)
        refine ⟨div_small (by decide) (by decide), ?_⟩
        rw [hd]
        refine ⟨mul_r (by omega) (by omega), by decide, ?_⟩
        subst hk2
        walk_at "rd"
        have hs' := List.getElem?_eq_getElem hi
        have hm := hs _ (List.getElem_mem hi)
        have := hr.length
        rw [List.length_take] at this
        refine ⟨by rw [List.length_map]; exact len63 (by omega), div_small (by decide) (by decide), ?_⟩
        refine gIx_N (d := .int ss[i]) (by rw [List.getElem?_map, hs']; rfl) ?_
        walk_at "rd"
        refine ⟨by omega, hk1 _ ⟨rs ++ [_], z', _, _, _, by simp only [List.map_append, List.map_cons, List.map_nil]; rfl, ?_, hz.1, by omega⟩⟩
        rw [List.take_add_one, hs']
        exact hr.snoc (fmod_pos hm.1).1 (fmod_pos hm.1).2
  · rintro a r _ ⟨h0, t, y, rfl, h1⟩ k1 hk1
    have ha := h0 a List.mem_cons_self
    walk_at "rd"
    exact ⟨mul_r (by omega) (by omega), hk1 _ ⟨fun s hs => h0 s (List.mem_cons_of_mem _ hs), _, _, rfl, Int.mul_pos h1 ha.1⟩⟩
abbrev s__law_gcd : Stmt := topS 11
theorem sc__law_gcd : FnScope ["one", "two", "left", "right", "rest"] ["one", "two"] (defScope s__law_gcd) := ⟨rfl, rfl, rfl, by decide +kernel, rfl, by decide +kernel, by decide +kernel⟩
def f__law_gcd : FD := fun ds q => ∃ a b : Int, ds = [.int a, .int b] ∧ q (.val (.int (Nat.gcd a.natAbs b.natAbs : Nat)))
theorem ok__law_gcd {f fd} {k : Nat} (F : Fun K "_law_gcd" "_law_gcd" s__law_gcd f fd) (hdg : base.NoDigits) (m_abs : mg "abs" = none) (m_int : mg "int" = none) : FnG P w K mg base (k + 1) f fd ["one", "two"] (SpD K 2 f__law_gcd) := by
  refine fnD F sc__law_gcd fun cdv A outer s H E gA hr => ?_
  have hu := hr.units
  have nd := sc__law_gcd.nd
  refine ⟨_, (ss_cons (st_set (i := 2) nd (de_B c_abs m_abs (ab_cons (bv 0) ab_nil)))
    (ss_cons (st_set (i := 3) nd (de_B c_abs m_abs (ab_cons (bv 1) ab_nil)))
    (ss_cons (st_while (dt_cmp (o_ne hu) (bv 3) (DE.toB de_int)) (ss_cons (st_set (i := 4) nd (de_op o_mod (DE.toB (de_T c_int m_int (ab_cons (bv 2) ab_nil))) (bv 3)))
    (ss_cons (st_set (i := 2) nd (dv 3))
    (ss_one (st_set (i := 3) nd (dv 4))))))
    (ss_one (st_ret (dv 2)))))), ?_⟩
  clear F nd hu hr gA E H s outer A cdv hdg m_abs m_int
  intro ds q hl hg
  obtain ⟨a, b, rfl, hq⟩ := hg
  have ab : ∀ x : Int, (if x < 0 then -x else x) = (x.natAbs : Int) := fun x => by omega
  show sSeq _ _ _ [some (.val (.int a)), some (.val (.int b)), none, none, none]
  refine sq_i fun k hk => ?_
  walk_at "rd"
  subst hk
  refine sq_i fun k hk => ?_
  walk_at "rd"
  rw [ab, ab]
  subst hk
  refine sq_i fun k hk => while_i (fun m ρ => ∃ (x y : Nat) (z : Option DV), ρ = [some (.val (.int a)), some (.val (.int b)), some (.val (.int x)), some (.val (.int y)), z] ∧ y = m ∧ Nat.gcd x y = Nat.gcd a.natAbs b.natAbs) b.natAbs ⟨_, _, none, rfl, rfl, rfl⟩ ?_
  rintro _ _ ⟨x, y, z, rfl, rfl, e⟩ k1 hk1
  walk_at "rd"
  refine ⟨fun h => ?_, fun h => ?_⟩
  · refine sq_i fun k2 hk2 => ?_
    walk_at "rd"
    refine ⟨h, ?_⟩
    subst hk2
    refine sq_i fun k2 hk2 => ?_
    walk_at "rd"
    subst hk2
    walk_at "rd"
    subst hk1
    have hm : (x : Int).fmod (y : Int) = ((x % y : Nat) : Int) := by rw [Int.fmod_eq_emod_of_nonneg _ (by omega)]; rfl
    rw [hm]
    have h' : 0 < y := by omega
    refine ⟨x % y, Nat.mod_lt _ h', y, x % y, _, rfl, rfl, ?_⟩
    rw [← e, Nat.gcd_comm x y, Nat.gcd_rec y x, Nat.gcd_comm]
  · subst hk
    walk_at "rd"
    have h' : y = 0 := by omega
    subst h'
    rw [Nat.gcd_zero_right] at e
    rw [e]
    exact hq

open TV
/-- whole numbers as data -/
abbrev inD (l : List Int) : List D := l.map .int
theorem noLst_ints : ∀ l : List Int, noLstAll (inD l) = true
  | [] => rfl
  | n :: r => by simp [inD, noLstAll, noLst]; exact noLst_ints r
theorem ints_get {l : List Int} {j : Nat} (h : j < l.length) : (inD l)[j]? = some (.int (fn l j)) := by
  simp [fn, h]
theorem fn_get {l : List Int} {j : Nat} (h : j < l.length) : l[j]? = some (fn l j) := by simp [fn, h]
/-- an item of whole numbers -/
theorem ix_ints {l : List Int} {i : Int} {j : Nat} {q : D → Prop} (e : i = (j : Int)) (h : j < l.length) (hq : q (.int (fn l j))) : gIx (.list (inD l)) (.int i) q := by
  subst e
  exact gIx_N (ints_get h) hq
/-- radicands, as lists or tuples -/
def RadD (d : D) (L : List (List Int)) : Prop := ∃ t xs, d = sqD t xs ∧ xs.length = L.length ∧ ∀ (k : Nat) l, L[k]? = some l → ∃ u, xs[k]? = some (sqD u (inD l))
def RadOk (r : Nat) (L : List (List Int)) : Prop := ∀ (k : Nat) l, L[k]? = some l → l.length = 2 ^ k ∧ BdL r l
def rsF (L : List (List Int)) : Nat → Nat → Int := fun k => fn (L.getD k [])
theorem rsF_bits {r : Nat} {L : List (List Int)} (h : RadOk r L) (k j : Nat) : intBits (rsF L k j) ≤ r := by
  unfold rsF
  rw [List.getD_eq_getElem?_getD]
  cases e : L[k]? with
  | none => exact BdL.fn (l := []) (fun i hi => by cases hi) j
  | some l => exact BdL.fn (h k l e).2 j
theorem rsF_sup {r : Nat} {L : List (List Int)} (h : RadOk r L) (k j : Nat) (hj : 2 ^ k ≤ j) : rsF L k j = 0 := by
  unfold rsF
  rw [List.getD_eq_getElem?_getD]
  cases e : L[k]? with
  | none => rfl
  | some l =>
    have := (h k l e).1
    show fn l j = 0
    unfold fn
    rw [List.getD_eq_getElem?_getD, List.getElem?_eq_none (by omega)]
    rfl
theorem RadD.ix {d : D} {L : List (List Int)} (h : RadD d L) {i : Int} {k : Nat} {l : List Int} {q : D → Prop} (e : i = (k : Int)) (hl : L[k]? = some l) (hq : ∀ u, q (sqD u (inD l))) : gIx d (.int i) q := by
  obtain ⟨t, xs, rfl, hlen, hx⟩ := h
  obtain ⟨u, hu⟩ := hx k l hl
  subst e
  rw [gIx_sq]
  exact gIx_N hu (hq u)
theorem getD_some {L : List (List Int)} {k : Nat} {l : List Int} (h : L[k]? = some l) : L.getD k [] = l := by rw [List.getD_eq_getElem?_getD, h]; rfl
/-- comprehensions -/
theorem lc_f {g : RG} {tt : RT} {de : RE} {vs : List Nat} {ρ : Rho} {q : List D → Prop} {α : Type} {emb : α → D} (f : α → D) (xs : List α) (hq : q (xs.map f))
    (hs : ∀ a ∈ xs, ∀ (q : D → Prop) (Z : Prop), q (f a) → g (emb a) (wipeD ρ vs) fun ρ1 => tt ρ1 fun b => (b = true → de ρ1 q) ∧ (b = false → Z)) : lcD g tt de vs (xs.map emb) ρ q := by
  induction xs generalizing q with
  | nil => exact hq
  | cons a r ih => exact hs a List.mem_cons_self _ _ (ih hq fun a ha => hs a (List.mem_cons_of_mem _ ha))
theorem lc_p {g : RG} {tt : RT} {de : RE} {vs : List Nat} {ρ : Rho} {q : List D → Prop} {α : Type} {emb : α → D} (p : α → Bool) (f : α → D) (xs : List α) (hq : q ((xs.filter p).map f))
    (hs : ∀ a ∈ xs, ∀ (q : D → Prop) (Z : Prop), (p a = true → q (f a)) → (p a = false → Z) → g (emb a) (wipeD ρ vs) fun ρ1 => tt ρ1 fun b => (b = true → de ρ1 q) ∧ (b = false → Z)) : lcD g tt de vs (xs.map emb) ρ q := by
  induction xs generalizing q with
  | nil => exact hq
  | cons a r ih =>
    have ih' := fun {q : List D → Prop} (h : q ((r.filter p).map f)) => ih (q := q) h fun a ha => hs a (List.mem_cons_of_mem _ ha)
    refine hs a List.mem_cons_self _ _ (fun e => ih' ?_) fun e => ih' ?_
    · rw [List.filter_cons_of_pos e] at hq; exact hq
    · rw [List.filter_cons_of_neg (by rw [e]; decide)] at hq; exact hq
theorem lc_ints {g : RG} {tt : RT} {de : RE} {vs : List Nat} {ρ : Rho} {q : List D → Prop} {α : Type} {emb : α → D} (f : α → Int) (xs : List α) (hq : q (inD (xs.map f)))
    (hs : ∀ a ∈ xs, ∀ (q : D → Prop) (Z : Prop), q (.int (f a)) → g (emb a) (wipeD ρ vs) fun ρ1 => tt ρ1 fun b => (b = true → de ρ1 q) ∧ (b = false → Z)) : lcD g tt de vs (xs.map emb) ρ q :=
  lc_f (fun a => .int (f a)) xs (by unfold inD at hq; rw [List.map_map] at hq; exact hq) hs
/-- over range(n) -/
theorem lc_up {g : RG} {tt : RT} {de : RE} {vs : List Nat} {ρ : Rho} {q : List D → Prop} (f : Nat → D) (n : Nat) (hq : q ((List.range n).map f))
    (hs : ∀ i, i < n → ∀ (q : D → Prop) (Z : Prop), q (f i) → g (.int (i : Int)) (wipeD ρ vs) fun ρ1 => tt ρ1 fun b => (b = true → de ρ1 q) ∧ (b = false → Z)) : lcD g tt de vs (upTo 0 n) ρ q := by
  have e : upTo 0 n = (List.range n).map fun i : Nat => PyData.int (i : Int) := by
    refine List.ext_getElem? fun i => ?_
    by_cases h : i < n
    · rw [upTo_get 0 n i h]
      simp [h]
    · rw [List.getElem?_eq_none (by rw [upTo_length]; omega), List.getElem?_eq_none (by simp; omega)]
  rw [e]
  exact lc_f f _ hq fun i hi => hs i (by simpa using hi)
theorem zip_ints (l m : List Int) : List.zipWith twoD (inD l) (inD m) = (l.zip m).map fun x => twoD (.int x.1) (.int x.2) := by
  rw [List.zipWith_map, List.zip, List.map_zipWith]
theorem fit_len {n : Nat} (h : n ≤ 100000) : Fit n := Fit.of (by omega)
/-- the product -/
def mulL (L : List (List Int)) (n : Nat) (x y : List Int) : List Int := ofT (toT (rsF L) n x * toT (rsF L) n y)
theorem mulL_length (L : List (List Int)) (n : Nat) (x y : List Int) : (mulL L n x y).length = 2 ^ n := ofT_length _
theorem toT_mulL (L : List (List Int)) (n : Nat) (x y : List Int) : toT (rsF L) n (mulL L n x y) = toT (rsF L) n x * toT (rsF L) n y := toT_ofT _
theorem mulL_bits {L : List (List Int)} {r n a b : Nat} {x y : List Int} (h : RadOk r L) (hx : BdL a x) (hy : BdL b y) : BdL (a + b + gro r n) (mulL L n x y) :=
  (mul_bd (fun k j _ => rsF_bits h k j) hx.toT hy.toT).ofT
theorem toT_zero (L : Nat → Nat → Int) (n : Nat) {l : List Int} (h : l.all (· == 0) = true) : toT L n l = 0 := by
  rw [← Tf_nil]
  refine Tf_congr fun j _ => ?_
  unfold fn
  rw [List.getD_eq_getElem?_getD]
  cases e : l[j]? with
  | none => rfl
  | some i =>
    have := List.all_eq_true.mp h i (List.mem_of_getElem? e)
    simpa using this
theorem ofT_zero (L : Nat → Nat → Int) (n : Nat) : ofT (0 : T L n) = List.replicate (2 ^ n) 0 := by
  rw [← toT_zero L n (l := List.replicate (2 ^ n) 0) (by simp), ofT_toT _ (by simp)]
theorem zip_add {L : Nat → Nat → Int} {n : Nat} (s t : T L n) : ((ofT s).zip (ofT t)).map (fun x => x.1 + x.2) = ofT (s + t) := by
  refine List.ext_getElem (by simp [ofT_length]) fun i h1 h2 => ?_
  simp only [ofT_length] at h2
  simp [ofT, cf_add]
theorem zip_sub {L : Nat → Nat → Int} {n : Nat} (s t : T L n) : ((ofT s).zip (ofT t)).map (fun x => x.1 - x.2) = ofT (s - t) := by
  refine List.ext_getElem (by simp [ofT_length]) fun i h1 h2 => ?_
  simp only [ofT_length] at h2
  simp [ofT, cf_sub]
end
end K43

namespace K43
open PySem PySem.Spec PyProof.Rows L2 DL Builtin.Int
local macro_rules | `(tactic| walk_at "rd") => `(tactic| simp -failIfUnchanged only [sSet, sSetL, sRet, sRetL, sRetO, sRetN, sNext, sBreak, sCont, sDrop, sApp, sAug, sAsg, sPar, sSetI, sPop, sSetPop, sAppPop, dTupRg, sRev, sFrz, frz1, iSeq, iRevD, iRange1, iRange2, iRangeD, rName, rTup, rTL_sq, gMulS_s, gStr1_i, rTL_t, rTL_l, rCons, rNil,
  dLst, dView, tView, lView, view, look, dVar, bVar, dC, d2, d1, l2, tBool, dNil, dCons, dTup, gI, gSubI, gMulI, gFdiv, gMod, gPow, gShl, gShr, gAnd, gXor, gLt, gLe, gGt, gGe, gAdd, gEq, gNe, isNone, gIs, gIsNot, gNeg, lCat, gLen_l, gLen_t, gLen_s, gInt, gAbs, gMax2, gMin2, gTuple_l, gTuple_t, lList_l, lList_t, gGcd, gIsqrt, dCall, lCall, dIsi, dIsi2,
  tAndD, tOrD, tNotD, tTru, truD, dAndV, dOrV, dNotV, dIf, dBits, wipeD, twoD, lComp, oNone, oSome, dSl, lSl, gSl_l, gSl_t, gSl_sq, gSq_l, gSq_t, gSq_sq, lRepL, sNever, dKIn, dKGet, gOr, dCount, dIndex, sSetTk, lTk0, lTk1, lTkc, tTkIn, dTkIn, dTkGet, sTkPut, tInD, lSortSc, sIns, lLstRg, sPopI, gIx_sq, gLen_sq, gTuple_sq, lList_sq, iZipD, gZip_sq, gZip_ts, gZip_st, gZip_ls, gZip_sl, gZip_tt, gZip_ll, gZip_lt, gZip_tl, dFn, dFn0, dFnK, lFn, dFnV, valD, tYesD, eqOk_ii, eqOk_bb, eqOk_ss, eqv_int, eqv_str, eqv_bool, noLst, noLstAll, List.map_cons, List.map_nil, Option.map_some, Option.map_none,
  List.getElem?_cons_zero, List.getElem?_cons_succ, List.set_cons_zero, List.set_cons_succ, true_and, and_true, decide_eq_true_eq, decide_eq_false_iff_not, Bool.not_eq_true', Bool.not_eq_false', beq_iff_eq, beq_eq_false_iff_ne, Bool.true_eq_false, Bool.false_eq_true, false_imp_iff, true_imp_iff, forall_const, reduceCtorEq, ne_eq, not_true_eq_false, not_false_eq_true, Bool.not_true, Bool.not_false, Bool.true_and, Bool.and_true, Bool.false_and, Bool.and_false, Int.reduceToNat, Int.cast_ofNat_Int, eq_self, isTy_none_int, isTy_none_bool, isTy_none_str, isTy_none_list, isTy_none_tuple, isTy_bool_int, isTy_bool_bool, isTy_bool_str, isTy_bool_list, isTy_bool_tuple, isTy_int_int, isTy_int_bool, isTy_int_str, isTy_int_list, isTy_int_tuple, isTy_str_int, isTy_str_bool, isTy_str_str, isTy_str_list, isTy_str_tuple, isTy_list_int, isTy_list_bool, isTy_list_str, isTy_list_list, isTy_list_tuple, isTy_tuple_int, isTy_tuple_bool, isTy_tuple_str, isTy_tuple_list, isTy_tuple_tuple, List.length_cons, List.length_nil, Nat.reduceAdd, Nat.zero_add, ix2_0, ix2_1,
  gIx_l0, gIx_t0, gIx_l1, gIx_t1, gIx_l2, gIx_t2, gIx_l3, gIx_t3, gIx_l4, gIx_t4, gIx_l5, gIx_t5, gIx_l6, gIx_t6, gIx_l7, gIx_t7, gIx_l8, gIx_t8, gIx_l9, gIx_t9, gIx_l10, gIx_t10, gIx_l11, gIx_t11, gIx_l12, gIx_t12, gIx_l13, gIx_t13, gIx_l14, gIx_t14, gIx_l15, gIx_t15])
section
variable {P : Program} {w : World} {K : Frag} {mg : Str → Option Value} {base : Heap}
open TV PM
/-- whole numbers from 0 up, as data -/
def inN (p : List Nat) : List D := p.map fun i => .int (i : Nat)
theorem inN_len (p : List Nat) : (inN p).length = p.length := by simp [inN]
theorem inN_get {p : List Nat} {j : Nat} (h : j < p.length) : (inN p)[j]? = some (.int (PM.g p j : Nat)) := by
  simp [inN, PM.g, h]
theorem ixP {p : List Nat} {i : Int} {j : Nat} {q : D → Prop} (e : i = (j : Int)) (h : j < p.length) (hq : q (.int (PM.g p j : Nat))) : gIx (.list (inN p)) (.int i) q := by
  subst e
  exact gIx_N (inN_get h) hq
theorem inN_app (p r : List Nat) : inN p ++ inN r = inN (p ++ r) := by unfold inN; rw [List.map_append]
theorem inN_set {p : List Nat} {i x : Nat} : (inN p).set i (.int (x : Nat)) = inN (p.set i x) := by unfold inN; rw [List.map_set]
theorem ixN_at {n j : Nat} {i : Int} (e : i = (j : Int)) (h : j < n) : ixN n i = some j := by
  subst e
  unfold ixN
  rw [if_pos (by omega), if_pos (by omega)]
  rfl
theorem ixN_P {p : List Nat} {i : Int} {j : Nat} (e : i = (j : Int)) (h : j < p.length) : ixN (inN p).length i = some j := ixN_at e (by rw [inN_len]; exact h)
theorem inN_rep (n : Nat) : (List.range n).map (fun _ => PyData.int 0) = inN (List.replicate n 0) := by
  rw [List.map_const', List.length_range, inN, List.map_replicate]
  rfl
theorem inN_range (n : Nat) : (List.range n).map (fun i => PyData.int (i : Nat)) = inN (List.range n) := rfl
theorem g_rep {n i : Nat} : PM.g (List.replicate n 0) i = 0 := by
  simp only [PM.g, List.getD_eq_getElem?_getD, List.getElem?_replicate]
  split <;> rfl
theorem g_set {b : List Nat} {i j x : Nat} (h : i < b.length) : PM.g (b.set i x) j = if j = i then x else PM.g b j := by
  simp only [PM.g, List.getD_eq_getElem?_getD, List.getElem?_set]
  by_cases c : i = j
  · subst c
    simp [h]
  · rw [if_neg c, if_neg (fun z => c z.symm)]
theorem mem_g {p : List Nat} {x : Nat} (h : x ∈ p) : ∃ i, i < p.length ∧ PM.g p i = x := by
  obtain ⟨i, hi, e⟩ := List.getElem_of_mem h
  exact ⟨i, hi, by simp [PM.g, hi, e]⟩
theorem lc_nat {g : RG} {tt : RT} {de : RE} {vs : List Nat} {ρ : Rho} {q : List D → Prop} (f : Nat → Nat) (p : List Nat) (hq : q (inN (p.map f)))
    (hs : ∀ a ∈ p, ∀ (q : D → Prop) (Z : Prop), q (.int (f a : Nat)) → g (.int (a : Nat)) (wipeD ρ vs) fun ρ1 => tt ρ1 fun b => (b = true → de ρ1 q) ∧ (b = false → Z)) : lcD g tt de vs (inN p) ρ q := by
  refine lc_f (emb := fun i : Nat => PyData.int (i : Nat)) (fun i => .int (f i : Nat)) p ?_ hs
  have e : p.map (fun i => PyData.int (f i : Nat)) = inN (p.map f) := by unfold inN; rw [List.map_map]; rfl
  rw [e]
  exact hq
abbrev s_compose : Stmt := topS 1
theorem sc_compose : FnScope ["one", "two", "entry"] ["one", "two"] (defScope s_compose) := ⟨rfl, rfl, rfl, by decide +kernel, rfl, by decide +kernel, by decide +kernel⟩
def f_compose : FD := fun ds q => ∃ (t u : Bool) (a b : List Nat), ds = [sqD t (inN a), sqD u (inN b)] ∧ (∀ x ∈ b, x < a.length) ∧ b.length ≤ 1000 ∧ q (.val (.tuple (inN (cmp a b))))
theorem ok_compose {f fd} {k : Nat} (F : Fun K "compose" "compose" s_compose f fd) (hdg : base.NoDigits) (m_tuple : mg "tuple" = none) : FnG P w K mg base (k + 1) f fd ["one", "two"] (SpD K 2 f_compose) := by
  refine fnD F sc_compose fun cdv A outer s H E gA hr => ?_
  have hu := hr.units
  have nd := sc_compose.nd
  refine ⟨_, (ss_one (st_ret (de_T c_tuple m_tuple (ab_cons (DE.toB (DLs.toE (dl_lc (own := [("entry", 2)]) nd (i_seqC (bv 1)) (gw_name (i := 2) nd) dts_nil (fun _ _ _ _ _ => (de_ix x_ix (bv 0) (bv 2)))))) ab_nil)))), ?_⟩
  clear F nd hu hr gA E H s outer A cdv hdg m_tuple
  intro ds q hl hg
  obtain ⟨t, u, a, b, rfl, hx, hb, hq⟩ := hg
  show sRet _ _ [some (.val (sqD t (inN a))), some (.val (sqD u (inN b))), none]
  walk_at "rd"
  refine ⟨fit_len (by rw [inN_len]; omega), lc_nat (PM.g a) b ?_ fun x hx' q Z hq => ?_⟩
  · walk_at "rd"
    exact hq
  · walk_at "rd"
    exact ixP rfl (hx x hx') hq
abbrev s__law_compose : Stmt := topS 12
theorem sc__law_compose : FnScope ["one", "two", "entry"] ["one", "two"] (defScope s__law_compose) := ⟨rfl, rfl, rfl, by decide +kernel, rfl, by decide +kernel, by decide +kernel⟩
def f__law_compose : FD := fun ds q => ∃ (t u : Bool) (a b : List Nat), ds = [sqD t (inN a), sqD u (inN b)] ∧ (∀ x ∈ b, x < a.length) ∧ b.length ≤ 1000 ∧ q (.val (.tuple (inN (cmp a b))))
theorem ok__law_compose {f fd} {k : Nat} (F : Fun K "_law_compose" "_law_compose" s__law_compose f fd) (hdg : base.NoDigits) (m_tuple : mg "tuple" = none) : FnG P w K mg base (k + 1) f fd ["one", "two"] (SpD K 2 f__law_compose) := by
  refine fnD F sc__law_compose fun cdv A outer s H E gA hr => ?_
  have hu := hr.units
  have nd := sc__law_compose.nd
  refine ⟨_, (ss_one (st_ret (de_T c_tuple m_tuple (ab_cons (DE.toB (DLs.toE (dl_lc (own := [("entry", 2)]) nd (i_seqC (bv 1)) (gw_name (i := 2) nd) dts_nil (fun _ _ _ _ _ => (de_ix x_ix (bv 0) (bv 2)))))) ab_nil)))), ?_⟩
  clear F nd hu hr gA E H s outer A cdv hdg m_tuple
  intro ds q hl hg
  obtain ⟨t, u, a, b, rfl, hx, hb, hq⟩ := hg
  show sRet _ _ [some (.val (sqD t (inN a))), some (.val (sqD u (inN b))), none]
  walk_at "rd"
  refine ⟨fit_len (by rw [inN_len]; omega), lc_nat (PM.g a) b ?_ fun x hx' q Z hq => ?_⟩
  · walk_at "rd"
    exact hq
  · walk_at "rd"
    exact ixP rfl (hx x hx') hq
def inB (s : List Bool) : List D := s.map .bool
def gB (s : List Bool) (i : Nat) : Bool := s.getD i false
theorem inB_len (s : List Bool) : (inB s).length = s.length := by simp [inB]
theorem ixB {s : List Bool} {i : Int} {j : Nat} {q : D → Prop} (e : i = (j : Int)) (h : j < s.length) (hq : q (.bool (gB s j))) : gIx (.list (inB s)) (.int i) q := by
  subst e
  exact gIx_N (by simp [inB, gB, h]) hq
theorem inB_set {s : List Bool} {i : Nat} {x : Bool} : (inB s).set i (.bool x) = inB (s.set i x) := by unfold inB; rw [List.map_set]
theorem gB_set {s : List Bool} {i j : Nat} {x : Bool} (h : i < s.length) : gB (s.set i x) j = if j = i then x else gB s j := by
  simp only [gB, List.getD_eq_getElem?_getD, List.getElem?_set]
  by_cases c : i = j
  · subst c
    simp [h]
  · rw [if_neg c, if_neg (fun z => c z.symm)]

open GP
abbrev tN (p : Pm) : D := .tuple (inN p)
theorem inN_nk (p : Pm) : inN p = (nk p).map PyData.int := by unfold inN nk; rw [List.map_map]; rfl
theorem tN_nk (p : Pm) : tN p = .tuple ((nk p).map PyData.int) := by unfold tN; rw [inN_nk]
theorem tN_snoc (M : List Pm) (x : Pm) : M.map tN ++ [.tuple (inN x)] = (M ++ [x]).map tN := by rw [List.map_append]; rfl
theorem isP_mem' {p : Pm} {n : Nat} (h : IsP p n) : ∀ x ∈ p, x < n := fun x hx => by
  obtain ⟨i, hi, rfl⟩ := mem_g hx
  exact h.lt i (by rw [← h.len]; exact hi)
theorem tkHas_put (ks : TK) (k j : List Int) (d : D) : tkHas (tkPut ks k d) j = (tkHas ks j || decide (j = k)) := by
  unfold tkPut
  by_cases e : tkHas ks k = true
  · rw [if_pos e]
    have e1 : (ks.map fun p => if p.1 = k then (p.1, d) else p).map (·.1) = ks.map (·.1) := by
      rw [List.map_map]
      refine List.map_congr_left fun p _ => ?_
      show (if p.1 = k then (p.1, d) else p).1 = p.1
      split <;> rfl
    unfold tkHas at e ⊢
    rw [e1]
    by_cases c : j = k
    · subst c; simpa using e
    · rw [decide_eq_false c, Bool.or_false]
  · rw [if_neg e]
    unfold tkHas
    rw [List.map_append]
    by_cases c : j = k
    · simp [c]
    · simp [c]
theorem tkPut_len (ks : TK) (k : List Int) (d : D) : (tkPut ks k d).length ≤ ks.length + 1 := by
  unfold tkPut
  split <;> simp
/-- the dict knows these -/
structure Kn (ks : TK) (M : List Pm) : Prop where
  has : ∀ p, tkHas ks (nk p) = decide (p ∈ M)
  len : ks.length ≤ M.length
theorem Kn.nil : Kn [] [] := ⟨fun p => by simp [tkHas], Nat.le_refl _⟩
theorem Kn.put {ks : TK} {M : List Pm} (h : Kn ks M) (p : Pm) (d : D) : Kn (tkPut ks (nk p) d) (M ++ [p]) := ⟨fun j => by
  rw [tkHas_put, h.has]
  by_cases c : j = p
  · subst c; simp
  · have : ¬ nk j = nk p := fun e => c (nk_inj e)
    simp [c, this], by have := tkPut_len ks (nk p) d; have := h.len; simp; omega⟩
theorem Kn.one (p : Pm) (d : D) : Kn [(nk p, d)] [p] := Kn.put Kn.nil p d
theorem Kn.congr {ks : TK} {M M' : List Pm} (h : Kn ks M) (e : ∀ p, p ∈ M' ↔ p ∈ M) (hl : ks.length ≤ M'.length) : Kn ks M' := ⟨fun p => by rw [h.has]; exact decide_eq_decide.mpr (e p).symm, hl⟩
theorem noLst_inN : ∀ p : Pm, noLstAll (inN p) = true
  | [] => rfl
  | a :: p => by
    show (noLst (.int (a : Nat)) && noLstAll (inN p)) = true
    rw [noLst_inN p]; rfl
theorem noLst_tN : ∀ M : List Pm, noLstAll (M.map tN) = true
  | [] => rfl
  | a :: p => by
    show (noLstAll (inN a) && noLstAll (p.map tN)) = true
    rw [noLst_tN p, noLst_inN]; rfl
/-- {x: v for x in ..} over rows -/
theorem tkc_N {g : RG} {tt : RT} {dk dv : RE} {vs : List Nat} {ρ : Rho} {q : TK → Prop} {emb : Pm → D} {v : D} : ∀ (M L : List Pm) (ks : TK), Kn ks L → (∀ ks', Kn ks' (L ++ M) → q ks') →
    (∀ a ∈ M, ∀ (R : D → D → Prop) (Z : Prop), R (tN a) v → g (emb a) (wipeD ρ vs) fun ρ1 => tt ρ1 fun b => (b = true → dk ρ1 fun x => dv ρ1 fun y => R x y) ∧ (b = false → Z)) → tkcD g tt dk dv vs (M.map emb) ρ ks q
  | [], L, ks, hk, hq, _ => hq ks (by rwa [List.append_nil])
  | a :: r, L, ks, hk, hq, hs => hs a List.mem_cons_self (fun x y => ∃ k : List Int, x = .tuple (k.map PyData.int) ∧ tkcD g tt dk dv vs (r.map emb) ρ (tkPut ks k y) q) _ ⟨nk a, tN_nk a, tkc_N r (L ++ [a]) _ (hk.put a v) (fun ks' h => hq ks' (by rwa [List.append_assoc] at h)) fun b hb => hs b (List.mem_cons_of_mem _ hb)⟩
theorem ixM {M : List Pm} {emb : Pm → D} {a : Nat} {x : Pm} {q : D → Prop} (h : M[a]? = some x) (hq : q (emb x)) : gIx (.list (M.map emb)) (.int (a : Nat)) q := gIx_N (by rw [List.getElem?_map, h]; rfl) hq
theorem sortT_ok {M : List Pm} {n : Nat} {q : List D → Prop} (hP : AllP n M) (hn1 : 1 ≤ n) (hn : n ≤ 1000) (nd : M.Nodup) (hq : ∀ T : List Pm, Asc T → (∀ x, x ∈ T ↔ x ∈ M) → q (T.map tN)) : lSortT [.list (M.map tN)] q := by
  refine ⟨M.map nk, n, ?_, ⟨hn1, fun k hk => ?_⟩, fun ks p hs => ?_⟩
  · rw [List.map_map]
    exact List.map_congr_left fun x _ => tN_nk x
  · obtain ⟨x, hx, rfl⟩ := List.mem_map.mp hk
    exact ⟨by simp [nk, (hP x hx).len], fun i hi => nk_bd (hP x hx) hn i hi⟩
  · obtain ⟨T, p2, rfl⟩ := DL.perm_of_map p
    rw [List.pairwise_map] at hs
    have := hq T (asc_of hP hn nd p2 hs) fun x => p2.mem_iff
    rw [List.map_map]
    rwa [show T.map (tI ∘ nk) = T.map tN from List.map_congr_left fun x _ => (tN_nk x).symm]
open TV PM GP
theorem eqvAll_ints : ∀ a b : List Int, PyData.eqvAll (a.map PyData.int) (b.map PyData.int) = decide (a = b)
  | [], [] => by simp [PyData.eqvAll]
  | [], _ :: _ => by simp [PyData.eqvAll]
  | _ :: _, [] => by simp [PyData.eqvAll]
  | x :: a, y :: b => by
    rw [List.map_cons, List.map_cons]
    simp only [PyData.eqvAll, PyData.eqv, eqvAll_ints a b]
    by_cases c : x = y
    · subst c; simp
    · simp [c]
theorem eqv_tN (a b : Pm) : PyData.eqv (tN a) (tN b) = decide (a = b) := by
  rw [tN_nk, tN_nk]
  show PyData.eqvAll _ _ = _
  rw [eqvAll_ints]
  exact decide_eq_decide.mpr ⟨nk_inj, fun e => by rw [e]⟩
theorem lay_ints : ∀ a : List Int, PyData.canLayAll0 (a.map PyData.int) = true
  | [] => by simp [PyData.canLayAll0]
  | x :: a => by rw [List.map_cons]; simp [PyData.canLayAll0, PyData.canLay0, lay_ints a]
theorem lay_tN (p : Pm) : (tN p).canLay0 = true := by rw [tN_nk]; simp [PyData.canLay0, lay_ints]
theorem dep_tN (p : Pm) : (tN p).depth = 1 := by
  rw [tN_nk]
  simp only [PyData.depth]
  have : PyData.depthAll ((nk p).map PyData.int) = 0 := DL.depthAll_ints _
  omega
theorem lay_tNs : ∀ M : List Pm, PyData.canLayAll0 (M.map tN) = true
  | [] => by simp [PyData.canLayAll0]
  | x :: a => by
    rw [List.map_cons]
    show ((tN x).canLay0 && PyData.canLayAll0 (a.map tN)) = true
    rw [lay_tN, lay_tNs a]; rfl
theorem dep_tNs : ∀ M : List Pm, PyData.depthAll (M.map tN) ≤ 1
  | [] => by simp [PyData.depthAll]
  | x :: a => by
    have h1 := dep_tN x
    have h2 := dep_tNs a
    rw [List.map_cons]
    show max (tN x).depth (PyData.depthAll (a.map tN)) ≤ 1
    omega
theorem shaped_tN (p : Pm) : SeqAt.shaped (tN p) = true := by
  show ((tN p).canLay0 && decide ((tN p).depth ≤ 64)) = true
  rw [lay_tN, dep_tN]; rfl
theorem shaped_tNs (M : List Pm) : SeqAt.shaped (.list (M.map tN)) = true := by
  have : (PyData.list (M.map tN)).depth ≤ 64 := by
    have := dep_tNs M
    simp only [PyData.depth]
    omega
  show ((PyData.list (M.map tN)).canLay0 && decide ((PyData.list (M.map tN)).depth ≤ 64)) = true
  rw [decide_eq_true this, Bool.and_true]
  simp only [PyData.canLay0, lay_tNs]
theorem any_tN (M : List Pm) (p : Pm) : ((M.map tN).any fun z => PyData.eqv z (tN p)) = decide (p ∈ M) := by
  rw [List.any_map]
  by_cases c : p ∈ M
  · rw [decide_eq_true c]
    exact List.any_eq_true.mpr ⟨p, c, by show PyData.eqv (tN p) (tN p) = true; rw [eqv_tN]; simp⟩
  · rw [decide_eq_false c]
    refine List.any_eq_false.mpr fun x hx => ?_
    show ¬ PyData.eqv (tN x) (tN p) = true
    rw [eqv_tN]
    simpa using fun (e : x = p) => c (e ▸ hx)
theorem inTN {M : List Pm} {p : Pm} {neg : Bool} {q : D → Prop} (h : q (.bool (decide (p ∈ M) != neg))) : tInD neg (tN p) (.list (M.map tN)) q := by
  refine ⟨shaped_tN p, shaped_tNs M, ?_⟩
  rw [any_tN]
  exact h
theorem eqvAll_tN : ∀ M : List Pm, PyData.eqvAll (M.map tN) (M.map tN) = true
  | [] => by simp [PyData.eqvAll]
  | x :: M => by
    rw [List.map_cons]
    show (PyData.eqv (tN x) (tN x) && PyData.eqvAll (M.map tN) (M.map tN)) = true
    rw [eqv_tN, eqvAll_tN M]
    simp
theorem eqv_tNs (M : List Pm) : PyData.eqv (.tuple (M.map tN)) (.tuple (M.map tN)) = true := by simp only [PyData.eqv, eqvAll_tN]
theorem shaped_tT (M : List Pm) : SeqAt.shaped (.tuple (M.map tN)) = true := by
  have : (PyData.tuple (M.map tN)).depth ≤ 64 := by
    have := dep_tNs M
    simp only [PyData.depth]
    omega
  show ((PyData.tuple (M.map tN)).canLay0 && decide ((PyData.tuple (M.map tN)).depth ≤ 64)) = true
  rw [decide_eq_true this, Bool.and_true]
  simp only [PyData.canLay0, lay_tNs]
theorem eqOk_tT (M : List Pm) : eqOk (.tuple (M.map tN)) (.tuple (M.map tN)) = true := by
  show (SeqAt.shaped _ && SeqAt.shaped _) = true
  rw [shaped_tT]; rfl
/-! repr of rows of permutations -/
theorem rpS_inN : ∀ {p : Pm}, (∀ x ∈ p, x < 1000) → rpSAll (inN p) = true
  | [], _ => rfl
  | a :: p, h => by
    show (decide (((a : Int)).natAbs < 10 ^ 40) && rpSAll (inN p)) = true
    rw [rpS_inN fun x hx => h x (List.mem_cons_of_mem _ hx), Bool.and_true]
    have := h a List.mem_cons_self
    exact decide_eq_true (by rw [Int.natAbs_natCast]; exact Nat.lt_trans this (by decide))
theorem inN_inD (p : List Nat) : inN p = inD (p.map fun i : Nat => (i : Int)) := by unfold inN inD; rw [List.map_map]; rfl
theorem cells_inN (p : Pm) : cellsAll (inN p) = p.length := by rw [inN_inD]; rw [show cellsAll (inD (p.map fun i : Nat => (i : Int))) = (p.map fun i : Nat => (i : Int)).length from cellsAll_ints _, List.length_map]
theorem rpS_rows (u : Bool) {n : Nat} (hn : n ≤ 1000) : ∀ {M : List Pm}, AllP n M → rpSAll (M.map fun p => sqD u (inN p)) = true
  | [], _ => rfl
  | p :: M, h => by
    have h1 := rpS_inN (p := p) fun x hx => by
      have := isP_mem' (h p List.mem_cons_self) x hx
      omega
    have h2 := rpS_rows u hn (M := M) fun x hx => h x (List.mem_cons_of_mem _ hx)
    show (rpS (sqD u (inN p)) && rpSAll (M.map fun p => sqD u (inN p))) = true
    rw [h2, Bool.and_true]
    cases u <;> exact h1
theorem cells_rows (u : Bool) {n : Nat} : ∀ {M : List Pm}, AllP n M → cellsAll (M.map fun p => sqD u (inN p)) = M.length * (n + 1)
  | [], _ => by simp [cellsAll]
  | p :: M, h => by
    have h2 := cells_rows u (M := M) fun x hx => h x (List.mem_cons_of_mem _ hx)
    show cells (sqD u (inN p)) + cellsAll (M.map fun p => sqD u (inN p)) = _
    rw [h2]
    have : cells (sqD u (inN p)) = n + 1 := by
      have h3 := cells_inN p
      rw [(h p List.mem_cons_self).len] at h3
      cases u <;> simp [sqD, cells, h3] <;> omega
    rw [this, List.length_cons, Nat.succ_mul]
    omega
theorem dep_rows (u : Bool) : ∀ M : List Pm, PyData.depthAll (M.map fun p => sqD u (inN p)) ≤ 1
  | [] => by simp [PyData.depthAll]
  | p :: M => by
    have h2 := dep_rows u M
    show max (sqD u (inN p)).depth (PyData.depthAll (M.map fun p => sqD u (inN p))) ≤ 1
    have : (sqD u (inN p)).depth = 1 := by
      have h3 : PyData.depthAll (inN p) = 0 := by rw [inN_inD]; exact DL.depthAll_ints _
      cases u <;> simp [sqD, PyData.depth, h3]
    omega
theorem rows_tN (M : List Pm) : M.map tN = M.map fun p => sqD true (inN p) := rfl
theorem turn_perm2 (s t L : Nat) (hL : 0 < L) : ((List.range L).map fun k => s + (k + t) % L).Perm (List.range' s L) := by
  refine (List.perm_ext_iff_of_nodup (map_nodup (n := L) fun a b ha hb e => ?_) (List.nodup_range' (step := 1))).mpr fun a => ?_
  · have e : (a + t) % L = (b + t) % L := by omega
    have e2 : a % L = b % L := by
      have h1 : (a + t + (L - t % L)) % L = (b + t + (L - t % L)) % L := by rw [Nat.add_mod, e, ← Nat.add_mod]
      have hm := Nat.mod_lt t hL
      have h2 : t + (L - t % L) = L * (t / L + 1) := by
        have := Nat.div_add_mod t L
        rw [Nat.mul_add, Nat.mul_one]
        omega
      rw [Nat.add_assoc, Nat.add_assoc, h2, Nat.add_mul_mod_self_left, Nat.add_mul_mod_self_left] at h1
      exact h1
    rwa [Nat.mod_eq_of_lt ha, Nat.mod_eq_of_lt hb] at e2
  · simp only [List.mem_map, List.mem_range, List.mem_range'_1]
    constructor
    · rintro ⟨k, hk, rfl⟩
      have := Nat.mod_lt (k + t) hL
      omega
    · rintro ⟨h1, h2⟩
      have hm := Nat.mod_lt t hL
      refine ⟨(a - s + (L - t % L)) % L, Nat.mod_lt _ hL, ?_⟩
      have e : ((a - s + (L - t % L)) % L + t) % L = a - s := by
        rw [Nat.add_mod, Nat.mod_mod, ← Nat.add_mod, Nat.add_assoc]
        have h2' : (L - t % L) + t = L * (t / L + 1) := by
          have := Nat.div_add_mod t L
          rw [Nat.mul_add, Nat.mul_one]
          omega
        rw [h2', Nat.add_mul_mod_self_left, Nat.mod_eq_of_lt (by omega)]
      omega
theorem affine_isP {u t n : Nat} (hg : Nat.gcd u n = 1) (hn : 0 < n) : IsP ((List.range n).map fun k => (u * k + t) % n) n := by
  have hl : ((List.range n).map fun k => (u * k + t) % n).length = n := by simp
  have hgk : ∀ i, i < n → PM.g ((List.range n).map fun k => (u * k + t) % n) i = (u * i + t) % n := fun i hi => by simp [PM.g, hi]
  refine ⟨hl, fun i hi => by rw [hgk i hi]; exact Nat.mod_lt _ hn, fun i j hi hj e => ?_⟩
  rw [hgk i hi, hgk j hj] at e
  have key : ∀ i j, i ≤ j → j < n → (u * i + t) % n = (u * j + t) % n → i = j := fun i j hij hj e => by
    have h1 : n ∣ (u * j + t) - (u * i + t) := Nat.dvd_of_mod_eq_zero (Nat.sub_mod_eq_zero_of_mod_eq e.symm)
    have h2 : (u * j + t) - (u * i + t) = u * (j - i) := by rw [Nat.add_sub_add_right, ← Nat.mul_sub]
    rw [h2] at h1
    have hc : Nat.Coprime n u := by unfold Nat.Coprime; rw [Nat.gcd_comm]; exact hg
    have h3 := hc.dvd_of_dvd_mul_left h1
    have := Nat.eq_zero_of_dvd_of_lt h3 (by omega)
    omega
  rcases Nat.le_total i j with c | c
  · exact key i j c hj e
  · exact (key j i c hi e.symm).symm
theorem fdivN (a b : Nat) : (a : Int).fdiv (b : Int) = ((a / b : Nat) : Int) := by rw [Int.fdiv_eq_ediv_of_nonneg _ (by omega), Int.natCast_ediv]
theorem fmodN (a b : Nat) : (a : Int).fmod (b : Int) = ((a % b : Nat) : Int) := by rw [Int.fmod_eq_emod_of_nonneg _ (by omega), Int.natCast_emod]
def trF (bs : List Nat) (i : Nat) : Nat := (i / 4 + PM.g bs 0) % 2 * 4 + (i / 2 + PM.g bs (1 + i / 4)) % 2 * 2 + (i + PM.g bs (3 + i / 2)) % 2
theorem trF_all : ∀ b0 b1 b2 b3 b4 b5 b6 : Fin 2, ((List.range 8).map (trF [b0, b1, b2, b3, b4, b5, b6])).isPerm (List.range 8) = true := by decide +kernel
theorem trF_isP {b0 b1 b2 b3 b4 b5 b6 : Nat} (h0 : b0 < 2) (h1 : b1 < 2) (h2 : b2 < 2) (h3 : b3 < 2) (h4 : b4 < 2) (h5 : b5 < 2) (h6 : b6 < 2) : IsP ((List.range 8).map (trF [b0, b1, b2, b3, b4, b5, b6])) 8 :=
  IsP.of_perm (List.isPerm_iff.mp (trF_all ⟨b0, h0⟩ ⟨b1, h1⟩ ⟨b2, h2⟩ ⟨b3, h3⟩ ⟨b4, h4⟩ ⟨b5, h5⟩ ⟨b6, h6⟩))
theorem dig7 {rs : List Int} (hrs : InR rs [2, 2, 2, 2, 2, 2, 2]) : ∃ b0 b1 b2 b3 b4 b5 b6 : Nat, rs = [(b0 : Int), (b1 : Int), (b2 : Int), (b3 : Int), (b4 : Int), (b5 : Int), (b6 : Int)] ∧ b0 < 2 ∧ b1 < 2 ∧ b2 < 2 ∧ b3 < 2 ∧ b4 < 2 ∧ b5 < 2 ∧ b6 < 2 := by
  obtain ⟨r0, rs, rfl, a0, hrs⟩ := hrs.cons
  obtain ⟨r1, rs, rfl, a1, hrs⟩ := hrs.cons
  obtain ⟨r2, rs, rfl, a2, hrs⟩ := hrs.cons
  obtain ⟨r3, rs, rfl, a3, hrs⟩ := hrs.cons
  obtain ⟨r4, rs, rfl, a4, hrs⟩ := hrs.cons
  obtain ⟨r5, rs, rfl, a5, hrs⟩ := hrs.cons
  obtain ⟨r6, rs, rfl, a6, hrs⟩ := hrs.cons
  obtain rfl := hrs.nil
  obtain ⟨b0, rfl⟩ := Int.eq_ofNat_of_zero_le a0.1
  obtain ⟨b1, rfl⟩ := Int.eq_ofNat_of_zero_le a1.1
  obtain ⟨b2, rfl⟩ := Int.eq_ofNat_of_zero_le a2.1
  obtain ⟨b3, rfl⟩ := Int.eq_ofNat_of_zero_le a3.1
  obtain ⟨b4, rfl⟩ := Int.eq_ofNat_of_zero_le a4.1
  obtain ⟨b5, rfl⟩ := Int.eq_ofNat_of_zero_le a5.1
  obtain ⟨b6, rfl⟩ := Int.eq_ofNat_of_zero_le a6.1
  exact ⟨b0, b1, b2, b3, b4, b5, b6, rfl, by omega, by omega, by omega, by omega, by omega, by omega, by omega⟩
theorem InR.at' : ∀ {rs ss : List Int}, InR rs ss → ∀ {i : Nat} (h : i < rs.length), 0 ≤ rs[i] ∧ ∃ s, ss[i]? = some s ∧ rs[i] < s
  | [], [], _, i, h => by simp at h
  | r :: rs, s :: ss, h, 0, _ => ⟨h.1.1, s, rfl, h.1.2⟩
  | r :: rs, s :: ss, h, i + 1, hi => InR.at' h.2 (i := i) (by simpa using hi)
  | [], _ :: _, h, _, _ => h.elim
theorem unit_there {b n : Nat} (hn : 2 ≤ n) (h : ∀ j, j < n → Nat.gcd ((b + j) % n) n ≠ 1) : False := by
  have hm := Nat.mod_lt b (show 0 < n by omega)
  refine h ((1 + (n - b % n)) % n) (Nat.mod_lt _ (by omega)) ?_
  have e : (b + (1 + (n - b % n)) % n) % n = 1 := by
    rw [Nat.add_mod, Nat.mod_mod, ← Nat.add_mod]
    have h2 : b + (1 + (n - b % n)) = 1 + n * (b / n + 1) := by
      have := Nat.div_add_mod b n
      rw [Nat.mul_add, Nat.mul_one]
      omega
    rw [h2, Nat.add_mul_mod_self_left, Nat.mod_eq_of_lt (by omega)]
  rw [e, Nat.gcd_one_left]

abbrev s__law_closed : Stmt := topS 13
theorem sc__law_closed : FnScope ["size", "generators", "most", "members", "known", "at", "generator", "product", "k"] ["size", "generators", "most"] (defScope s__law_closed) := ⟨rfl, rfl, rfl, by decide +kernel, rfl, by decide +kernel, by decide +kernel⟩
def f__law_closed : FD := fun ds q => ∃ (n m : Nat) (gs : List Pm), ds = [.int n, .list (gs.map tN), .int m] ∧ n ≤ 64 ∧ 1 ≤ m ∧ m ≤ 1000 ∧ AllP n gs ∧ (∀ M, IsClo n gs M → M.length ≤ m → q (.own (M.map tN))) ∧ ((∀ G : List Pm, (∀ x, Gen n gs x → x ∈ G) → m < G.length) → q (.val .none))
theorem ok__law_closed {f fd} {k : Nat} (F : Fun K "_law_closed" "_law_closed" s__law_closed f fd) (hdg : base.NoDigits) (m_len : mg "len" = none) (m_range : mg "range" = none) (m_tuple : mg "tuple" = none) (r__law_compose : Ready P w K mg base "_law_compose" 2 k f__law_compose) : FnG P w K mg base (k + 1) f fd ["size", "generators", "most"] (SpD K 3 f__law_closed) := by
  refine fnD F sc__law_closed fun cdv A outer s H E gA hr => ?_
  have hu := hr.units
  have nd := sc__law_closed.nd
  refine ⟨_, (ss_cons (st_setL (i := 3) nd (dl_lst (da_cons (de_T c_tuple m_tuple (ab_cons (DE.toB (DLs.toE (dl_lc (own := [("k", 8)]) nd (DI.c (i_range1 (dv 0) m_range)) (gw_name (i := 8) nd) dts_nil (fun _ _ _ _ _ => (dv 8))))) ab_nil)) da_nil)))
    (ss_cons (st_setTk (i := 4) nd (dtk_1 hr.u0 (de_ix x_ix (bv 3) (DE.toB de_int)) de_bl))
    (ss_cons (st_for (i_range1 (dv 2) m_range) (tg_name (i := 5) nd) (ss_cons (st_if (dt_cmp (o_eq hu) (bv 5) (DE.toB (de_B c_len m_len (ab_cons (bv 3) ab_nil)))) (ss_one st_break) ss_nil)
    (ss_one (st_for (i_seq (dv 1)) (tg_name (i := 6) nd) (ss_cons (st_set (i := 7) nd (r__law_compose.toE gA hr (da_cons (dv 6) (da_cons (de_ix x_ix (bv 3) (bv 5)) da_nil))))
    (ss_one (st_if (dt_tkNin 4 hr.u1 (dv 7)) (ss_cons (st_if (dt_cmp (o_eq hu) (DE.toB (de_B c_len m_len (ab_cons (bv 3) ab_nil))) (bv 2)) (ss_one (st_ret de_non)) ss_nil)
    (ss_cons (st_tkPut (i := 4) hr.u1 de_bl (dv 7))
    (ss_one (st_app (i := 3) (dv 7))))) ss_nil)))))))
    (ss_one (st_retO 3))))), ?_⟩
  clear F nd hu hr gA E H s outer A cdv hdg m_len m_range m_tuple r__law_compose
  intro ds q hl hg
  obtain ⟨n, m, gs, rfl, hn, hm1, hm, hP, hq, hq'⟩ := hg
  show sSeq _ _ _ [some (.val (.int n)), some (.val (.list (gs.map tN))), some (.val (.int m)), none, none, none, none, none, none]
  refine sq_i fun k hk => ?_
  walk_at "rd"
  refine ⟨Rng.of (by omega) (by omega), ?_⟩
  rw [Int.toNat_natCast]
  refine ⟨fit_len (by rw [upTo_length]; omega), lc_up (fun i => .int (i : Nat)) n ?_ fun i hi q Z hq => by walk_at "rd"; exact hq⟩
  rw [inN_range]
  subst hk
  refine sq_i fun k hk => ?_
  walk_at "rd"
  refine ⟨nk (List.range n), tN_nk _, ?_⟩
  subst hk
  have fin : ∀ (M : List Pm) (ks : TK) (y5 y6 y7 : Option DV), IsClo n gs M → M.length ≤ m → sRetO 3 { nx := fun _ => q (.val .none), rt := q } [some (.val (.int n)), some (.val (.list (gs.map tN))), some (.val (.int m)), some (.own (M.map tN)), some (.tks ks), y5, y6, y7, none] := fun M ks y5 y6 y7 h1 h2 => by
    walk_at "rd"
    exact hq M h1 h2
  refine sq_i fun k hk => for_in fun W hW => ?_
  walk_at "rd"
  refine ⟨Rng.of (by omega) (by omega), ?_⟩
  rw [Int.toNat_natCast]
  subst hW
  refine for_up (fun i σ => ∃ (M : List Pm) (ks : TK) (y5 y6 y7 : Option DV), σ = [some (.val (.int n)), some (.val (.list (gs.map tN))), some (.val (.int m)), some (.own (M.map tN)), some (.tks ks), y5, y6, y7, none] ∧ Bfs n gs M i ∧ Kn ks M ∧ M.length ≤ m) 0 m ⟨[List.range n], _, none, none, none, rfl, Bfs.start gs, Kn.one _ _, by simpa using hm1⟩ ?_ ?_
  · rintro _ ⟨M, ks, y5, y6, y7, rfl, hb, hk', hl⟩
    subst hk
    exact fin M ks y5 y6 y7 (hb.done hl) hl
  · rintro a _ ha ⟨M, ks, y5, y6, y7, rfl, hb, hk', hl⟩ k1 hk1
    simp only [Int.zero_add]
    refine sq_i fun k2 hk2 => if_n fun T hT => ?_
    walk_at "rd"
    rw [List.length_map]
    refine ⟨fun c => ?_, fun c => ?_⟩
    · subst hT
      walk_at "rd"
      subst hk
      exact fin M ks _ y6 y7 (hb.done (by omega)) hl
    · have c : a < M.length := by have := hb.le; omega
      clear hT T
      subst hk2
      refine for_in fun W hW => ?_
      walk_at "rd"
      subst hW
      refine for_map (fun r σ => ∃ (js M : List Pm) (ks : TK) (y6 y7 : Option DV), σ = [some (.val (.int n)), some (.val (.list (gs.map tN))), some (.val (.int m)), some (.own (M.map tN)), some (.tks ks), some (.val (.int a)), y6, y7, none] ∧ gs = js ++ r ∧ BfsT n gs M js a ∧ Kn ks M ∧ M.length ≤ m) gs ⟨[], M, ks, y6, y7, rfl, rfl, BfsT.start hb c, hk', hl⟩ ?_ ?_
      · rintro _ ⟨js, M, ks, y6, y7, rfl, hj, hb, hk', hl⟩
        rw [List.append_nil] at hj
        subst hj
        exact hk1 _ ⟨M, ks, _, y6, y7, rfl, hb.fin, hk', hl⟩
      · rintro g r _ ⟨js, M, ks, y6, y7, rfl, hj, hb, hk', hl⟩ k3 hk3
        have hg : g ∈ gs := by rw [hj]; simp
        obtain ⟨x, hx⟩ : ∃ x, M[a]? = some x := ⟨_, List.getElem?_eq_getElem hb.lt⟩
        have pg := hP g hg
        have px := (hb.b.gen x (List.mem_of_getElem? hx)).isP hP
        refine sq_i fun k4 hk4 => ?_
        walk_at "rd"
        refine ixM hx ?_
        refine ⟨true, true, g, x, rfl, fun y hy => by rw [pg.len]; exact isP_mem' px y hy, by rw [px.len]; omega, ?_⟩
        subst hk4
        refine if_n fun T hT => ?_
        walk_at "rd"
        refine ⟨nk (cmp g x), by rw [inN_nk], ?_⟩
        rw [hk'.has]
        walk_at "rd"
        refine ⟨fun c => ?_, fun c => ?_⟩
        · subst hT
          have c : cmp g x ∉ M := by simpa using c
          have hnew := hb.new hg hx c
          refine sq_i fun k4 hk4 => if_n fun T hT => ?_
          walk_at "rd"
          rw [List.length_map]
          refine ⟨fun c2 => ?_, fun c2 => ?_⟩
          · subst hT
            walk_at "rd"
            refine hq' fun G hG => ?_
            have := nodup_sub hnew.b.nd fun y hy => hG y (hnew.b.gen y hy)
            rw [List.length_append, List.length_singleton] at this
            omega
          · clear hT T
            subst hk4
            refine sq_i fun k4 hk4 => ?_
            walk_at "rd"
            refine ⟨nk (cmp g x), by rw [inN_nk], fit_len (by have := hk'.len; omega), ?_⟩
            subst hk4
            walk_at "rd"
            rw [tN_snoc]
            exact ⟨fit_len (by simp; omega), hk3 _ ⟨js ++ [g], M ++ [cmp g x], _, _, _, rfl, by rw [hj]; simp, hnew, hk'.put _ _, by simp; omega⟩⟩
        · have c : cmp g x ∈ M := by simpa using c
          exact hk3 _ ⟨js ++ [g], M, ks, _, _, rfl, by rw [hj]; simp, hb.old hx c, hk', hl⟩

end
end K43

namespace K43
open PySem PySem.Spec PyProof.Rows L2 DL Builtin.Int
local macro_rules | `(tactic| walk_at "rd") => `(tactic| simp -failIfUnchanged only [sSet, sSetL, sRet, sRetL, sRetO, sRetN, sNext, sBreak, sCont, sDrop, sApp, sAug, sAsg, sPar, sSetI, sPop, sSetPop, sAppPop, dTupRg, sRev, sFrz, frz1, iSeq, iRevD, iRange1, iRange2, iRangeD, rName, rTup, rTL_sq, gMulS_s, gStr1_i, rTL_t, rTL_l, rCons, rNil,
  dLst, dView, tView, lView, view, look, dVar, bVar, dC, d2, d1, l2, tBool, dNil, dCons, dTup, gI, gSubI, gMulI, gFdiv, gMod, gPow, gShl, gShr, gAnd, gXor, gLt, gLe, gGt, gGe, gAdd, gEq, gNe, isNone, gIs, gIsNot, gNeg, lCat, gLen_l, gLen_t, gLen_s, gInt, gAbs, gMax2, gMin2, gTuple_l, gTuple_t, lList_l, lList_t, gGcd, gIsqrt, dCall, lCall, dIsi, dIsi2,
  tAndD, tOrD, tNotD, tTru, truD, dAndV, dOrV, dNotV, dIf, dBits, wipeD, twoD, lComp, oNone, oSome, dSl, lSl, gSl_l, gSl_t, gSl_sq, gSq_l, gSq_t, gSq_sq, lRepL, sNever, dKIn, dKGet, gOr, dCount, dIndex, sSetTk, lTk0, lTk1, lTkc, tTkIn, dTkIn, dTkGet, sTkPut, tInD, lSortSc, sIns, lLstRg, sPopI, gIx_sq, gLen_sq, gTuple_sq, lList_sq, iZipD, gZip_sq, gZip_ts, gZip_st, gZip_ls, gZip_sl, gZip_tt, gZip_ll, gZip_lt, gZip_tl, dFn, dFn0, dFnK, lFn, dFnV, valD, tYesD, eqOk_ii, eqOk_bb, eqOk_ss, eqv_int, eqv_str, eqv_bool, noLst, noLstAll, List.map_cons, List.map_nil, Option.map_some, Option.map_none,
  List.getElem?_cons_zero, List.getElem?_cons_succ, List.set_cons_zero, List.set_cons_succ, true_and, and_true, decide_eq_true_eq, decide_eq_false_iff_not, Bool.not_eq_true', Bool.not_eq_false', beq_iff_eq, beq_eq_false_iff_ne, Bool.true_eq_false, Bool.false_eq_true, false_imp_iff, true_imp_iff, forall_const, reduceCtorEq, ne_eq, not_true_eq_false, not_false_eq_true, Bool.not_true, Bool.not_false, Bool.true_and, Bool.and_true, Bool.false_and, Bool.and_false, Int.reduceToNat, Int.cast_ofNat_Int, eq_self, isTy_none_int, isTy_none_bool, isTy_none_str, isTy_none_list, isTy_none_tuple, isTy_bool_int, isTy_bool_bool, isTy_bool_str, isTy_bool_list, isTy_bool_tuple, isTy_int_int, isTy_int_bool, isTy_int_str, isTy_int_list, isTy_int_tuple, isTy_str_int, isTy_str_bool, isTy_str_str, isTy_str_list, isTy_str_tuple, isTy_list_int, isTy_list_bool, isTy_list_str, isTy_list_list, isTy_list_tuple, isTy_tuple_int, isTy_tuple_bool, isTy_tuple_str, isTy_tuple_list, isTy_tuple_tuple, List.length_cons, List.length_nil, Nat.reduceAdd, Nat.zero_add, ix2_0, ix2_1,
  gIx_l0, gIx_t0, gIx_l1, gIx_t1, gIx_l2, gIx_t2, gIx_l3, gIx_t3, gIx_l4, gIx_t4, gIx_l5, gIx_t5, gIx_l6, gIx_t6, gIx_l7, gIx_t7, gIx_l8, gIx_t8, gIx_l9, gIx_t9, gIx_l10, gIx_t10, gIx_l11, gIx_t11, gIx_l12, gIx_t12, gIx_l13, gIx_t13, gIx_l14, gIx_t14, gIx_l15, gIx_t15])
section
variable {P : Program} {w : World} {K : Frag} {mg : Str → Option Value} {base : Heap}
open TV PM GP
def pow2s : List Nat := [1, 2, 4, 8, 16, 32, 64, 128]
theorem pow2_in {L : Nat} {q : D → Prop} (h : q (.bool (decide (L ∈ pow2s)))) : gIn false (.int (L : Nat)) (.list [.int 1, .int 2, .int 4, .int 8, .int 16, .int 32, .int 64, .int 128]) q := by
  refine ⟨rfl, rfl, ?_⟩
  have e : (DL.inD (PyData.int (L : Nat)) [.int 1, .int 2, .int 4, .int 8, .int 16, .int 32, .int 64, .int 128]) = decide (L ∈ pow2s) := by
    unfold DL.inD pow2s
    simp only [List.any_cons, List.any_nil, PyData.eqv, Bool.or_false, List.mem_cons, List.not_mem_nil, or_false]
    rw [Bool.eq_iff_iff]
    simp only [Bool.or_eq_true, beq_iff_eq, decide_eq_true_eq]
    omega
  rw [e]
  exact h
theorem clo_one {n : Nat} {M : List Pm} (hM : IsClo n [] M) : M.length = 1 := by
  have h1 : M.length ≤ 1 := nodup_sub (m := [List.range n]) hM.nd fun x hx => (clo_nil.iff x).mpr ((hM.iff x).mp hx)
  have h2 : List.range n ∈ M := (hM.iff _).mpr .one
  have := List.length_pos_of_mem h2
  omega
theorem nil_none {n m : Nat} (hm : 1 ≤ m) (h : ∀ G : List Pm, (∀ x, Gen n [] x → x ∈ G) → m < G.length) : False := by
  have := h [List.range n] fun x hx => (clo_nil.iff x).mpr hx
  simp at this
  omega
theorem inN_erase : ∀ (l : List Nat) (i : Nat), (inN l).eraseIdx i = inN (l.eraseIdx i)
  | [], _ => rfl
  | a :: l, 0 => rfl
  | a :: l, i + 1 => by
    show PyData.int (a : Nat) :: (inN l).eraseIdx i = PyData.int (a : Nat) :: inN (l.eraseIdx i)
    rw [inN_erase l i]
abbrev s__law_shuffled : Stmt := topS 15
theorem sc__law_shuffled : FnScope ["cell", "size", "left", "found", "digit", "k"] ["cell", "size"] (defScope s__law_shuffled) := ⟨rfl, rfl, rfl, by decide +kernel, rfl, by decide +kernel, by decide +kernel⟩
def f__law_shuffled : FD := fun ds q => ∃ (c : Int) (n : Nat), ds = [.int c, .int n] ∧ n ≤ 64 ∧ ∀ p, IsP p n → q (.val (.tuple (inN p)))
theorem ok__law_shuffled {f fd} {k : Nat} (F : Fun K "_law_shuffled" "_law_shuffled" s__law_shuffled f fd) (hdg : base.NoDigits) (m_range : mg "range" = none) (m_tuple : mg "tuple" = none) (r__law_digits : Ready P w K mg base "_law_digits" 2 k f__law_digits) : FnG P w K mg base (k + 1) f fd ["cell", "size"] (SpD K 2 f__law_shuffled) := by
  refine fnD F sc__law_shuffled fun cdv A outer s H E gA hr => ?_
  have hu := hr.units
  have nd := sc__law_shuffled.nd
  refine ⟨_, (ss_cons (st_lcL (own := [("k", 5)]) (i := 2) nd (DI.c (i_range1 (dv 1) m_range)) (gw_name (i := 5) nd) dts_nil (fun _ _ _ _ _ => (dv 5)) (sw_true rfl rfl rfl (by decide +kernel)))
    (ss_cons (st_setL (i := 3) nd (dl_lst da_nil))
    (ss_cons (st_for (i_seq (r__law_digits.toE gA hr (da_cons (dv 0) (da_cons (DLs.toE (dl_lc (own := [("k", 5)]) nd (DI.c (i_range1 (dv 1) m_range)) (gw_name (i := 5) nd) dts_nil (fun _ _ _ _ _ => (de_op o_sub (bv 1) (bv 5))))) da_nil)))) (tg_name (i := 4) nd) (ss_one (st_appPop (i := 3) (j := 2) (dv 4))))
    (ss_one (st_ret (de_T c_tuple m_tuple (ab_cons (bv 3) ab_nil))))))), ?_⟩
  clear F nd hu hr gA E H s outer A cdv hdg m_range m_tuple r__law_digits
  intro ds q hl hg
  obtain ⟨c, n, rfl, hn, hq⟩ := hg
  show sSeq _ _ _ [some (.val (.int c)), some (.val (.int n)), none, none, none, none]
  refine sq_i fun k hk => ?_
  walk_at "rd"
  refine ⟨Rng.of (by omega) (by omega), ?_⟩
  rw [Int.toNat_natCast]
  refine ⟨fit_len (by rw [upTo_length]; omega), lc_up (fun i => .int (i : Nat)) n ?_ fun i hi q Z hq => by walk_at "rd"; exact hq⟩
  rw [inN_range]
  subst hk
  refine sq_i fun k hk => ?_
  walk_at "rd"
  subst hk
  refine sq_i fun k hk => for_in fun W hW => ?_
  walk_at "rd"
  refine ⟨Rng.of (by omega) (by omega), ?_⟩
  rw [Int.toNat_natCast]
  refine ⟨fit_len (by rw [upTo_length]; omega), lc_up (fun i => .int ((n : Int) - (i : Nat))) n ?_ fun i hi q Z hq => by walk_at "rd"; exact hq⟩
  refine ⟨c, (List.range' 0 n).map fun i : Nat => (n : Int) - i, by rw [List.map_map, List.range_eq_range']; rfl, by simp; omega, fun s hs => ?_, fun rs hrs => ?_⟩
  · obtain ⟨i, hi, rfl⟩ := List.mem_map.mp hs
    have := List.mem_range'_1.mp hi
    omega
  walk_at "rd"
  subst hW
  refine for_map (fun r σ => ∃ (lf fd : List Nat) (y : Option DV), σ = [some (.val (.int c)), some (.val (.int n)), some (.own (inN lf)), some (.own (inN fd)), y, none] ∧ (fd ++ lf).Perm (List.range n) ∧ lf.length = r.length ∧ InR r ((List.range' fd.length lf.length).map fun i : Nat => (n : Int) - i)) rs ⟨List.range n, [], none, rfl, List.Perm.refl _, ?_, ?_⟩ ?_ ?_
  · have := hrs.length
    simpa using this.symm
  · simpa using hrs
  · rintro _ ⟨lf, fd, y, rfl, h1, h2, -⟩
    have e : lf = [] := List.eq_nil_of_length_eq_zero h2
    subst e
    rw [List.append_nil] at h1
    subst hk
    walk_at "rd"
    exact hq fd (IsP.of_perm h1)
  · rintro d r _ ⟨lf, fd, y, rfl, h1, h2, h3⟩ k1 hk1
    have hlen : fd.length + lf.length = n := by have := h1.length_eq; simpa using this
    rw [List.length_cons] at h2
    rw [h2, List.range'_succ, List.map_cons] at h3
    obtain ⟨⟨d0, d1⟩, h3⟩ := h3
    have hd : d.toNat < lf.length := by omega
    walk_at "rd"
    refine ⟨fit_len (by rw [inN_len]; omega), by decide, ⟨by omega, by omega⟩, ?_⟩
    rw [inN_get hd]
    have hg : lf[d.toNat]? = some (PM.g lf d.toNat) := by simp [PM.g, hd]
    have e1 : (inN lf).eraseIdx d.toNat = inN (lf.eraseIdx d.toNat) := by exact inN_erase lf _
    show k1 _
    rw [e1, show inN fd ++ [PyData.int (PM.g lf d.toNat : Nat)] = inN (fd ++ [PM.g lf d.toNat]) from by rw [← inN_app]; rfl]
    refine hk1 _ ⟨_, _, _, rfl, ?_, ?_, ?_⟩
    · rw [List.append_assoc]
      exact ((perm_erase hg).append_left fd).trans h1
    · rw [List.length_eraseIdx, if_pos hd]; omega
    · rw [List.length_eraseIdx, if_pos hd, List.length_append, h2]
      exact h3

abbrev s__law_affine : Stmt := topS 18
theorem sc__law_affine : FnScope ["cell", "size", "row", "unit", "turn", "k"] ["cell", "size"] (defScope s__law_affine) := ⟨rfl, rfl, rfl, by decide +kernel, rfl, by decide +kernel, by decide +kernel⟩
def f__law_affine : FD := fun ds q => ∃ (c : Int) (n : Nat), ds = [.int c, .int n] ∧ 2 ≤ n ∧ n ≤ 64 ∧ ∀ p, IsP p n → q (.val (tN p))
theorem ok__law_affine {f fd} {k : Nat} (F : Fun K "_law_affine" "_law_affine" s__law_affine f fd) (hdg : base.NoDigits) (m_int : mg "int" = none) (m_range : mg "range" = none) (m_tuple : mg "tuple" = none) (r__law_digits : Ready P w K mg base "_law_digits" 2 k f__law_digits) (r__law_gcd : Ready P w K mg base "_law_gcd" 2 k f__law_gcd) : FnG P w K mg base (k + 1) f fd ["cell", "size"] (SpD K 2 f__law_affine) := by
  refine fnD F sc__law_affine fun cdv A outer s H E gA hr => ?_
  have hu := hr.units
  have nd := sc__law_affine.nd
  refine ⟨_, (ss_cons (st_set (i := 2) nd (r__law_digits.toE gA hr (da_cons (dv 0) (da_cons (DLs.toE (dl_lst (da_cons (dv 1) (da_cons (dv 1) da_nil)))) da_nil))))
    (ss_cons (st_set (i := 3) nd (de_ix x_ix (bv 2) (DE.toB de_int)))
    (ss_cons (st_for (i_range1 (dv 1) m_range) (tg_name (i := 4) nd) (ss_cons (st_if (dt_cmp (o_eq hu) (DE.toB (r__law_gcd.toE gA hr (da_cons (dv 3) (da_cons (dv 1) da_nil)))) (DE.toB de_int)) (ss_one st_break) ss_nil)
    (ss_one (st_set (i := 3) nd (de_op o_mod (DE.toB (de_T c_int m_int (ab_cons (DE.toB (de_op o_add (bv 3) (DE.toB de_int))) ab_nil))) (bv 1))))))
    (ss_one (st_ret (de_T c_tuple m_tuple (ab_cons (DE.toB (DLs.toE (dl_lc (own := [("k", 5)]) nd (DI.c (i_range1 (dv 1) m_range)) (gw_name (i := 5) nd) dts_nil (fun _ _ _ _ _ => (de_op o_mod (DE.toB (de_T c_int m_int (ab_cons (DE.toB (de_op o_add (DE.toB (de_op o_mul (bv 3) (bv 5))) (DE.toB (de_ix x_ix (bv 2) (DE.toB de_int))))) ab_nil))) (bv 1)))))) ab_nil))))))), ?_⟩
  clear F nd hu hr gA E H s outer A cdv hdg m_int m_range m_tuple r__law_digits r__law_gcd
  intro ds q hl hg
  obtain ⟨c, n, rfl, hn2, hn, hq⟩ := hg
  show sSeq _ _ _ [some (.val (.int c)), some (.val (.int n)), none, none, none, none]
  refine sq_i fun k hk => ?_
  walk_at "rd"
  refine ⟨c, [(n : Int), (n : Int)], rfl, by simp, fun s hs => ?_, fun rs hrs => ?_⟩
  · simp at hs
    omega
  obtain ⟨r0, rs, rfl, a0, hrs⟩ := hrs.cons
  obtain ⟨r1, rs, rfl, a1, hrs⟩ := hrs.cons
  obtain rfl := hrs.nil
  obtain ⟨b0, rfl⟩ := Int.eq_ofNat_of_zero_le a0.1
  obtain ⟨b1, rfl⟩ := Int.eq_ofNat_of_zero_le a1.1
  walk_at "rd"
  subst hk
  refine sq_i fun k hk => ?_
  walk_at "rd"
  subst hk
  refine sj_r (fun σ => ∃ (u : Nat) (y4 : Option DV), σ = [some (.val (.int c)), some (.val (.int n)), some (.val (.list [.int b0, .int b1])), some (.val (.int u)), y4, none] ∧ u < n ∧ Nat.gcd u n = 1) ?_ fun k hk => for_in fun W hW => ?_
  · rintro _ ⟨u, y4, rfl, hu, hgu⟩
    walk_at "rd"
    refine ⟨Rng.of (by omega) (by omega), ?_⟩
    rw [Int.toNat_natCast]
    refine ⟨fit_len (by rw [upTo_length]; omega), lc_up (fun i => .int ((u * i + b1) % n : Nat)) n ?_ fun i hi q Z hq => by
      walk_at "rd"
      refine ⟨mul_r (by omega) (by omega), by omega, ?_⟩
      rw [show (u : Int) * (i : Int) + (b1 : Int) = ((u * i + b1 : Nat) : Int) by rw [Int.natCast_add, Int.natCast_mul], fmodN]
      exact hq⟩
    have := hq _ (affine_isP (t := b1) hgu (by omega))
    unfold tN inN at this
    rw [List.map_map] at this
    exact this
  · walk_at "rd"
    refine ⟨Rng.of (by omega) (by omega), ?_⟩
    rw [Int.toNat_natCast]
    subst hW
    refine for_up (fun i σ => ∃ (u : Nat) (y4 : Option DV), σ = [some (.val (.int c)), some (.val (.int n)), some (.val (.list [.int b0, .int b1])), some (.val (.int u)), y4, none] ∧ u = (b0 + i) % n ∧ ∀ j, j < i → Nat.gcd ((b0 + j) % n) n ≠ 1) 0 n ⟨b0, none, rfl, by rw [Nat.add_zero, Nat.mod_eq_of_lt (by omega)], fun j hj => by omega⟩ ?_ ?_
    · rintro _ ⟨u, y4, rfl, hu, hno⟩
      exact (unit_there hn2 hno).elim
    · rintro i _ hi ⟨u, y4, rfl, hu, hno⟩ k1 hk1
      have hun : u < n := by rw [hu]; exact Nat.mod_lt _ (by omega)
      refine sq_i fun k2 hk2 => if_n fun T hT => ?_
      walk_at "rd"
      refine ⟨(u : Int), (n : Int), rfl, ?_⟩
      walk_at "rd"
      refine ⟨fun h => ?_, fun h => ?_⟩
      · subst hT
        walk_at "rd"
        exact hk _ ⟨u, _, rfl, hun, by have : ((Nat.gcd u n : Nat) : Int) = 1 := h; omega⟩
      · have h : Nat.gcd u n ≠ 1 := fun e => h (by show ((Nat.gcd u n : Nat) : Int) = 1; omega)
        subst hk2
        walk_at "rd"
        refine ⟨by omega, ?_⟩
        rw [show (u : Int) + 1 = ((u + 1 : Nat) : Int) from rfl, fmodN]
        refine hk1 _ ⟨(u + 1) % n, _, rfl, ?_, fun j hj => ?_⟩
        · rw [hu, ← Nat.add_assoc, Nat.add_mod, Nat.mod_mod, ← Nat.add_mod]
        · by_cases e : j = i
          · rw [e, ← hu]; exact h
          · exact hno j (by omega)

end
end K43

namespace K43
open PySem PySem.Spec PyProof.Rows L2 DL Builtin.Int
local macro_rules | `(tactic| walk_at "rd") => `(tactic| simp -failIfUnchanged only [sSet, sSetL, sRet, sRetL, sRetO, sRetN, sNext, sBreak, sCont, sDrop, sApp, sAug, sAsg, sPar, sSetI, sPop, sSetPop, sAppPop, dTupRg, sRev, sFrz, frz1, iSeq, iRevD, iRange1, iRange2, iRangeD, rName, rTup, rTL_sq, gMulS_s, gStr1_i, rTL_t, rTL_l, rCons, rNil,
  dLst, dView, tView, lView, view, look, dVar, bVar, dC, d2, d1, l2, tBool, dNil, dCons, dTup, gI, gSubI, gMulI, gFdiv, gMod, gPow, gShl, gShr, gAnd, gXor, gLt, gLe, gGt, gGe, gAdd, gEq, gNe, isNone, gIs, gIsNot, gNeg, lCat, gLen_l, gLen_t, gLen_s, gInt, gAbs, gMax2, gMin2, gTuple_l, gTuple_t, lList_l, lList_t, gGcd, gIsqrt, dCall, lCall, dIsi, dIsi2,
  tAndD, tOrD, tNotD, tTru, truD, dAndV, dOrV, dNotV, dIf, dBits, wipeD, twoD, lComp, oNone, oSome, dSl, lSl, gSl_l, gSl_t, gSl_sq, gSq_l, gSq_t, gSq_sq, lRepL, sNever, dKIn, dKGet, gOr, dCount, dIndex, sSetTk, lTk0, lTk1, lTkc, tTkIn, dTkIn, dTkGet, sTkPut, tInD, lSortSc, sIns, lLstRg, sPopI, gIx_sq, gLen_sq, gTuple_sq, lList_sq, iZipD, gZip_sq, gZip_ts, gZip_st, gZip_ls, gZip_sl, gZip_tt, gZip_ll, gZip_lt, gZip_tl, dFn, dFn0, dFnK, lFn, dFnV, valD, tYesD, eqOk_ii, eqOk_bb, eqOk_ss, eqv_int, eqv_str, eqv_bool, noLst, noLstAll, List.map_cons, List.map_nil, Option.map_some, Option.map_none,
  List.getElem?_cons_zero, List.getElem?_cons_succ, List.set_cons_zero, List.set_cons_succ, true_and, and_true, decide_eq_true_eq, decide_eq_false_iff_not, Bool.not_eq_true', Bool.not_eq_false', beq_iff_eq, beq_eq_false_iff_ne, Bool.true_eq_false, Bool.false_eq_true, false_imp_iff, true_imp_iff, forall_const, reduceCtorEq, ne_eq, not_true_eq_false, not_false_eq_true, Bool.not_true, Bool.not_false, Bool.true_and, Bool.and_true, Bool.false_and, Bool.and_false, Int.reduceToNat, Int.cast_ofNat_Int, eq_self, isTy_none_int, isTy_none_bool, isTy_none_str, isTy_none_list, isTy_none_tuple, isTy_bool_int, isTy_bool_bool, isTy_bool_str, isTy_bool_list, isTy_bool_tuple, isTy_int_int, isTy_int_bool, isTy_int_str, isTy_int_list, isTy_int_tuple, isTy_str_int, isTy_str_bool, isTy_str_str, isTy_str_list, isTy_str_tuple, isTy_list_int, isTy_list_bool, isTy_list_str, isTy_list_list, isTy_list_tuple, isTy_tuple_int, isTy_tuple_bool, isTy_tuple_str, isTy_tuple_list, isTy_tuple_tuple, List.length_cons, List.length_nil, Nat.reduceAdd, Nat.zero_add, ix2_0, ix2_1,
  gIx_l0, gIx_t0, gIx_l1, gIx_t1, gIx_l2, gIx_t2, gIx_l3, gIx_t3, gIx_l4, gIx_t4, gIx_l5, gIx_t5, gIx_l6, gIx_t6, gIx_l7, gIx_t7, gIx_l8, gIx_t8, gIx_l9, gIx_t9, gIx_l10, gIx_t10, gIx_l11, gIx_t11, gIx_l12, gIx_t12, gIx_l13, gIx_t13, gIx_l14, gIx_t14, gIx_l15, gIx_t15])
section
variable {P : Program} {w : World} {K : Frag} {mg : Str → Option Value} {base : Heap}
open TV PM GP
theorem perm_of_inj {f : Nat → Nat} {s L : Nat} (hl : ∀ k, k < L → s ≤ f k ∧ f k < s + L) (hi : ∀ a b, a < L → b < L → f a = f b → a = b) : ((List.range L).map f).Perm (List.range' s L) := by
  refine (List.perm_ext_iff_of_nodup (map_nodup hi) (List.nodup_range' (step := 1))).mpr fun a => ?_
  simp only [List.mem_map, List.mem_range, List.mem_range'_1]
  constructor
  · rintro ⟨k, hk, rfl⟩
    exact hl k hk
  · rintro ⟨h1, h2⟩
    obtain ⟨i, hi', e⟩ := fin_surj (f := fun k => f k - s) (n := L) (fun i h => by have := hl i h; show f i - s < L; omega) (fun i j hi' hj e => by
      have e : f i - s = f j - s := e
      have := hl i hi'
      have := hl j hj
      exact hi i j hi' hj (by omega)) (j := a - s) (by omega)
    have := hl i hi'
    have e : f i - s = a - s := e
    exact ⟨i, hi', by omega⟩
theorem turn_sign {sg t : Int} {s L : Nat} (hL : 0 < L) (hs : sg = 1 ∨ sg = -1) : ((List.range L).map fun k : Nat => s + ((sg * (k : Int) + t).fmod (L : Int)).toNat).Perm (List.range' s L) := by
  have hp : ∀ k : Nat, 0 ≤ (sg * (k : Int) + t).fmod (L : Int) ∧ (sg * (k : Int) + t).fmod (L : Int) < L := fun k => fmod_pos (by omega)
  refine perm_of_inj (fun k hk => by have := hp k; omega) fun a b ha hb e => ?_
  have h1 := hp a
  have h2 := hp b
  have e : (sg * (a : Int) + t).fmod (L : Int) = (sg * (b : Int) + t).fmod (L : Int) := by omega
  rw [Int.fmod_eq_emod_of_nonneg _ (by omega), Int.fmod_eq_emod_of_nonneg _ (by omega)] at e
  have e2 := Int.emod_eq_emod_iff_emod_sub_eq_zero.mp e
  have d := Int.dvd_of_emod_eq_zero e2
  have z := Int.eq_zero_of_dvd_of_natAbs_lt_natAbs d (by rcases hs with rfl | rfl <;> omega)
  rcases hs with rfl | rfl <;> omega
def stp (i : Nat) : Nat := [1, 2, 4, 1].getD i 1
theorem stp_get {i : Nat} (h : i < 4) : [PyData.int 1, .int 2, .int 4, .int 1][i]? = some (.int (stp i : Nat)) := by
  match i, h with
  | 0, _ => rfl
  | 1, _ => rfl
  | 2, _ => rfl
  | 3, _ => rfl
theorem stp_pos {i : Nat} (h : i < 4) : stp i = 1 ∨ stp i = 2 ∨ stp i = 4 := by
  match i, h with
  | 0, _ => exact .inl rfl
  | 1, _ => exact .inr (.inl rfl)
  | 2, _ => exact .inr (.inr rfl)
  | 3, _ => exact .inl rfl
def layS (mask : Nat) : Nat → Nat
  | 0 => 0
  | i + 1 => layS mask i + if mask / 2 ^ i % 2 = 1 then 8 / stp i else 0
theorem lay_part : ∀ b0 b1 b2 b3 b4 b5 b6 : Fin 2, ((List.range 4).map fun k => trF [b0, b1, b2, b3, b4, b5, b6] (k * 2) / 2).isPerm (List.range 4) = true ∧ ((List.range 2).map fun k => trF [b0, b1, b2, b3, b4, b5, b6] (k * 4) / 4).isPerm (List.range 2) = true := by decide +kernel
theorem lay_parts {b0 b1 b2 b3 b4 b5 b6 : Nat} (h0 : b0 < 2) (h1 : b1 < 2) (h2 : b2 < 2) (h3 : b3 < 2) (h4 : b4 < 2) (h5 : b5 < 2) (h6 : b6 < 2) {i : Nat} (hi : i < 4) :
    ((List.range (8 / stp i)).map fun k => trF [b0, b1, b2, b3, b4, b5, b6] (k * stp i) / stp i).Perm (List.range (8 / stp i)) := by
  have a := lay_part ⟨b0, h0⟩ ⟨b1, h1⟩ ⟨b2, h2⟩ ⟨b3, h3⟩ ⟨b4, h4⟩ ⟨b5, h5⟩ ⟨b6, h6⟩
  have b := trF_all ⟨b0, h0⟩ ⟨b1, h1⟩ ⟨b2, h2⟩ ⟨b3, h3⟩ ⟨b4, h4⟩ ⟨b5, h5⟩ ⟨b6, h6⟩
  rcases stp_pos hi with e | e | e
  · rw [e]
    simpa using List.isPerm_iff.mp b
  · rw [e]
    exact List.isPerm_iff.mp a.1
  · rw [e]
    exact List.isPerm_iff.mp a.2
theorem perm_shift {l : List Nat} {L s : Nat} (h : l.Perm (List.range L)) : (l.map fun x => s + x).Perm (List.range' s L) := by
  have := h.map fun x => s + x
  refine this.trans ?_
  rw [List.range_eq_range', List.map_add_range']
  simp
theorem map_succ (f : Nat → Nat) (fd : List Nat) (j : Nat) : fd ++ (List.range (j + 1)).map f = fd ++ (List.range j).map f ++ [f j] := by rw [List.range_succ, List.map_append, ← List.append_assoc]; rfl
theorem range_plus (a b : Nat) : List.range (a + b) = List.range a ++ List.range' a b := by
  have := List.range'_append_1 (s := 0) (m := a) (n := b)
  rw [List.range_eq_range', List.range_eq_range', ← this, Nat.zero_add]
abbrev s__law_layers : Stmt := topS 16
theorem sc__law_layers : FnScope ["cell", "mask", "bits", "leaves", "leaf", "found", "layer", "high", "middle", "step", "start", "k"] ["cell", "mask"] (defScope s__law_layers) := ⟨rfl, rfl, rfl, by decide +kernel, rfl, by decide +kernel, by decide +kernel⟩
def f__law_layers : FD := fun ds q => ∃ (c : Int) (mask : Nat), ds = [.int c, .int mask] ∧ mask ≤ 100 ∧ ∀ p, IsP p (layS mask 4) → q (.val (tN p))
theorem ok__law_layers {f fd} {k : Nat} (F : Fun K "_law_layers" "_law_layers" s__law_layers f fd) (hdg : base.NoDigits) (m_int : mg "int" = none) (m_len : mg "len" = none) (m_range : mg "range" = none) (m_tuple : mg "tuple" = none) (r__law_digits : Ready P w K mg base "_law_digits" 2 k f__law_digits) : FnG P w K mg base (k + 1) f fd ["cell", "mask"] (SpD K 2 f__law_layers) := by
  refine fnD F sc__law_layers fun cdv A outer s H E gA hr => ?_
  have hu := hr.units
  have nd := sc__law_layers.nd
  refine ⟨_, (ss_cons (st_set (i := 2) nd (r__law_digits.toE gA hr (da_cons (dv 0) (da_cons (DLs.toE (dl_lst (da_cons de_int (da_cons de_int (da_cons de_int (da_cons de_int (da_cons de_int (da_cons de_int (da_cons de_int da_nil))))))))) da_nil))))
    (ss_cons (st_setL (i := 3) nd (dl_lst da_nil))
    (ss_cons (st_for (i_range1 de_int m_range) (tg_name (i := 4) nd) (ss_cons (st_set (i := 7) nd (de_op o_mod (DE.toB (de_T c_int m_int (ab_cons (DE.toB (de_op o_add (DE.toB (de_op o_fdiv (bv 4) (DE.toB de_int))) (DE.toB (de_ix x_ix (bv 2) (DE.toB de_int))))) ab_nil))) (DE.toB de_int)))
    (ss_cons (st_set (i := 8) nd (de_op o_mod (DE.toB (de_T c_int m_int (ab_cons (DE.toB (de_op o_add (DE.toB (de_op o_fdiv (bv 4) (DE.toB de_int))) (DE.toB (de_ix x_ix (bv 2) (DE.toB (de_op o_add (DE.toB de_int) (DE.toB (de_op o_fdiv (bv 4) (DE.toB de_int))))))))) ab_nil))) (DE.toB de_int)))
    (ss_one (st_app (i := 3) (de_op o_add (DE.toB (de_op o_add (DE.toB (de_op o_mul (DE.toB de_int) (bv 7))) (DE.toB (de_op o_mul (DE.toB de_int) (bv 8))))) (DE.toB (de_op o_mod (DE.toB (de_T c_int m_int (ab_cons (DE.toB (de_op o_add (bv 4) (DE.toB (de_ix x_ix (bv 2) (DE.toB (de_op o_add (DE.toB de_int) (DE.toB (de_op o_fdiv (bv 4) (DE.toB de_int))))))))) ab_nil))) (DE.toB de_int)))))))))
    (ss_cons (st_setL (i := 5) nd (dl_lst da_nil))
    (ss_cons (st_for (i_range1 de_int m_range) (tg_name (i := 6) nd) (ss_one (st_if (dt_cmp (o_eq hu) (DE.toB (de_op o_mod (DE.toB (de_T c_int m_int (ab_cons (DE.toB (de_op o_shr (bv 1) (bv 6))) ab_nil))) (DE.toB de_int))) (DE.toB de_int)) (ss_cons (st_set (i := 9) nd (de_ix x_ix (DE.toB (DLs.toE (dl_lst (da_cons de_int (da_cons de_int (da_cons de_int (da_cons de_int da_nil))))))) (bv 6)))
    (ss_cons (st_set (i := 10) nd (de_B c_len m_len (ab_cons (bv 5) ab_nil)))
    (ss_one (st_for (i_range1 (de_op o_fdiv (DE.toB de_int) (bv 9)) m_range) (tg_name (i := 11) nd) (ss_one (st_app (i := 5) (de_op o_add (bv 10) (DE.toB (de_op o_fdiv (DE.toB (de_ix x_ix (bv 3) (DE.toB (de_op o_mul (bv 11) (bv 9))))) (bv 9)))))))))) ss_nil)))
    (ss_one (st_ret (de_T c_tuple m_tuple (ab_cons (bv 5) ab_nil))))))))), ?_⟩
  clear F nd hu hr gA E H s outer A cdv hdg m_int m_len m_range m_tuple r__law_digits
  intro ds q hl hg
  obtain ⟨c, mask, rfl, hm, hq⟩ := hg
  show sSeq _ _ _ [some (.val (.int c)), some (.val (.int mask)), none, none, none, none, none, none, none, none, none, none]
  refine sq_i fun k hk => ?_
  walk_at "rd"
  refine ⟨c, [2, 2, 2, 2, 2, 2, 2], rfl, by decide, by decide, fun rs hrs => ?_⟩
  obtain ⟨b0, b1, b2, b3, b4, b5, b6, rfl, a0, a1, a2, a3, a4, a5, a6⟩ := dig7 hrs
  have parts : ∀ i, i < 4 → _ := fun i hi => lay_parts a0 a1 a2 a3 a4 a5 a6 (i := i) hi
  walk_at "rd"
  subst hk
  refine sq_i fun k hk => ?_
  walk_at "rd"
  subst hk
  refine sj_r (fun σ => ∃ y4 y7 y8 : Option DV, σ = [some (.val (.int c)), some (.val (.int mask)), some (.val (.list (inN [b0, b1, b2, b3, b4, b5, b6]))), some (.own (inN ((List.range 8).map (trF [b0, b1, b2, b3, b4, b5, b6])))), y4, none, none, y7, y8, none, none, none]) ?_ fun k hk => for_in fun W hW => ?_
  rotate_left
  · walk_at "rd"
    refine ⟨Rng.of (by omega) (by omega), ?_⟩
    subst hW
    refine for_up (fun i σ => ∃ y4 y7 y8 : Option DV, σ = [some (.val (.int c)), some (.val (.int mask)), some (.val (.list (inN [b0, b1, b2, b3, b4, b5, b6]))), some (.own (inN ((List.range i).map (trF [b0, b1, b2, b3, b4, b5, b6])))), y4, none, none, y7, y8, none, none, none]) 0 8 ⟨_, _, _, rfl⟩ ?_ ?_
    · rintro _ ⟨y4, y7, y8, rfl⟩
      exact hk _ ⟨_, _, _, rfl⟩
    · rintro i _ hi ⟨y4, y7, y8, rfl⟩ k1 hk1
      simp only [Int.zero_add]
      have hl7 : [b0, b1, b2, b3, b4, b5, b6].length = 7 := rfl
      generalize hbs : [b0, b1, b2, b3, b4, b5, b6] = bs at hl7 ⊢
      refine sq_i fun k2 hk2 => ?_
      walk_at "rd"
      refine ⟨div_small (by omega) (by omega), ixP (j := 0) rfl (by omega) ⟨by decide, ?_⟩⟩
      rw [show (4 : Int) = ((4 : Nat) : Int) from rfl, fdivN, ← Int.natCast_add, show (2 : Int) = ((2 : Nat) : Int) from rfl, fmodN]
      subst hk2
      refine sq_i fun k2 hk2 => ?_
      walk_at "rd"
      refine ⟨div_small (by omega) (by omega), div_small (by omega) (by omega), ?_⟩
      rw [show (2 : Int) = ((2 : Nat) : Int) from rfl, fdivN, show (4 : Int) = ((4 : Nat) : Int) from rfl, fdivN]
      refine ixP (j := 1 + i / 4) (by omega) (by omega) ⟨by decide, ?_⟩
      rw [← Int.natCast_add, fmodN]
      subst hk2
      walk_at "rd"
      refine ⟨fit_len (by rw [inN_len]; simp; omega), mul_l (by decide) (by decide), mul_l (by decide) (by decide), div_small (by omega) (by omega), ?_⟩
      rw [show (2 : Int) = ((2 : Nat) : Int) from rfl, fdivN]
      refine ixP (j := 3 + i / 2) (by omega) (by omega) ⟨by decide, ?_⟩
      rw [← Int.natCast_add, fmodN]
      have e : (4 : Int) * (((i / 4 + PM.g bs 0) % 2 : Nat) : Int) + ((2 : Nat) : Int) * (((i / 2 + PM.g bs (1 + i / 4)) % 2 : Nat) : Int) + (((i + PM.g bs (3 + i / 2)) % 2 : Nat) : Int) = ((trF bs i : Nat) : Int) := by
        unfold trF
        omega
      rw [e, show [PyData.int ((trF bs i : Nat) : Int)] = inN [trF bs i] from rfl, inN_app]
      have e2 : (List.range i).map (trF bs) ++ [trF bs i] = (List.range (i + 1)).map (trF bs) := by rw [List.range_succ, List.map_append]; rfl
      rw [e2]
      subst hbs
      exact hk1 _ ⟨_, _, _, rfl⟩
  · rintro _ ⟨y4, y7, y8, rfl⟩
    generalize hbs : [b0, b1, b2, b3, b4, b5, b6] = bs at parts ⊢
    refine sq_i fun k hk => ?_
    walk_at "rd"
    subst hk
    refine sq_i fun k hk => for_in fun W hW => ?_
    walk_at "rd"
    refine ⟨Rng.of (by omega) (by omega), ?_⟩
    subst hW
    refine for_up (fun i σ => ∃ (fd : List Nat) (y6 y9 y10 y11 : Option DV), σ = [some (.val (.int c)), some (.val (.int mask)), some (.val (.list (inN bs))), some (.own (inN ((List.range 8).map (trF bs)))), y4, some (.own (inN fd)), y6, y7, y8, y9, y10, y11] ∧ fd.Perm (List.range fd.length) ∧ fd.length = layS mask i ∧ fd.length ≤ 8 * i) 0 4 ⟨[], _, _, _, _, rfl, List.Perm.refl _, rfl, Nat.le_refl _⟩ ?_ ?_
    · rintro _ ⟨fd, y6, y9, y10, y11, rfl, h1, h2, h3⟩
      subst hk
      walk_at "rd"
      rw [h2] at h1
      exact hq fd (IsP.of_perm h1)
    · rintro i _ hi ⟨fd, y6, y9, y10, y11, rfl, h1, h2, h3⟩ k1 hk1
      simp only [Int.zero_add]
      refine if_n fun T hT => ?_
      walk_at "rd"
      refine ⟨by omega, by decide, ?_⟩
      have esh : ((mask : Int) / 2 ^ ((i : Int)).toNat).fmod 2 = ((mask / 2 ^ i % 2 : Nat) : Int) := by
        rw [Int.toNat_natCast, show (2 : Int) ^ i = ((2 ^ i : Nat) : Int) by rw [Int.natCast_pow]; rfl, ← Int.natCast_ediv, show (2 : Int) = ((2 : Nat) : Int) from rfl, fmodN]
      rw [esh]
      refine ⟨fun h => ?_, fun h => hk1 _ ⟨fd, _, _, _, _, rfl, h1, ?_, by omega⟩⟩
      rotate_left
      · have h : ¬ mask / 2 ^ i % 2 = 1 := by omega
        show fd.length = layS mask i + if mask / 2 ^ i % 2 = 1 then 8 / stp i else 0
        rw [if_neg h, h2]
        rfl
      · have h : mask / 2 ^ i % 2 = 1 := by omega
        have es : layS mask (i + 1) = layS mask i + 8 / stp i := by
          show layS mask i + (if mask / 2 ^ i % 2 = 1 then 8 / stp i else 0) = _
          rw [if_pos h]
        have hs := stp_pos hi
        have h8 : 8 / stp i ≤ 8 ∧ stp i * (8 / stp i) = 8 := by rcases hs with e | e | e <;> rw [e] <;> decide
        subst hT
        refine sq_i fun k2 hk2 => ?_
        walk_at "rd"
        refine gIx_N (stp_get hi) ?_
        subst hk2
        refine sq_i fun k2 hk2 => ?_
        walk_at "rd"
        rw [inN_len]
        subst hk2
        refine for_in fun W hW => ?_
        walk_at "rd"
        rw [show (8 : Int) = ((8 : Nat) : Int) from rfl, fdivN]
        refine ⟨div_small (by omega) (by omega), Rng.of (by omega) (by omega), ?_⟩
        rw [Int.toNat_natCast]
        subst hW
        refine for_up (fun j σ => ∃ (y11 : Option DV), σ = [some (.val (.int c)), some (.val (.int mask)), some (.val (.list (inN bs))), some (.own (inN ((List.range 8).map (trF bs)))), y4, some (.own (inN (fd ++ (List.range j).map fun k => fd.length + trF bs (k * stp i) / stp i))), some (.val (.int (i : Int))), y7, y8, some (.val (.int (stp i : Nat))), some (.val (.int (fd.length : Int))), y11]) 0 (8 / stp i) ⟨y11, by simp⟩ ?_ ?_
        · rintro _ ⟨y11, rfl⟩
          refine hk1 _ ⟨_, _, _, _, _, rfl, ?_, by rw [es]; simp; omega, by simp; omega⟩
          rw [List.length_append, List.length_map, List.length_range, range_plus]
          have := perm_shift (s := fd.length) (parts i hi)
          rw [List.map_map] at this
          exact (h1.append_right _).trans (this.append_left _)
        · rintro j _ hj ⟨y11, rfl⟩ k3 hk3
          simp only [Int.zero_add]
          have hjs : j * stp i < 8 := by
            have : (j + 1) * stp i ≤ 8 / stp i * stp i := Nat.mul_le_mul_right _ (by omega)
            rw [Nat.succ_mul, Nat.mul_comm (8 / stp i)] at this
            omega
          walk_at "rd"
          refine ⟨fit_len (by rw [inN_len]; simp; omega), mul_r (by omega) (by omega), ixP (j := j * stp i) (by rw [Int.natCast_mul]) (by simpa using hjs) ⟨div_small (by omega) (by omega), ?_⟩⟩
          rw [fdivN]
          have eg : PM.g ((List.range 8).map (trF bs)) (j * stp i) = trF bs (j * stp i) := by simp [PM.g, hjs]
          rw [eg]
          refine hk3 _ ⟨some (.val (.int (j : Int))), ?_⟩
          rw [show [PyData.int ((fd.length : Int) + ((trF bs (j * stp i) / stp i : Nat) : Int))] = inN [fd.length + trF bs (j * stp i) / stp i] from rfl, inN_app, ← map_succ (fun k => fd.length + trF bs (k * stp i) / stp i)]
abbrev s__law_turns : Stmt := topS 17
theorem sc__law_turns : FnScope ["cell", "blocks", "row", "found", "k", "start", "sign", "place", "block"] ["cell", "blocks"] (defScope s__law_turns) := ⟨rfl, rfl, rfl, by decide +kernel, rfl, by decide +kernel, by decide +kernel⟩
def f__law_turns : FD := fun ds q => ∃ (c : Int) (bs : List Nat), ds = [.int c, .list (inN bs)] ∧ bs.length ≤ 10 ∧ (∀ b ∈ bs, 1 ≤ b ∧ b ≤ 64) ∧ bs.sum ≤ 64 ∧ ∀ p, IsP p bs.sum → q (.val (tN p))
theorem ok__law_turns {f fd} {k : Nat} (F : Fun K "_law_turns" "_law_turns" s__law_turns f fd) (hdg : base.NoDigits) (m_int : mg "int" = none) (m_len : mg "len" = none) (m_range : mg "range" = none) (m_tuple : mg "tuple" = none) (r__law_digits : Ready P w K mg base "_law_digits" 2 k f__law_digits) : FnG P w K mg base (k + 1) f fd ["cell", "blocks"] (SpD K 2 f__law_turns) := by
  refine fnD F sc__law_turns fun cdv A outer s H E gA hr => ?_
  have hu := hr.units
  have nd := sc__law_turns.nd
  refine ⟨_, (ss_cons (st_set (i := 2) nd (r__law_digits.toE gA hr (da_cons (dv 0) (da_cons (DLs.toE (dl_lc (own := [("block", 8)]) nd (i_seqC (bv 1)) (gw_name (i := 8) nd) dts_nil (fun _ _ _ _ _ => (de_op o_mul (DE.toB de_int) (bv 8))))) da_nil))))
    (ss_cons (st_setL (i := 3) nd (dl_lst da_nil))
    (ss_cons (st_for (i_range1 (de_B c_len m_len (ab_cons (bv 1) ab_nil)) m_range) (tg_name (i := 4) nd) (ss_cons (st_set (i := 5) nd (de_B c_len m_len (ab_cons (bv 3) ab_nil)))
    (ss_cons (st_set (i := 6) nd (de_op o_sub (DE.toB de_int) (DE.toB (de_op o_mul (DE.toB de_int) (DE.toB (de_op o_fdiv (DE.toB (de_ix x_ix (bv 2) (bv 4))) (DE.toB (de_ix x_ix (bv 1) (bv 4)))))))))
    (ss_one (st_for (i_range1 (de_ix x_ix (bv 1) (bv 4)) m_range) (tg_name (i := 7) nd) (ss_one (st_app (i := 3) (de_op o_add (bv 5) (DE.toB (de_op o_mod (DE.toB (de_T c_int m_int (ab_cons (DE.toB (de_op o_add (DE.toB (de_op o_mul (bv 6) (bv 7))) (DE.toB (de_ix x_ix (bv 2) (bv 4))))) ab_nil))) (DE.toB (de_ix x_ix (bv 1) (bv 4)))))))))))))
    (ss_one (st_ret (de_T c_tuple m_tuple (ab_cons (bv 3) ab_nil))))))), ?_⟩
  clear F nd hu hr gA E H s outer A cdv hdg m_int m_len m_range m_tuple r__law_digits
  intro ds q hl hg
  obtain ⟨c, bs, rfl, hl, hb, hs, hq⟩ := hg
  show sSeq _ _ _ [some (.val (.int c)), some (.val (.list (inN bs))), none, none, none, none, none, none, none]
  refine sq_i fun k hk => ?_
  walk_at "rd"
  refine ⟨fit_len (by rw [inN_len]; omega), lc_nat (fun b => 2 * b) bs ?_ fun b hb q Z hq => ?_⟩
  rotate_left
  · walk_at "rd"
    refine ⟨mul_l (by decide) (by decide), ?_⟩
    exact hq
  refine ⟨c, nk (bs.map fun b => 2 * b), by rw [inN_nk], by simp [nk]; omega, fun s hs => ?_, fun rs hrs => ?_⟩
  · obtain ⟨i, hi, rfl⟩ := List.mem_map.mp hs
    obtain ⟨b, hb', rfl⟩ := List.mem_map.mp hi
    have := hb b hb'
    omega
  walk_at "rd"
  subst hk
  refine sq_i fun k hk => ?_
  walk_at "rd"
  subst hk
  refine sq_i fun k hk => for_in fun W hW => ?_
  walk_at "rd"
  rw [inN_len]
  refine ⟨Rng.of (by omega) (by omega), ?_⟩
  rw [Int.toNat_natCast]
  subst hW
  have hrl : rs.length = bs.length := by rw [hrs.length]; simp [nk]
  refine for_up (fun i σ => ∃ (fd : List Nat) (y4 y5 y6 y7 : Option DV), σ = [some (.val (.int c)), some (.val (.list (inN bs))), some (.val (.list (rs.map .int))), some (.own (inN fd)), y4, y5, y6, y7, none] ∧ fd.Perm (List.range fd.length) ∧ fd.length = (bs.take i).sum) 0 bs.length ⟨[], _, _, _, _, rfl, List.Perm.refl _, by simp⟩ ?_ ?_
  · rintro _ ⟨fd, y4, y5, y6, y7, rfl, h1, h2⟩
    subst hk
    walk_at "rd"
    rw [List.take_length] at h2
    rw [h2] at h1
    exact hq fd (IsP.of_perm h1)
  · rintro i _ hi ⟨fd, y4, y5, y6, y7, rfl, h1, h2⟩ k1 hk1
    simp only [Int.zero_add]
    have hbi := hb bs[i] (List.getElem_mem hi)
    have e3 : (bs.take (i + 1)).sum = (bs.take i).sum + bs[i] := by rw [List.take_succ_eq_append_getElem hi, List.sum_append]; simp
    have e4 : (bs.take (i + 1)).sum ≤ bs.sum := by
      have := congrArg List.sum (List.take_append_drop (i + 1) bs)
      rw [List.sum_append] at this
      omega
    have eg : PM.g bs i = bs[i] := by simp [PM.g, hi]
    obtain ⟨t, ht, ht2⟩ : ∃ t : Nat, rs[i]? = some (t : Int) ∧ t < 2 * bs[i] := by
      have : i < rs.length := by omega
      obtain ⟨h1, s, hs', h2⟩ := InR.at' hrs this
      obtain ⟨t, e⟩ := Int.eq_ofNat_of_zero_le h1
      refine ⟨t, by rw [List.getElem?_eq_getElem this, e], ?_⟩
      have : s = ((2 * bs[i] : Nat) : Int) := by
        have : (nk (bs.map fun b => 2 * b))[i]? = some ((2 * bs[i] : Nat) : Int) := by simp [nk, hi]
        rw [this] at hs'
        injection hs' with hs'
        omega
      omega
    refine sq_i fun k2 hk2 => ?_
    walk_at "rd"
    rw [inN_len]
    subst hk2
    refine sq_i fun k2 hk2 => ?_
    walk_at "rd"
    refine gIx_N (d := .int (t : Int)) (by rw [List.getElem?_map, ht]; rfl) (ixP rfl hi ⟨div_small (by omega) (by omega), mul_l (by decide) (by decide), ?_⟩)
    rw [eg, fdivN]
    have hsg : (1 : Int) - 2 * ((t / bs[i] : Nat) : Int) = 1 ∨ (1 : Int) - 2 * ((t / bs[i] : Nat) : Int) = -1 := by
      have h1 : t / bs[i] < 2 := Nat.div_lt_of_lt_mul (by omega)
      generalize t / bs[i] = w at h1 ⊢
      omega
    generalize hsgn : (1 : Int) - 2 * ((t / bs[i] : Nat) : Int) = sg at hsg
    subst hk2
    refine for_in fun W hW => ?_
    walk_at "rd"
    refine ixP rfl hi ⟨Rng.of (by omega) (by omega), ?_⟩
    rw [Int.toNat_natCast, eg]
    subst hW
    refine for_up (fun j σ => ∃ (y7 : Option DV), σ = [some (.val (.int c)), some (.val (.list (inN bs))), some (.val (.list (rs.map .int))), some (.own (inN (fd ++ (List.range j).map fun k : Nat => fd.length + ((sg * (k : Int) + (t : Int)).fmod (bs[i] : Nat)).toNat))), some (.val (.int (i : Int))), some (.val (.int (fd.length : Int))), some (.val (.int sg)), y7, none]) 0 bs[i] ⟨y7, by simp⟩ ?_ ?_
    · rintro _ ⟨y7, rfl⟩
      refine hk1 _ ⟨_, _, _, _, _, rfl, ?_, by simp; omega⟩
      rw [List.length_append, List.length_map, List.length_range, range_plus]
      exact (h1.append_right _).trans ((turn_sign (t := (t : Int)) (s := fd.length) (show 0 < bs[i] by omega) hsg).append_left _)
    · rintro j _ hj ⟨y7, rfl⟩ k3 hk3
      simp only [Int.zero_add]
      walk_at "rd"
      refine ⟨fit_len (by rw [inN_len]; simp; omega), mul_r (by omega) (by omega), gIx_N (d := .int (t : Int)) (by rw [List.getElem?_map, ht]; rfl) (ixP rfl hi ⟨by rw [eg]; omega, ?_⟩)⟩
      rw [eg]
      have hp := fmod_pos (a := sg * (j : Int) + (t : Int)) (b := ((bs[i] : Nat) : Int)) (by omega)
      obtain ⟨w, hw⟩ := Int.eq_ofNat_of_zero_le hp.1
      refine hk3 _ ⟨some (.val (.int (j : Int))), ?_⟩
      rw [map_succ (fun k : Nat => fd.length + ((sg * (k : Int) + (t : Int)).fmod (bs[i] : Nat)).toNat), hw, Int.toNat_natCast, show [PyData.int ((fd.length : Int) + (w : Int))] = inN [fd.length + w] from rfl, inN_app]

end
end K43

namespace K43
open PySem PySem.Spec PyProof.Rows L2 DL Builtin.Int
local macro_rules | `(tactic| walk_at "rd") => `(tactic| simp -failIfUnchanged only [sSet, sSetL, sRet, sRetL, sRetO, sRetN, sNext, sBreak, sCont, sDrop, sApp, sAug, sAsg, sPar, sSetI, sPop, sSetPop, sAppPop, dTupRg, sRev, sFrz, frz1, iSeq, iRevD, iRange1, iRange2, iRangeD, rName, rTup, rTL_sq, gMulS_s, gStr1_i, rTL_t, rTL_l, rCons, rNil,
  dLst, dView, tView, lView, view, look, dVar, bVar, dC, d2, d1, l2, tBool, dNil, dCons, dTup, gI, gSubI, gMulI, gFdiv, gMod, gPow, gShl, gShr, gAnd, gXor, gLt, gLe, gGt, gGe, gAdd, gEq, gNe, isNone, gIs, gIsNot, gNeg, lCat, gLen_l, gLen_t, gLen_s, gInt, gAbs, gMax2, gMin2, gTuple_l, gTuple_t, lList_l, lList_t, gGcd, gIsqrt, dCall, lCall, dIsi, dIsi2,
  tAndD, tOrD, tNotD, tTru, truD, dAndV, dOrV, dNotV, dIf, dBits, wipeD, twoD, lComp, oNone, oSome, dSl, lSl, gSl_l, gSl_t, gSl_sq, gSq_l, gSq_t, gSq_sq, lRepL, sNever, dKIn, dKGet, gOr, dCount, dIndex, sSetTk, lTk0, lTk1, lTkc, tTkIn, dTkIn, dTkGet, sTkPut, tInD, lSortSc, sIns, lLstRg, sPopI, gIx_sq, gLen_sq, gTuple_sq, lList_sq, iZipD, gZip_sq, gZip_ts, gZip_st, gZip_ls, gZip_sl, gZip_tt, gZip_ll, gZip_lt, gZip_tl, dFn, dFn0, dFnK, lFn, dFnV, valD, tYesD, eqOk_ii, eqOk_bb, eqOk_ss, eqv_int, eqv_str, eqv_bool, noLst, noLstAll, List.map_cons, List.map_nil, Option.map_some, Option.map_none,
  List.getElem?_cons_zero, List.getElem?_cons_succ, List.set_cons_zero, List.set_cons_succ, true_and, and_true, decide_eq_true_eq, decide_eq_false_iff_not, Bool.not_eq_true', Bool.not_eq_false', beq_iff_eq, beq_eq_false_iff_ne, Bool.true_eq_false, Bool.false_eq_true, false_imp_iff, true_imp_iff, forall_const, reduceCtorEq, ne_eq, not_true_eq_false, not_false_eq_true, Bool.not_true, Bool.not_false, Bool.true_and, Bool.and_true, Bool.false_and, Bool.and_false, Int.reduceToNat, Int.cast_ofNat_Int, eq_self, isTy_none_int, isTy_none_bool, isTy_none_str, isTy_none_list, isTy_none_tuple, isTy_bool_int, isTy_bool_bool, isTy_bool_str, isTy_bool_list, isTy_bool_tuple, isTy_int_int, isTy_int_bool, isTy_int_str, isTy_int_list, isTy_int_tuple, isTy_str_int, isTy_str_bool, isTy_str_str, isTy_str_list, isTy_str_tuple, isTy_list_int, isTy_list_bool, isTy_list_str, isTy_list_list, isTy_list_tuple, isTy_tuple_int, isTy_tuple_bool, isTy_tuple_str, isTy_tuple_list, isTy_tuple_tuple, List.length_cons, List.length_nil, Nat.reduceAdd, Nat.zero_add, ix2_0, ix2_1,
  gIx_l0, gIx_t0, gIx_l1, gIx_t1, gIx_l2, gIx_t2, gIx_l3, gIx_t3, gIx_l4, gIx_t4, gIx_l5, gIx_t5, gIx_l6, gIx_t6, gIx_l7, gIx_t7, gIx_l8, gIx_t8, gIx_l9, gIx_t9, gIx_l10, gIx_t10, gIx_l11, gIx_t11, gIx_l12, gIx_t12, gIx_l13, gIx_t13, gIx_l14, gIx_t14, gIx_l15, gIx_t15])
section
variable {P : Program} {w : World} {K : Frag} {mg : Str → Option Value} {base : Heap}
open TV PM GP
def sgF (bs : List Nat) (i : Nat) : Nat := 4 * ((i / 4 + PM.g bs 5) % 2) + if PM.g bs 4 = 1 then 2 * ((i + PM.g bs (2 * (i / 4) + 1)) % 2) + (i / 2 + PM.g bs (2 * (i / 4))) % 2 else 2 * ((i / 2 + PM.g bs (2 * (i / 4))) % 2) + (i + PM.g bs (2 * (i / 4) + 1)) % 2
theorem sgF_all : ∀ b0 b1 b2 b3 b4 b5 : Fin 2, ((List.range 8).map (sgF [b0, b1, b2, b3, b4, b5])).isPerm (List.range 8) = true := by decide +kernel
theorem sgF_isP {b0 b1 b2 b3 b4 b5 : Nat} (h0 : b0 < 2) (h1 : b1 < 2) (h2 : b2 < 2) (h3 : b3 < 2) (h4 : b4 < 2) (h5 : b5 < 2) : IsP ((List.range 8).map (sgF [b0, b1, b2, b3, b4, b5])) 8 :=
  IsP.of_perm (List.isPerm_iff.mp (sgF_all ⟨b0, h0⟩ ⟨b1, h1⟩ ⟨b2, h2⟩ ⟨b3, h3⟩ ⟨b4, h4⟩ ⟨b5, h5⟩))
theorem tkGet_none {ks : TK} {k : List Int} (h : tkHas ks k = false) : tkGet ks k = none := by
  induction ks with
  | nil => rfl
  | cons p r ih =>
    unfold tkHas at h ih
    rw [List.map_cons] at h
    unfold tkGet
    have h := of_decide_eq_false h
    rw [List.mem_cons, not_or] at h
    rw [if_neg fun e => h.1 e.symm]
    exact ih (decide_eq_false h.2)
theorem tkGet_map (k : List Int) (d : D) (j : List Int) : ∀ ks : TK, tkGet (ks.map fun p => if p.1 = k then (p.1, d) else p) j = if j = k then (if tkHas ks k then some d else none) else tkGet ks j
  | [] => by by_cases c : j = k <;> simp [tkGet, tkHas, c]
  | p :: r => by
    have ih := tkGet_map k d j r
    rw [List.map_cons]
    by_cases c : p.1 = k
    · rw [if_pos c]
      by_cases e : j = k
      · have : tkHas (p :: r) k = true := by unfold tkHas; rw [List.map_cons, c]; simp
        rw [if_pos e, this, if_pos rfl, tkGet, if_pos (c.trans e.symm)]
      · rw [if_neg e, tkGet, if_neg (fun z => e (z.symm.trans c)), ih, if_neg e, tkGet, if_neg (fun z => e (z.symm.trans c))]
    · rw [if_neg c, tkGet, tkGet]
      by_cases q : p.1 = j
      · rw [if_pos q, if_pos q, if_neg fun z => c (q.trans z)]
      · rw [if_neg q, if_neg q, ih]
        by_cases e : j = k
        · rw [if_pos e, if_pos e]
          have : tkHas (p :: r) k = tkHas r k := by
            unfold tkHas
            refine decide_eq_decide.mpr ?_
            rw [List.map_cons, List.mem_cons]
            exact ⟨fun z => z.elim (fun y => absurd y.symm c) id, .inr⟩
          rw [this]
        · rw [if_neg e, if_neg e]
theorem tkGet_app (k : List Int) (d : D) (j : List Int) : ∀ ks : TK, tkGet (ks ++ [(k, d)]) j = match tkGet ks j with | some x => some x | none => if k = j then some d else none
  | [] => rfl
  | p :: r => by
    rw [List.cons_append, tkGet, tkGet]
    by_cases c : p.1 = j
    · rw [if_pos c, if_pos c]
    · rw [if_neg c, if_neg c, tkGet_app k d j r]
theorem tkGet_put (ks : TK) (k j : List Int) (d : D) : tkGet (tkPut ks k d) j = if j = k then some d else tkGet ks j := by
  unfold tkPut
  by_cases e : tkHas ks k = true
  · rw [if_pos e, tkGet_map, e]; rfl
  · rw [if_neg e, tkGet_app]
    by_cases c : j = k
    · subst c
      rw [tkGet_none (by simpa using e), if_pos rfl]
      first | done | exact if_pos rfl
    · rw [if_neg c, if_neg fun z => c z.symm]
      cases tkGet ks j <;> rfl
/-- the left products, by number -/
def regP (T : List Pm) (a : Pm) : Pm := T.map fun x => T.idxOf (cmp a x)
theorem regP_isP {n : Nat} {T : List Pm} {a : Pm} (hT : Grp n T) (nd : T.Nodup) (ha : a ∈ T) : IsP (regP T a) T.length := by
  have gi : ∀ i (h : i < T.length), PM.g (regP T a) i = T.idxOf (cmp a T[i]) := fun i h => by simp [regP, PM.g, h]
  have mem : ∀ i (h : i < T.length), cmp a T[i] ∈ T := fun i h => hT.mul _ ha _ (List.getElem_mem h)
  refine ⟨by simp [regP], fun i hi => by rw [gi i hi]; exact List.idxOf_lt_length_iff.mpr (mem i hi), fun i j hi hj e => ?_⟩
  rw [gi i hi, gi j hj] at e
  have h1 := List.getElem_idxOf (List.idxOf_lt_length_iff.mpr (mem i hi))
  have h2 := List.getElem_idxOf (List.idxOf_lt_length_iff.mpr (mem j hj))
  have : cmp a T[i] = cmp a T[j] := by rw [← h1, ← h2]; congr 1
  have := cmp_canc (hT.isP a ha) (hT.isP _ (List.getElem_mem hi)) (hT.isP _ (List.getElem_mem hj)) this
  exact (List.getElem_inj nd).mp this
def extP (o : Pm) (m n : Nat) : Pm := (List.range n).map fun i => if i < m then PM.g o i else i
theorem extP_g {o : Pm} {m n i : Nat} (h : i < n) : PM.g (extP o m n) i = if i < m then PM.g o i else i := by simp [extP, PM.g, h]
theorem extP_isP {o : Pm} {m n : Nat} (ho : IsP o m) (hmn : m ≤ n) : IsP (extP o m n) n := by
  refine ⟨by simp [extP], fun i hi => ?_, fun i j hi hj e => ?_⟩
  · rw [extP_g hi]
    by_cases c : i < m
    · rw [if_pos c]; have := ho.lt i c; omega
    · rw [if_neg c]; exact hi
  · rw [extP_g hi, extP_g hj] at e
    by_cases c : i < m
    · rw [if_pos c] at e
      have := ho.lt i c
      by_cases d : j < m
      · rw [if_pos d] at e; exact ho.inj i j c d e
      · rw [if_neg d] at e; omega
    · rw [if_neg c] at e
      by_cases d : j < m
      · rw [if_pos d] at e; have := ho.lt j d; omega
      · rw [if_neg d] at e; exact e
abbrev s__law_renumbered : Stmt := topS 21
theorem sc__law_renumbered : FnScope ["one", "names", "found", "k", "image"] ["one", "names"] (defScope s__law_renumbered) := ⟨rfl, rfl, rfl, by decide +kernel, rfl, by decide +kernel, by decide +kernel⟩
def f__law_renumbered : FD := fun ds q => ∃ (o ts : List Nat) (m n : Nat), ds = [.tuple (inN o), .tuple (inN ts)] ∧ IsP o m ∧ m ≤ n ∧ IsP ts n ∧ n ≤ 64 ∧ ∀ r, IsP r n → q (.val (tN r))
theorem ok__law_renumbered {f fd} {k : Nat} (F : Fun K "_law_renumbered" "_law_renumbered" s__law_renumbered f fd) (hdg : base.NoDigits) (m_len : mg "len" = none) (m_range : mg "range" = none) (m_tuple : mg "tuple" = none) : FnG P w K mg base (k + 1) f fd ["one", "names"] (SpD K 2 f__law_renumbered) := by
  refine fnD F sc__law_renumbered fun cdv A outer s H E gA hr => ?_
  have hu := hr.units
  have nd := sc__law_renumbered.nd
  refine ⟨_, (ss_cons (st_lcL (own := [("k", 3)]) (i := 2) nd (i_seqC (bv 1)) (gw_name (i := 3) nd) dts_nil (fun _ _ _ _ _ => (dv 3)) (sw_true rfl rfl rfl (by decide +kernel)))
    (ss_cons (st_for (i_range1 (de_B c_len m_len (ab_cons (bv 1) ab_nil)) m_range) (tg_name (i := 3) nd) (ss_cons (st_set (i := 4) nd (dv 3))
    (ss_cons (st_if (dt_cmp o_lt (bv 3) (DE.toB (de_B c_len m_len (ab_cons (bv 0) ab_nil)))) (ss_one (st_set (i := 4) nd (de_ix x_ix (bv 0) (bv 3)))) ss_nil)
    (ss_one (st_setI (i := 2) (de_ix x_ix (bv 1) (bv 4)) (de_ix x_ix (bv 1) (bv 3)))))))
    (ss_one (st_ret (de_T c_tuple m_tuple (ab_cons (bv 2) ab_nil)))))), ?_⟩
  clear F nd hu hr gA E H s outer A cdv hdg m_len m_range m_tuple
  intro ds q hl hg
  obtain ⟨o, ts, m, n, rfl, ho, hmn, ht, hn, hq⟩ := hg
  have hl1 := ho.len
  have hl2 := ht.len
  have hE := extP_isP ho hmn
  show sSeq _ _ _ [some (.val (.tuple (inN o))), some (.val (.tuple (inN ts))), none, none, none]
  refine sq_i fun k hk => ?_
  walk_at "rd"
  refine ⟨fit_len (by rw [inN_len]; omega), lc_nat (fun x => x) ts ?_ fun a ha q Z hq => by walk_at "rd"; exact hq⟩
  rw [List.map_id'']
  rotate_left
  · intro x; rfl
  subst hk
  refine sq_i fun k hk => for_in fun W hW => ?_
  walk_at "rd"
  rw [inN_len, hl2]
  refine ⟨Rng.of (by omega) (by omega), ?_⟩
  rw [Int.toNat_natCast]
  subst hW
  refine for_up (fun i σ => ∃ (b : List Nat) (y3 y4 : Option DV), σ = [some (.val (.tuple (inN o))), some (.val (.tuple (inN ts))), some (.own (inN b)), y3, y4] ∧ b.length = n ∧ ∀ j, j < i → PM.g b (PM.g ts j) = PM.g ts (PM.g (extP o m n) j)) 0 n ⟨ts, none, none, rfl, hl2, fun j hj => by omega⟩ ?_ ?_
  · rintro _ ⟨b, y3, y4, rfl, h1, h2⟩
    subst hk
    walk_at "rd"
    exact hq b (conj_isP hE ht h1 h2)
  · rintro i _ hi ⟨b, y3, y4, rfl, h1, h2⟩ k1 hk1
    simp only [Int.zero_add]
    have hei := hE.lt i hi
    have hti := ht.lt i hi
    refine sq_i fun k2 hk2 => ?_
    walk_at "rd"
    subst hk2
    refine sj_i 4 (fun d => d = .int (PM.g (extP o m n) i : Nat)) ?_ fun k2 hk2 => if_n fun T hT => ?_
    · rintro _ rfl
      walk_at "rd"
      refine ixP (p := ts) rfl (by omega) (ixP (p := ts) rfl (by omega) ?_)
      walk_at "rd"
      rw [ixN_P (j := PM.g ts i) rfl (by omega)]
      walk_at "rd"
      rw [inN_set]
      refine hk1 _ ⟨_, _, _, rfl, by rw [List.length_set]; exact h1, fun j hj => ?_⟩
      rw [g_set (by omega)]
      by_cases c : j = i
      · rw [c, if_pos rfl]
      · rw [if_neg (fun z => c (ht.inj _ _ (by omega) hi z)), h2 j (by omega)]
    · walk_at "rd"
      rw [inN_len, hl1]
      refine ⟨fun h => ?_, fun h => ?_⟩
      · subst hT
        walk_at "rd"
        refine ixP rfl (by omega) (hk2 _ ?_)
        rw [extP_g hi, if_pos (by omega)]
      · have := hk2 (.int (i : Nat)) (by rw [extP_g hi, if_neg (by omega)])
        exact this
abbrev s__law_regular : Stmt := topS 20
theorem sc__law_regular : FnScope ["drawn", "kept", "members", "one", "places", "k", "found", "wider", "member"] ["drawn"] (defScope s__law_regular) := ⟨rfl, rfl, rfl, by decide +kernel, rfl, by decide +kernel, by decide +kernel⟩
def f__law_regular : FD := fun ds q => ∃ gs : List Pm, ds = [.list (gs.map tN)] ∧ AllP 8 gs ∧ gs.length ≤ 100 ∧ ∀ (m : Nat) (fs : List Pm), 1 ≤ m → m ≤ 64 → AllP m fs → fs.length ≤ gs.length → q (.own [.int m, .list (fs.map tN)])
theorem ok__law_regular {f fd} {k : Nat} (F : Fun K "_law_regular" "_law_regular" s__law_regular f fd) (hdg : base.NoDigits) (m_len : mg "len" = none) (m_range : mg "range" = none) (m_sorted : mg "sorted" = none) (m_tuple : mg "tuple" = none) (r__law_closed : Ready P w K mg base "_law_closed" 3 k f__law_closed) (r__law_compose : Ready P w K mg base "_law_compose" 2 k f__law_compose) : FnG P w K mg base (k + 1) f fd ["drawn"] (SpD K 1 f__law_regular) := by
  refine fnD F sc__law_regular fun cdv A outer s H E gA hr => ?_
  have hu := hr.units
  have nd := sc__law_regular.nd
  refine ⟨_, (ss_cons (st_setL (i := 1) nd (dl_lst da_nil))
    (ss_cons (st_set (i := 2) nd (Ready.toV r__law_closed gA hr (da_cons de_int (da_cons (dv 1) (da_cons de_int da_nil)))))
    (ss_cons (st_for (i_seq (dv 0)) (tg_name (i := 3) nd) (ss_cons (st_set (i := 7) nd (r__law_closed.toE gA hr (da_cons de_int (da_cons (de_op o_add (bv 1) (DE.toB (DLs.toE (dl_lst (da_cons (dv 3) da_nil))))) (da_cons de_int da_nil)))))
    (ss_one (st_if (dt_cmp o_isNot (bv 7) (DE.toB de_non)) (ss_cons (st_app (i := 1) (dv 3))
    (ss_one (st_set (i := 2) nd (dv 7)))) ss_nil))))
    (ss_cons (st_set (i := 2) nd (DLs.toE (dl_B c_sortedT m_sorted (ab_cons (bv 2) ab_nil))))
    (ss_cons (st_setTk (i := 4) nd dtk_0)
    (ss_cons (st_for (i_range1 (de_B c_len m_len (ab_cons (bv 2) ab_nil)) m_range) (tg_name (i := 5) nd) (ss_one (st_tkPut (i := 4) hr.u1 (dv 5) (de_ix x_ix (bv 2) (bv 5)))))
    (ss_cons (st_setL (i := 6) nd (dl_lst da_nil))
    (ss_cons (st_frz 1 (st_for (i_seq (dv 1)) (tg_name (i := 3) nd) (ss_one (st_app (i := 6) (de_T c_tuple m_tuple (ab_cons (DE.toB (DLs.toE (dl_lc (own := [("member", 8)]) nd (i_seqC (bv 2)) (gw_name (i := 8) nd) dts_nil (fun _ _ _ _ _ => (de_tkGet 4 hr.u1 (r__law_compose.toE gA hr (da_cons (dv 3) (da_cons (dv 8) da_nil)))))))) ab_nil))))))
    (ss_one (st_frz 6 (st_retL (dl_lst (da_cons (de_B c_len m_len (ab_cons (bv 2) ab_nil)) (da_cons (dv 6) da_nil)))))))))))))), ?_⟩
  clear F nd hu hr gA E H s outer A cdv hdg m_len m_range m_sorted m_tuple r__law_closed r__law_compose
  intro ds q hl hg
  obtain ⟨gs, rfl, hP, hgl, hq⟩ := hg
  show sSeq _ _ _ [some (.val (.list (gs.map tN))), none, none, none, none, none, none, none, none]
  refine sq_i fun k hk => ?_
  walk_at "rd"
  subst hk
  refine sq_i fun k hk => ?_
  walk_at "rd"
  refine ⟨8, 64, [], rfl, by omega, by omega, by omega, fun g hg => by simp at hg, fun M hM hl => ?_, fun h => (nil_none (by omega) h).elim⟩
  walk_at "rd"
  refine ⟨noLst_tN M, ?_⟩
  subst hk
  refine sj_r (fun σ => ∃ (kp M : List Pm) (y3 y7 : Option DV), σ = [some (.val (.list (gs.map tN))), some (.own (kp.map tN)), some (.val (.list (M.map tN))), y3, none, none, none, y7, none] ∧ AllP 8 kp ∧ IsClo 8 kp M ∧ M.length ≤ 64 ∧ kp.length ≤ gs.length) ?_ fun k hk => for_in fun W hW => ?_
  rotate_left
  · walk_at "rd"
    subst hW
    refine for_map (fun r σ => ∃ (kp M : List Pm) (y3 y7 : Option DV), σ = [some (.val (.list (gs.map tN))), some (.own (kp.map tN)), some (.val (.list (M.map tN))), y3, none, none, none, y7, none] ∧ AllP 8 kp ∧ IsClo 8 kp M ∧ M.length ≤ 64 ∧ (∀ g ∈ r, IsP g 8) ∧ kp.length + r.length ≤ gs.length) gs ⟨[], M, none, none, rfl, fun g hg => by simp at hg, hM, hl, hP, by simp⟩ ?_ ?_
    · rintro _ ⟨kp, M, y3, y7, rfl, h1, h2, h3, _, h5⟩
      exact hk _ ⟨kp, M, y3, y7, rfl, h1, h2, h3, by simpa using h5⟩
    · rintro g r _ ⟨kp, M, y3, y7, rfl, h1, h2, h3, h4, h5⟩ k1 hk1
      have pg := h4 g List.mem_cons_self
      have h4' : ∀ x ∈ r, IsP x 8 := fun x hx => h4 x (List.mem_cons_of_mem _ hx)
      rw [List.length_cons] at h5
      have P2 : AllP 8 (kp ++ [g]) := h1.app fun x hx => by rw [List.mem_singleton.mp hx]; exact pg
      refine sq_i fun k2 hk2 => ?_
      walk_at "rd"
      rw [tN_snoc]
      refine ⟨fit_len (by simp; omega), 8, 64, kp ++ [g], rfl, by omega, by omega, by omega, P2, fun M' hM' hl' => ?_, fun h => ?_⟩
      · subst hk2
        refine if_n fun T hT => ?_
        walk_at "rd"
        subst hT
        refine sq_i fun k2 hk2 => ?_
        walk_at "rd"
        rw [tN_snoc]
        refine ⟨fit_len (by simp; omega), ?_⟩
        subst hk2
        walk_at "rd"
        exact hk1 _ ⟨kp ++ [g], M', _, _, rfl, P2, hM', hl', h4', by simp; omega⟩
      · subst hk2
        refine if_n fun T hT => ?_
        walk_at "rd"
        exact hk1 _ ⟨kp, M, _, _, rfl, h1, h2, h3, h4', by omega⟩
  clear hM hl M
  rintro _ ⟨kp, M, y3, y7, rfl, h1, hM, hl, hkl⟩
  refine sq_i fun k hk => ?_
  walk_at "rd"
  refine sortT_ok (fun x hx => ((hM.iff x).mp hx).isP h1) (by omega) (by omega) hM.nd fun T a1 a2 => ?_
  have hTt : IsTab 8 kp T := ⟨a1, fun x => by rw [a2, hM.iff]⟩
  have hT : Grp 8 T := hTt.grp h1
  have lT : T.length = M.length := ((List.perm_ext_iff_of_nodup a1.nd hM.nd).mpr a2).length_eq
  have pT : 0 < T.length := List.length_pos_of_mem hT.one
  have kT : ∀ x ∈ kp, x ∈ T := fun x hx => (hTt.iff x).mpr (Gen.of h1 hx)
  subst hk
  refine sq_i fun k hk => ?_
  walk_at "rd"
  subst hk
  refine sj_r (fun σ => ∃ (ks : TK) (y5 : Option DV), σ = [some (.val (.list (gs.map tN))), some (.own (kp.map tN)), some (.val (.list (T.map tN))), y3, some (.tks ks), y5, none, y7, none] ∧ ∀ j (h : j < T.length), tkGet ks (nk T[j]) = some (.int (j : Nat))) ?_ fun k hk => for_in fun W hW => ?_
  rotate_left
  · walk_at "rd"
    rw [List.length_map]
    refine ⟨Rng.of (by omega) (by omega), ?_⟩
    rw [Int.toNat_natCast]
    subst hW
    refine for_up (fun i σ => ∃ (ks : TK) (y5 : Option DV), σ = [some (.val (.list (gs.map tN))), some (.own (kp.map tN)), some (.val (.list (T.map tN))), y3, some (.tks ks), y5, none, y7, none] ∧ ks.length ≤ i ∧ ∀ j (h : j < T.length), j < i → tkGet ks (nk T[j]) = some (.int (j : Nat))) 0 T.length ⟨[], none, rfl, Nat.le_refl _, fun j h hj => by omega⟩ ?_ ?_
    · rintro _ ⟨ks, y5, rfl, _, h⟩
      exact hk _ ⟨ks, y5, rfl, fun j hj => h j hj hj⟩
    · rintro i _ hi ⟨ks, y5, rfl, hl2, h⟩ k1 hk1
      simp only [Int.zero_add]
      walk_at "rd"
      refine ixM (List.getElem?_eq_getElem hi) ⟨nk T[i], tN_nk _, fit_len (by omega), hk1 _ ⟨_, _, rfl, by have := tkPut_len ks (nk T[i]) (.int (i : Nat)); omega, fun j hj hji => ?_⟩⟩
      rw [tkGet_put]
      by_cases c : j = i
      · subst c; rw [if_pos rfl]
      · rw [if_neg (fun e => c ((List.getElem_inj a1.nd).mp (nk_inj e)))]
        exact h j hj (by omega)
  rintro _ ⟨ks, y5, rfl, hks⟩
  refine sq_i fun k hk => ?_
  walk_at "rd"
  subst hk
  refine sq_i fun k hk => ?_
  walk_at "rd"
  refine for_in fun W hW => ?_
  walk_at "rd"
  subst hW
  refine for_map (fun r σ => ∃ (fs : List Pm) (y3 : Option DV), σ = [some (.val (.list (gs.map tN))), some (.val (.list (kp.map tN))), some (.val (.list (T.map tN))), y3, some (.tks ks), y5, some (.own (fs.map tN)), y7, none] ∧ AllP T.length fs ∧ fs.length + r.length = kp.length ∧ ∀ x ∈ r, x ∈ T) kp ⟨[], y3, rfl, fun x hx => by simp at hx, by simp, kT⟩ ?_ ?_
  · rintro _ ⟨fs, y3, rfl, f1, f2, -⟩
    subst hk
    walk_at "rd"
    rw [List.length_map]
    exact hq T.length fs pT (by omega) f1 (by simp at f2; omega)
  · rintro a r _ ⟨fs, y3, rfl, f1, f2, f3⟩ k1 hk1
    have ha := f3 a List.mem_cons_self
    have pa := hT.isP a ha
    rw [List.length_cons] at f2
    walk_at "rd"
    refine ⟨fit_len (by simp; omega), fit_len (by simp; omega), lc_f (emb := tN) (fun x => .int (T.idxOf (cmp a x) : Nat)) T ?_ fun x hx q Z hq => ?_⟩
    · rw [show T.map (fun x => PyData.int (T.idxOf (cmp a x) : Nat)) = inN (regP T a) from by unfold inN regP; rw [List.map_map]; rfl]
      walk_at "rd"
      rw [tN_snoc]
      exact hk1 _ ⟨fs ++ [regP T a], _, rfl, f1.app fun y hy => by rw [List.mem_singleton.mp hy]; exact regP_isP hT a1.nd ha, by simp; omega, fun x hx => f3 x (List.mem_cons_of_mem _ hx)⟩
    · walk_at "rd"
      have px := hT.isP x hx
      refine ⟨true, true, a, x, rfl, fun y hy => by rw [pa.len]; exact isP_mem' px y hy, by rw [px.len]; omega, ?_⟩
      have hm := hT.mul _ ha _ hx
      have hlt := List.idxOf_lt_length_iff.mpr hm
      refine ⟨nk (cmp a x), .int (T.idxOf (cmp a x) : Nat), tN_nk _, ?_, hq⟩
      have := hks _ hlt
      rw [List.getElem_idxOf hlt] at this
      exact this

end
end K43

namespace K43
open PySem PySem.Spec PyProof.Rows L2 DL Builtin.Int
local macro_rules | `(tactic| walk_at "rd") => `(tactic| simp -failIfUnchanged only [sSet, sSetL, sRet, sRetL, sRetO, sRetN, sNext, sBreak, sCont, sDrop, sApp, sAug, sAsg, sPar, sSetI, sPop, sSetPop, sAppPop, dTupRg, sRev, sFrz, frz1, iSeq, iRevD, iRange1, iRange2, iRangeD, rName, rTup, rTL_sq, gMulS_s, gStr1_i, rTL_t, rTL_l, rCons, rNil,
  dLst, dView, tView, lView, view, look, dVar, bVar, dC, d2, d1, l2, tBool, dNil, dCons, dTup, gI, gSubI, gMulI, gFdiv, gMod, gPow, gShl, gShr, gAnd, gXor, gLt, gLe, gGt, gGe, gAdd, gEq, gNe, isNone, gIs, gIsNot, gNeg, lCat, gLen_l, gLen_t, gLen_s, gInt, gAbs, gMax2, gMin2, gTuple_l, gTuple_t, lList_l, lList_t, gGcd, gIsqrt, dCall, lCall, dIsi, dIsi2,
  tAndD, tOrD, tNotD, tTru, truD, dAndV, dOrV, dNotV, dIf, dBits, wipeD, twoD, lComp, oNone, oSome, dSl, lSl, gSl_l, gSl_t, gSl_sq, gSq_l, gSq_t, gSq_sq, lRepL, sNever, dKIn, dKGet, gOr, dCount, dIndex, sSetTk, lTk0, lTk1, lTkc, tTkIn, dTkIn, dTkGet, sTkPut, tInD, lSortSc, sIns, lLstRg, sPopI, gIx_sq, gLen_sq, gTuple_sq, lList_sq, iZipD, gZip_sq, gZip_ts, gZip_st, gZip_ls, gZip_sl, gZip_tt, gZip_ll, gZip_lt, gZip_tl, dFn, dFn0, dFnK, lFn, dFnV, valD, tYesD, eqOk_ii, eqOk_bb, eqOk_ss, eqv_int, eqv_str, eqv_bool, noLst, noLstAll, List.map_cons, List.map_nil, Option.map_some, Option.map_none,
  List.getElem?_cons_zero, List.getElem?_cons_succ, List.set_cons_zero, List.set_cons_succ, true_and, and_true, decide_eq_true_eq, decide_eq_false_iff_not, Bool.not_eq_true', Bool.not_eq_false', beq_iff_eq, beq_eq_false_iff_ne, Bool.true_eq_false, Bool.false_eq_true, false_imp_iff, true_imp_iff, forall_const, reduceCtorEq, ne_eq, not_true_eq_false, not_false_eq_true, Bool.not_true, Bool.not_false, Bool.true_and, Bool.and_true, Bool.false_and, Bool.and_false, Int.reduceToNat, Int.cast_ofNat_Int, eq_self, isTy_none_int, isTy_none_bool, isTy_none_str, isTy_none_list, isTy_none_tuple, isTy_bool_int, isTy_bool_bool, isTy_bool_str, isTy_bool_list, isTy_bool_tuple, isTy_int_int, isTy_int_bool, isTy_int_str, isTy_int_list, isTy_int_tuple, isTy_str_int, isTy_str_bool, isTy_str_str, isTy_str_list, isTy_str_tuple, isTy_list_int, isTy_list_bool, isTy_list_str, isTy_list_list, isTy_list_tuple, isTy_tuple_int, isTy_tuple_bool, isTy_tuple_str, isTy_tuple_list, isTy_tuple_tuple, List.length_cons, List.length_nil, Nat.reduceAdd, Nat.zero_add, ix2_0, ix2_1,
  gIx_l0, gIx_t0, gIx_l1, gIx_t1, gIx_l2, gIx_t2, gIx_l3, gIx_t3, gIx_l4, gIx_t4, gIx_l5, gIx_t5, gIx_l6, gIx_t6, gIx_l7, gIx_t7, gIx_l8, gIx_t8, gIx_l9, gIx_t9, gIx_l10, gIx_t10, gIx_l11, gIx_t11, gIx_l12, gIx_t12, gIx_l13, gIx_t13, gIx_l14, gIx_t14, gIx_l15, gIx_t15])
section
variable {P : Program} {w : World} {K : Frag} {mg : Str → Option Value} {base : Heap}
open TV PM GP
theorem lc_ex {α β : Type} {emb : α → D} {f : β → D} {P : β → Prop} {g : RG} {tt : RT} {de : RE} {vs : List Nat} {ρ : Rho} : ∀ (xs : List α) {q : List D → Prop},
    (∀ a ∈ xs, ∀ (q : D → Prop) (Z : Prop), (∀ p, P p → q (f p)) → g (emb a) (wipeD ρ vs) fun ρ1 => tt ρ1 fun b => (b = true → de ρ1 q) ∧ (b = false → Z)) →
    (∀ ps : List β, (∀ p ∈ ps, P p) → ps.length = xs.length → q (ps.map f)) → lcD g tt de vs (xs.map emb) ρ q
  | [], q, _, hq => hq [] (fun p hp => by simp at hp) rfl
  | a :: r, q, hs, hq => hs a List.mem_cons_self (fun x => lcD g tt de vs (r.map emb) ρ fun xs => q (x :: xs)) _ fun p hp => lc_ex r (fun b hb => hs b (List.mem_cons_of_mem _ hb)) fun ps h1 h2 => hq (p :: ps) (fun p' hp' => by
      rcases List.mem_cons.mp hp' with e | e
      · rw [e]; exact hp
      · exact h1 p' e) (by rw [List.length_cons, List.length_cons, h2])
theorem lc_exU {β : Type} {f : β → D} {P : β → Prop} {g : RG} {tt : RT} {de : RE} {vs : List Nat} {ρ : Rho} (n : Nat) {q : List D → Prop}
    (hs : ∀ i : Nat, i < n → ∀ (q : D → Prop) (Z : Prop), (∀ p, P p → q (f p)) → g (.int (i : Nat)) (wipeD ρ vs) fun ρ1 => tt ρ1 fun b => (b = true → de ρ1 q) ∧ (b = false → Z))
    (hq : ∀ ps : List β, (∀ p ∈ ps, P p) → ps.length = n → q (ps.map f)) : lcD g tt de vs (upTo 0 n) ρ q := by
  have e : upTo 0 n = (List.range n).map fun i => PyData.int (i : Nat) := by
    have : ∀ (n : Nat) (lo : Nat), upTo (lo : Int) n = (List.range' lo n).map fun i => PyData.int (i : Nat) := by
      intro n
      induction n with
      | zero => intro lo; rfl
      | succ n ih => intro lo; rw [List.range'_succ, List.map_cons, ← ih (lo + 1)]; rfl
    rw [List.range_eq_range']
    exact this n 0
  rw [e]
  exact lc_ex (List.range n) (fun i hi q Z h => hs i (List.mem_range.mp hi) q Z h) fun ps h1 h2 => hq ps h1 (by rw [h2, List.length_range])
theorem nk_sum : ∀ l : List Nat, (nk l).sum = ((l.sum : Nat) : Int)
  | [] => rfl
  | a :: l => by
    show ((a : Nat) : Int) + (nk l).sum = _
    rw [nk_sum l, List.sum_cons, Int.natCast_add]
theorem layS_1 : layS 1 4 = 8 := by decide
theorem layS_ok : ∀ m : Fin 16, 1 ≤ m.val → 1 ≤ layS m.val 4 ∧ layS m.val 4 ≤ 64 := by decide
def BlkOk (d : D) : Prop := ∃ bs : List Nat, d = .list (inN bs) ∧ bs.length ≤ 10 ∧ (∀ b ∈ bs, 1 ≤ b ∧ b ≤ 64) ∧ 1 ≤ bs.sum ∧ bs.sum ≤ 64
end
end K43

namespace K43
open PySem PySem.Spec PyProof.Rows L2 DL Builtin.Int
local macro_rules | `(tactic| walk_at "rd") => `(tactic| simp -failIfUnchanged only [sSet, sSetL, sRet, sRetL, sRetO, sRetN, sNext, sBreak, sCont, sDrop, sApp, sAug, sAsg, sPar, sSetI, sPop, sSetPop, sAppPop, dTupRg, sRev, sFrz, frz1, iSeq, iRevD, iRange1, iRange2, iRangeD, rName, rTup, rTL_sq, gMulS_s, gStr1_i, rTL_t, rTL_l, rCons, rNil,
  dLst, dView, tView, lView, view, look, dVar, bVar, dC, d2, d1, l2, tBool, dNil, dCons, dTup, gI, gSubI, gMulI, gFdiv, gMod, gPow, gShl, gShr, gAnd, gXor, gLt, gLe, gGt, gGe, gAdd, gEq, gNe, isNone, gIs, gIsNot, gNeg, lCat, gLen_l, gLen_t, gLen_s, gInt, gAbs, gMax2, gMin2, gTuple_l, gTuple_t, lList_l, lList_t, gGcd, gIsqrt, dCall, lCall, dIsi, dIsi2,
  tAndD, tOrD, tNotD, tTru, truD, dAndV, dOrV, dNotV, dIf, dBits, wipeD, twoD, lComp, oNone, oSome, dSl, lSl, gSl_l, gSl_t, gSl_sq, gSq_l, gSq_t, gSq_sq, lRepL, sNever, dKIn, dKGet, gOr, dCount, dIndex, sSetTk, lTk0, lTk1, lTkc, tTkIn, dTkIn, dTkGet, sTkPut, tInD, lSortSc, sIns, lLstRg, sPopI, gIx_sq, gLen_sq, gTuple_sq, lList_sq, iZipD, gZip_sq, gZip_ts, gZip_st, gZip_ls, gZip_sl, gZip_tt, gZip_ll, gZip_lt, gZip_tl, dFn, dFn0, dFnK, lFn, dFnV, valD, tYesD, eqOk_ii, eqOk_bb, eqOk_ss, eqv_int, eqv_str, eqv_bool, noLst, noLstAll, List.map_cons, List.map_nil, Option.map_some, Option.map_none,
  List.getElem?_cons_zero, List.getElem?_cons_succ, List.set_cons_zero, List.set_cons_succ, true_and, and_true, decide_eq_true_eq, decide_eq_false_iff_not, Bool.not_eq_true', Bool.not_eq_false', beq_iff_eq, beq_eq_false_iff_ne, Bool.true_eq_false, Bool.false_eq_true, false_imp_iff, true_imp_iff, forall_const, reduceCtorEq, ne_eq, not_true_eq_false, not_false_eq_true, Bool.not_true, Bool.not_false, Bool.true_and, Bool.and_true, Bool.false_and, Bool.and_false, Int.reduceToNat, Int.cast_ofNat_Int, eq_self, isTy_none_int, isTy_none_bool, isTy_none_str, isTy_none_list, isTy_none_tuple, isTy_bool_int, isTy_bool_bool, isTy_bool_str, isTy_bool_list, isTy_bool_tuple, isTy_int_int, isTy_int_bool, isTy_int_str, isTy_int_list, isTy_int_tuple, isTy_str_int, isTy_str_bool, isTy_str_str, isTy_str_list, isTy_str_tuple, isTy_list_int, isTy_list_bool, isTy_list_str, isTy_list_list, isTy_list_tuple, isTy_tuple_int, isTy_tuple_bool, isTy_tuple_str, isTy_tuple_list, isTy_tuple_tuple, List.length_cons, List.length_nil, Nat.reduceAdd, Nat.zero_add, ix2_0, ix2_1,
  gIx_l0, gIx_t0, gIx_l1, gIx_t1, gIx_l2, gIx_t2, gIx_l3, gIx_t3, gIx_l4, gIx_t4, gIx_l5, gIx_t5, gIx_l6, gIx_t6, gIx_l7, gIx_t7, gIx_l8, gIx_t8, gIx_l9, gIx_t9, gIx_l10, gIx_t10, gIx_l11, gIx_t11, gIx_l12, gIx_t12, gIx_l13, gIx_t13, gIx_l14, gIx_t14, gIx_l15, gIx_t15])
section
variable {P : Program} {w : World} {K : Frag} {mg : Str → Option Value} {base : Heap}
open TV PM GP
def rotP (m : Nat) : Pm := (List.range m).map fun i => (1 * i + 1) % m
theorem rotP_isP {m : Nat} (h : 1 ≤ m) : IsP (rotP m) m := affine_isP (u := 1) (t := 1) (by simp) (by omega)
theorem rotP_g {m i : Nat} (h : i < m) : PM.g (rotP m) i = (i + 1) % m := by simp [PM.g, rotP, h]
abbrev s__law_accepted : Stmt := topS 14
theorem sc__law_accepted : FnScope ["size", "drawn", "most", "kept", "members", "found", "one", "wider"] ["size", "drawn", "most"] (defScope s__law_accepted) := ⟨rfl, rfl, rfl, by decide +kernel, rfl, by decide +kernel, by decide +kernel⟩
def f__law_accepted : FD := fun ds q => ∃ (n mo : Nat) (gs : List Pm), ds = [.int n, .list (gs.map tN), .int mo] ∧ n ≤ 64 ∧ 1 ≤ n ∧ 1 ≤ mo ∧ mo ≤ 128 ∧ AllP n gs ∧ gs.length ≤ 100 ∧ ∀ (fd T : List Pm), IsTab n fd T → AllP n fd → fd.length ≤ 100 → T.length ≤ mo → q (.own [.list (fd.map tN), .list (T.map tN)])
theorem ok__law_accepted {f fd} {k : Nat} (F : Fun K "_law_accepted" "_law_accepted" s__law_accepted f fd) (hdg : base.NoDigits) (m_sorted : mg "sorted" = none) (r__law_closed : Ready P w K mg base "_law_closed" 3 k f__law_closed) : FnG P w K mg base (k + 1) f fd ["size", "drawn", "most"] (SpD K 3 f__law_accepted) := by
  refine fnD F sc__law_accepted fun cdv A outer s H E gA hr => ?_
  have hu := hr.units
  have nd := sc__law_accepted.nd
  refine ⟨_, (ss_cons (st_setL (i := 3) nd (dl_lst da_nil))
    (ss_cons (st_set (i := 4) nd (Ready.toV r__law_closed gA hr (da_cons (dv 0) (da_cons (dv 3) (da_cons (dv 2) da_nil)))))
    (ss_cons (st_setL (i := 5) nd (dl_lst da_nil))
    (ss_cons (st_for (i_seq (dv 1)) (tg_name (i := 6) nd) (ss_one (st_if (dt_cmp (o_inD hr.u65) (bv 6) (bv 4)) (ss_one (st_app (i := 5) (dv 6))) (ss_cons (st_set (i := 7) nd (r__law_closed.toE gA hr (da_cons (dv 0) (da_cons (de_op o_add (bv 3) (DE.toB (DLs.toE (dl_lst (da_cons (dv 6) da_nil))))) (da_cons (dv 2) da_nil)))))
    (ss_one (st_if (dt_cmp o_isNot (bv 7) (DE.toB de_non)) (ss_cons (st_app (i := 3) (dv 6))
    (ss_cons (st_app (i := 5) (dv 6))
    (ss_one (st_set (i := 4) nd (dv 7))))) ss_nil))))))
    (ss_one (st_frz 5 (st_retL (dl_lst (da_cons (dv 5) (da_cons (DLs.toE (dl_B c_sortedT m_sorted (ab_cons (bv 4) ab_nil))) da_nil)))))))))), ?_⟩
  clear F nd hu hr gA E H s outer A cdv hdg m_sorted r__law_closed
  intro ds q hl hg
  obtain ⟨n, mo, gs, rfl, hn, hn1, mo1, mo2, hP, hgl, hq⟩ := hg
  show sSeq _ _ _ [some (.val (.int n)), some (.val (.list (gs.map tN))), some (.val (.int (mo : Nat))), none, none, none, none, none]
  refine sq_i fun k hk => ?_
  walk_at "rd"
  subst hk
  refine sq_i fun k hk => ?_
  walk_at "rd"
  refine ⟨n, mo, [], rfl, hn, by omega, by omega, fun g hg => by simp at hg, fun M hM hl => ?_, fun h => (nil_none (by omega) h).elim⟩
  walk_at "rd"
  refine ⟨noLst_tN M, ?_⟩
  subst hk
  refine sq_i fun k hk => ?_
  walk_at "rd"
  subst hk
  refine sq_i fun k hk => for_in fun W hW => ?_
  walk_at "rd"
  subst hW
  refine for_map (fun r σ => ∃ (kp M fd : List Pm) (y6 y7 : Option DV), σ = [some (.val (.int n)), some (.val (.list (gs.map tN))), some (.val (.int (mo : Nat))), some (.own (kp.map tN)), some (.val (.list (M.map tN))), some (.own (fd.map tN)), y6, y7] ∧ AllP n kp ∧ IsClo n kp M ∧ M.length ≤ mo ∧ (∀ g ∈ r, IsP g n) ∧ kp.length + r.length ≤ 100 ∧ fd.length + r.length ≤ 100 ∧ AllP n fd ∧ (∀ x ∈ fd, x ∈ M) ∧ (∀ x ∈ kp, x ∈ fd)) gs ⟨[], M, [], _, _, rfl, fun g hg => by simp at hg, hM, by rw [clo_one hM]; exact mo1, hP, by simpa using hgl, by simpa using hgl, fun g hg => by simp at hg, fun g hg => by simp at hg, fun g hg => by simp at hg⟩ ?_ ?_
  · rintro _ ⟨kp, M, fd, y6, y7, rfl, h1, h2, h3, -, -, l2, h4, h5, h6⟩
    subst hk
    walk_at "rd"
    refine sortT_ok (fun x hx => ((h2.iff x).mp hx).isP h1) hn1 (by omega) h2.nd fun T a1 a2 => ?_
    have lT : T.length = M.length := ((List.perm_ext_iff_of_nodup a1.nd h2.nd).mpr a2).length_eq
    refine hq fd T ⟨a1, fun x => ?_⟩ h4 (by simpa using l2) (by rw [lT]; exact h3)
    rw [a2, h2.iff]
    exact ⟨fun h => h.mono h4 fun g hg => Gen.of h4 (h6 g hg), fun h => h.mono h1 fun g hg => (h2.iff g).mp (h5 g hg)⟩
  · rintro g r _ ⟨kp, M, fd, y6, y7, rfl, h1, h2, h3, hr, l1, l2, h4, h5, h6⟩ k1 hk1
    have pg := hr g List.mem_cons_self
    have hr' : ∀ x ∈ r, IsP x n := fun x hx => hr x (List.mem_cons_of_mem _ hx)
    rw [List.length_cons] at l1 l2
    have fP : AllP n (fd ++ [g]) := h4.app fun x hx => by rw [List.mem_singleton.mp hx]; exact pg
    refine if_in fun T U hT hU => ?_
    walk_at "rd"
    refine ⟨shaped_tN g, shaped_tNs M, ?_⟩
    rw [any_tN]
    walk_at "rd"
    refine ⟨fun c => ?_, fun c => ?_⟩
    · have c : g ∈ M := by simpa using c
      subst hT
      walk_at "rd"
      rw [tN_snoc]
      refine ⟨fit_len (by simp; omega), hk1 _ ⟨kp, M, fd ++ [g], _, _, rfl, h1, h2, h3, hr', by omega, by simp; omega, fP, fun x hx => ?_, fun x hx => List.mem_append_left _ (h6 x hx)⟩⟩
      rcases List.mem_append.mp hx with q | q
      · exact h5 x q
      · rw [List.mem_singleton.mp q]; exact c
    · subst hU
      refine sq_i fun k2 hk2 => ?_
      walk_at "rd"
      rw [tN_snoc]
      have P2 : AllP n (kp ++ [g]) := h1.app fun x hx => by rw [List.mem_singleton.mp hx]; exact pg
      refine ⟨fit_len (by simp; omega), n, mo, kp ++ [g], rfl, hn, by omega, by omega, P2, fun M' hM' hl' => ?_, fun h => ?_⟩
      · subst hk2
        refine if_n fun T hT => ?_
        walk_at "rd"
        subst hT
        refine sq_i fun k2 hk2 => ?_
        walk_at "rd"
        rw [tN_snoc]
        refine ⟨fit_len (by simp; omega), ?_⟩
        subst hk2
        refine sq_i fun k2 hk2 => ?_
        walk_at "rd"
        rw [tN_snoc]
        refine ⟨fit_len (by simp; omega), ?_⟩
        subst hk2
        walk_at "rd"
        refine hk1 _ ⟨kp ++ [g], M', fd ++ [g], _, _, rfl, P2, hM', hl', hr', by simp; omega, by simp; omega, fP, fun x hx => ?_, fun x hx => ?_⟩
        · rcases List.mem_append.mp hx with q | q
          · exact (hM'.iff x).mpr (((h2.iff x).mp (h5 x q)).mono P2 fun y hy => Gen.of P2 (List.mem_append_left _ hy))
          · exact (hM'.iff x).mpr (Gen.of P2 (List.mem_append_right _ q))
        · rcases List.mem_append.mp hx with q | q
          · exact List.mem_append_left _ (h6 x q)
          · exact List.mem_append_right _ q
      · subst hk2
        refine if_n fun T hT => ?_
        walk_at "rd"
        exact hk1 _ ⟨kp, M, fd, _, _, rfl, h1, h2, h3, hr', by omega, by omega, h4, h5, h6⟩
abbrev s__law_three : Stmt := topS 19
theorem sc__law_three : FnScope ["cell", "size", "names", "found", "many", "k"] ["cell", "size"] (defScope s__law_three) := ⟨rfl, rfl, rfl, by decide +kernel, rfl, by decide +kernel, by decide +kernel⟩
def f__law_three : FD := fun ds q => ∃ (c : Int) (n : Nat), ds = [.int c, .int n] ∧ 1 ≤ n ∧ n ≤ 64 ∧ ∀ p, IsP p n → q (.val (tN p))
theorem ok__law_three {f fd} {k : Nat} (F : Fun K "_law_three" "_law_three" s__law_three f fd) (hdg : base.NoDigits) (m_int : mg "int" = none) (m_min : mg "min" = none) (m_range : mg "range" = none) (m_tuple : mg "tuple" = none) (r__law_shuffled : Ready P w K mg base "_law_shuffled" 2 k f__law_shuffled) : FnG P w K mg base (k + 1) f fd ["cell", "size"] (SpD K 2 f__law_three) := by
  refine fnD F sc__law_three fun cdv A outer s H E gA hr => ?_
  have hu := hr.units
  have nd := sc__law_three.nd
  refine ⟨_, (ss_cons (st_set (i := 2) nd (r__law_shuffled.toE gA hr (da_cons (dv 0) (da_cons (dv 1) da_nil))))
    (ss_cons (st_lcL (own := [("k", 5)]) (i := 3) nd (DI.c (i_range1 (dv 1) m_range)) (gw_name (i := 5) nd) dts_nil (fun _ _ _ _ _ => (dv 5)) (sw_true rfl rfl rfl (by decide +kernel)))
    (ss_cons (st_set (i := 4) nd (de_B c_min2 m_min (ab_cons (DE.toB de_int) (ab_cons (bv 1) ab_nil))))
    (ss_cons (st_for (i_range1 (dv 4) m_range) (tg_name (i := 5) nd) (ss_one (st_setI (i := 3) (de_ix x_ix (bv 2) (DE.toB (de_op o_mod (DE.toB (de_T c_int m_int (ab_cons (DE.toB (de_op o_add (bv 5) (DE.toB de_int))) ab_nil))) (bv 4)))) (de_ix x_ix (bv 2) (bv 5)))))
    (ss_one (st_ret (de_T c_tuple m_tuple (ab_cons (bv 3) ab_nil)))))))), ?_⟩
  clear F nd hu hr gA E H s outer A cdv hdg m_int m_min m_range m_tuple r__law_shuffled
  intro ds q hl hg
  obtain ⟨c, n, rfl, hn1, hn, hq⟩ := hg
  show sSeq _ _ _ [some (.val (.int c)), some (.val (.int n)), none, none, none, none]
  refine sq_i fun k hk => ?_
  walk_at "rd"
  refine ⟨c, n, rfl, hn, fun ts ht => ?_⟩
  have hl2 := ht.len
  walk_at "rd"
  subst hk
  refine sq_i fun k hk => ?_
  walk_at "rd"
  refine ⟨Rng.of (by omega) (by omega), ?_⟩
  rw [Int.toNat_natCast]
  refine ⟨fit_len (by rw [upTo_length]; omega), lc_up (fun i => .int (i : Nat)) n ?_ fun i hi q Z hq => by walk_at "rd"; exact hq⟩
  rw [inN_range]
  subst hk
  refine sq_i fun k hk => ?_
  walk_at "rd"
  obtain ⟨m, em, m1, m2⟩ : ∃ m : Nat, (if (n : Int) < 3 then (n : Int) else 3) = (m : Int) ∧ 1 ≤ m ∧ m ≤ n := by
    refine ⟨(if (n : Int) < 3 then (n : Int) else 3).toNat, ?_, ?_, ?_⟩ <;> split <;> omega
  rw [em]
  have ho := rotP_isP m1
  have hE := extP_isP ho m2
  subst hk
  refine sq_i fun k hk => for_in fun W hW => ?_
  walk_at "rd"
  refine ⟨Rng.of (by omega) (by omega), ?_⟩
  rw [Int.toNat_natCast]
  subst hW
  refine for_up (fun i σ => ∃ (b : List Nat) (y5 : Option DV), σ = [some (.val (.int c)), some (.val (.int n)), some (.val (.tuple (inN ts))), some (.own (inN b)), some (.val (.int (m : Nat))), y5] ∧ b.length = n ∧ (∀ j, j < i → PM.g b (PM.g ts j) = PM.g ts ((j + 1) % m)) ∧ ∀ j, i ≤ j → j < n → PM.g b (PM.g ts j) = PM.g ts j) 0 m ⟨List.range n, none, rfl, by simp, fun j hj => by omega, fun j _ hj => by rw [g_range (ht.lt j hj)]⟩ ?_ ?_
  · rintro _ ⟨b, y5, rfl, h1, h2, h3⟩
    subst hk
    walk_at "rd"
    refine hq b (conj_isP hE ht h1 fun i hi => ?_)
    rw [extP_g hi]
    by_cases c : i < m
    · rw [if_pos c, rotP_g c]
      exact h2 i c
    · rw [if_neg c]
      exact h3 i (by omega) hi
  · rintro i _ hi ⟨b, y5, rfl, h1, h2, h3⟩ k1 hk1
    simp only [Int.zero_add]
    have hti := ht.lt i (by omega)
    have hmod := Nat.mod_lt (i + 1) (show 0 < m by omega)
    walk_at "rd"
    refine ⟨by omega, ?_⟩
    rw [show ((i : Int) + 1) = ((i + 1 : Nat) : Int) from rfl, fmodN]
    refine ixP (p := ts) rfl (by omega) (ixP (p := ts) rfl (by omega) ?_)
    walk_at "rd"
    rw [ixN_P (j := PM.g ts i) rfl (by omega)]
    walk_at "rd"
    rw [inN_set]
    refine hk1 _ ⟨_, _, rfl, by rw [List.length_set]; exact h1, fun j hj => ?_, fun j hj hjn => ?_⟩
    · rw [g_set (by omega)]
      by_cases c : j = i
      · rw [c, if_pos rfl]
      · rw [if_neg (fun z => c (ht.inj _ _ (by omega) (by omega) z)), h2 j (by omega)]
    · rw [g_set (by omega), if_neg (fun z => by have := ht.inj _ _ hjn (by omega) z; omega)]
      exact h3 j (by omega) hjn
abbrev s__law_drawn : Stmt := topS 22
theorem sc__law_drawn : FnScope ["script", "row", "kind", "cells", "blocks", "size", "names", "found", "k", "cell", "one"] ["script"] (defScope s__law_drawn) := ⟨rfl, rfl, rfl, by decide +kernel, rfl, by decide +kernel, by decide +kernel⟩
def f__law_drawn : FD := fun ds q => ∃ ns : List Int, ds = [.list (ns.map .int)] ∧ (∀ i ∈ ns, intBits i ≤ 1048576) ∧ ∀ (n : Nat) (gs : List Pm), 1 ≤ n → n ≤ 64 → AllP n gs → gs.length ≤ 100 → q (.own [.int n, .list (gs.map tN)])
theorem ok__law_drawn {f fd} {k : Nat} (F : Fun K "_law_drawn" "_law_drawn" s__law_drawn f fd) (hdg : base.NoDigits) (m_int : mg "int" = none) (m_len : mg "len" = none) (m_min : mg "min" = none) (m_range : mg "range" = none) (m_sum : mg "sum" = none) (m_tuple : mg "tuple" = none) (r__law_digits : Ready P w K mg base "_law_digits" 2 k f__law_digits) (r__law_cell : Ready P w K mg base "_law_cell" 2 k f__law_cell) (r__law_shuffled : Ready P w K mg base "_law_shuffled" 2 k f__law_shuffled) (r__law_layers : Ready P w K mg base "_law_layers" 2 k f__law_layers) (r__law_turns : Ready P w K mg base "_law_turns" 2 k f__law_turns) (r__law_affine : Ready P w K mg base "_law_affine" 2 k f__law_affine) (r__law_regular : Ready P w K mg base "_law_regular" 1 k f__law_regular) (r__law_three : Ready P w K mg base "_law_three" 2 k f__law_three) (r__law_renumbered : Ready P w K mg base "_law_renumbered" 2 k f__law_renumbered) : FnG P w K mg base (k + 1) f fd ["script"] (SpD K 1 f__law_drawn) := by
  refine fnD F sc__law_drawn fun cdv A outer s H E gA hr => ?_
  have hu := hr.units
  have nd := sc__law_drawn.nd
  refine ⟨_, (ss_cons (st_set (i := 1) nd (r__law_digits.toE gA hr (da_cons (r__law_cell.toE gA hr (da_cons (dv 0) (da_cons de_int da_nil))) (da_cons (DLs.toE (dl_lst (da_cons de_int (da_cons de_int (da_cons de_int (da_cons de_int (da_cons de_int (da_cons de_int (da_cons de_int (da_cons de_int da_nil)))))))))) da_nil))))
    (ss_cons (st_set (i := 2) nd (de_ix x_ix (DE.toB (DLs.toE (dl_lst (da_cons de_int (da_cons de_int (da_cons de_int (da_cons de_int (da_cons de_int (da_cons de_int (da_cons de_int (da_cons de_int (da_cons de_int da_nil)))))))))))) (DE.toB (de_ix x_ix (bv 1) (DE.toB de_int)))))
    (ss_cons (st_lc (own := [("k", 8)]) (i := 3) nd (DI.c (i_range1 (de_ix x_ix (DE.toB (DLs.toE (dl_lst (da_cons de_int (da_cons de_int (da_cons de_int (da_cons de_int (da_cons de_int (da_cons de_int (da_cons de_int (da_cons de_int da_nil))))))))))) (DE.toB (de_ix x_ix (bv 1) (DE.toB de_int)))) m_range)) (gw_name (i := 8) nd) dts_nil (fun _ _ _ _ _ => (r__law_cell.toE gA hr (da_cons (dv 0) (da_cons (de_op o_add (DE.toB de_int) (bv 8)) da_nil)))) (sw_true rfl rfl rfl (by decide +kernel)))
    (ss_cons (st_set (i := 4) nd (DLs.toE (dl_lst (da_cons (DLs.toE (dl_lst (da_cons de_int da_nil))) (da_cons (DLs.toE (dl_lst (da_cons de_int (da_cons de_int da_nil)))) (da_cons (DLs.toE (dl_lst (da_cons de_int (da_cons de_int (da_cons de_int da_nil))))) (da_cons (DLs.toE (dl_lst (da_cons de_int (da_cons de_int (da_cons de_int (da_cons de_int (da_cons de_int (da_cons de_int (da_cons de_int da_nil))))))))) (da_cons (DLs.toE (dl_lst (da_cons de_int (da_cons de_int da_nil)))) (da_cons (DLs.toE (dl_lst (da_cons de_int (da_cons de_int (da_cons de_int da_nil))))) (da_cons (DLs.toE (dl_lst (da_cons de_int (da_cons de_int (da_cons de_int da_nil))))) (da_cons (DLs.toE (dl_lst (da_cons de_int (da_cons de_int da_nil)))) (da_cons (DLs.toE (dl_lst (da_cons de_int (da_cons de_int da_nil)))) (da_cons (DLs.toE (dl_lst (da_cons de_int (da_cons de_int da_nil)))) (da_cons (DLs.toE (dl_lst (da_cons de_int da_nil))) da_nil))))))))))))))
    (ss_cons (st_set (i := 4) nd (de_ix x_ix (DE.toB (de_op o_add (bv 4) (DE.toB (DLs.toE (dl_lst (da_cons (DLs.toE (dl_lst (da_cons de_int da_nil))) (da_cons (DLs.toE (dl_lst (da_cons de_int (da_cons de_int da_nil)))) (da_cons (DLs.toE (dl_lst (da_cons de_int (da_cons de_int (da_cons de_int da_nil))))) (da_cons (DLs.toE (dl_lst (da_cons de_int (da_cons de_int da_nil)))) (da_cons (DLs.toE (dl_lst (da_cons (de_op o_add (DE.toB de_int) (DE.toB (de_ix x_ix (bv 1) (DE.toB de_int)))) da_nil))) da_nil)))))))))) (DE.toB (de_ix x_ix (bv 1) (DE.toB de_int)))))
    (ss_cons (st_set (i := 5) nd (de_op o_add (DE.toB de_int) (DE.toB (de_ix x_ix (bv 1) (DE.toB de_int)))))
    (ss_cons (st_if (dt_cmp (o_eq hu) (bv 2) (DE.toB de_int)) (ss_cons (st_if (dt_cmp o_gt (DE.toB (de_ix x_ix (bv 1) (DE.toB de_int))) (DE.toB de_int)) (ss_one (st_set (i := 5) nd (de_op o_add (DE.toB de_int) (DE.toB (de_ix x_ix (bv 1) (DE.toB de_int)))))) ss_nil)
    (ss_one (st_lc (own := [("cell", 9)]) (i := 7) nd (i_seqC (bv 3)) (gw_name (i := 9) nd) dts_nil (fun _ _ _ _ _ => (r__law_shuffled.toE gA hr (da_cons (dv 9) (da_cons (dv 5) da_nil)))) (sw_true rfl rfl rfl (by decide +kernel))))) (ss_one (st_if (dt_cmp (o_eq hu) (bv 2) (DE.toB de_int)) (ss_cons (st_set (i := 5) nd de_int)
    (ss_one (st_lc (own := [("cell", 9)]) (i := 7) nd (i_seqC (bv 3)) (gw_name (i := 9) nd) dts_nil (fun _ _ _ _ _ => (r__law_layers.toE gA hr (da_cons (dv 9) (da_cons de_int da_nil)))) (sw_true rfl rfl rfl (by decide +kernel))))) (ss_one (st_if (dt_cmp (o_eq hu) (bv 2) (DE.toB de_int)) (ss_cons (st_set (i := 5) nd (de_B c_len m_len (ab_cons (DE.toB (r__law_layers.toE gA hr (da_cons de_int (da_cons (de_op o_add (DE.toB de_int) (DE.toB (de_ix x_ix (bv 1) (DE.toB de_int)))) da_nil)))) ab_nil)))
    (ss_one (st_lc (own := [("cell", 9)]) (i := 7) nd (i_seqC (bv 3)) (gw_name (i := 9) nd) dts_nil (fun _ _ _ _ _ => (r__law_layers.toE gA hr (da_cons (dv 9) (da_cons (de_op o_add (DE.toB de_int) (DE.toB (de_ix x_ix (bv 1) (DE.toB de_int)))) da_nil)))) (sw_true rfl rfl rfl (by decide +kernel))))) (ss_one (st_if (dt_cmp (o_eq hu) (bv 2) (DE.toB de_int)) (ss_cons (st_set (i := 5) nd (de_B c_sum m_sum (ab_cons (bv 4) ab_nil)))
    (ss_one (st_lc (own := [("cell", 9)]) (i := 7) nd (i_seqC (bv 3)) (gw_name (i := 9) nd) dts_nil (fun _ _ _ _ _ => (r__law_turns.toE gA hr (da_cons (dv 9) (da_cons (dv 4) da_nil)))) (sw_true rfl rfl rfl (by decide +kernel))))) (ss_one (st_if (dt_cmp (o_eq hu) (bv 2) (DE.toB de_int)) (ss_cons (st_set (i := 5) nd (de_ix x_ix (DE.toB (DLs.toE (dl_lst (da_cons de_int (da_cons de_int (da_cons de_int (da_cons de_int (da_cons de_int (da_cons de_int (da_cons de_int (da_cons de_int (da_cons de_int (da_cons de_int (da_cons de_int (da_cons de_int (da_cons de_int (da_cons de_int (da_cons de_int (da_cons (de_op o_add (DE.toB de_int) (DE.toB (de_ix x_ix (bv 1) (DE.toB de_int)))) da_nil))))))))))))))))))) (DE.toB (de_ix x_ix (bv 1) (DE.toB de_int)))))
    (ss_one (st_lc (own := [("cell", 9)]) (i := 7) nd (i_seqC (bv 3)) (gw_name (i := 9) nd) dts_nil (fun _ _ _ _ _ => (r__law_affine.toE gA hr (da_cons (dv 9) (da_cons (dv 5) da_nil)))) (sw_true rfl rfl rfl (by decide +kernel))))) (ss_one (st_if (dt_cmp (o_eq hu) (bv 2) (DE.toB de_int)) (ss_one (st_asg (r__law_regular.toE gA hr (da_cons (DLs.toE (dl_lc (own := [("cell", 9)]) nd (i_seqC (bv 3)) (gw_name (i := 9) nd) dts_nil (fun _ _ _ _ _ => (r__law_layers.toE gA hr (da_cons (dv 9) (da_cons de_int da_nil)))))) da_nil)) (tg_tl (n := 2) (tg_cons (tg_name (i := 5) nd) (tg_cons (tg_name (i := 7) nd) tg_nil))))) (ss_cons (st_set (i := 5) nd (de_op o_add (DE.toB de_int) (DE.toB (de_op o_mod (DE.toB (de_T c_int m_int (ab_cons (DE.toB (de_ix x_ix (bv 1) (DE.toB de_int))) ab_nil))) (DE.toB de_int)))))
    (ss_cons (st_if (dt_cmp o_gt (DE.toB (de_ix x_ix (bv 1) (DE.toB de_int))) (DE.toB de_int)) (ss_one (st_set (i := 5) nd (de_op o_add (DE.toB de_int) (DE.toB (de_ix x_ix (bv 1) (DE.toB de_int)))))) ss_nil)
    (ss_one (st_lc (own := [("cell", 9)]) (i := 7) nd (i_seqC (bv 3)) (gw_name (i := 9) nd) dts_nil (fun _ _ _ _ _ => (r__law_three.toE gA hr (da_cons (dv 9) (da_cons (dv 5) da_nil)))) (sw_true rfl rfl rfl (by decide +kernel)))))))))))))))))
    (ss_cons (st_set (i := 5) nd (de_B c_min2 m_min (ab_cons (DE.toB de_int) (ab_cons (DE.toB (de_op o_add (bv 5) (DE.toB (de_ix x_ix (bv 1) (DE.toB de_int))))) ab_nil))))
    (ss_cons (st_set (i := 6) nd (de_T c_tuple m_tuple (ab_cons (DE.toB (DLs.toE (dl_lc (own := [("k", 8)]) nd (DI.c (i_range1 (dv 5) m_range)) (gw_name (i := 8) nd) dts_nil (fun _ _ _ _ _ => (dv 8))))) ab_nil)))
    (ss_cons (st_if (dt_cmp o_gt (DE.toB (de_ix x_ix (bv 1) (DE.toB de_int))) (DE.toB de_int)) (ss_one (st_set (i := 6) nd (r__law_shuffled.toE gA hr (da_cons (r__law_cell.toE gA hr (da_cons (dv 0) (da_cons de_int da_nil))) (da_cons (dv 5) da_nil))))) ss_nil)
    (ss_one (st_retL (dl_lst (da_cons (dv 5) (da_cons (DLs.toE (dl_lc (own := [("one", 10)]) nd (i_seqC (bv 7)) (gw_name (i := 10) nd) dts_nil (fun _ _ _ _ _ => (r__law_renumbered.toE gA hr (da_cons (dv 10) (da_cons (dv 6) da_nil)))))) da_nil))))))))))))))), ?_⟩
  clear F nd hu hr gA E H s outer A cdv hdg m_int m_len m_min m_range m_sum m_tuple r__law_digits r__law_cell r__law_shuffled r__law_layers r__law_turns r__law_affine r__law_regular r__law_three r__law_renumbered
  intro ds q hl hg
  obtain ⟨ns, rfl, hb, hq⟩ := hg
  show sSeq _ _ _ [some (.val (.list (ns.map .int))), none, none, none, none, none, none, none, none, none, none]
  refine sq_i fun k hk => ?_
  walk_at "rd"
  refine ⟨ns, 0, rfl, by decide, hb, fun v hv => ?_⟩
  refine ⟨v, [9, 5, 15, 16, 62, 8, 3, 4], rfl, by decide, by decide, fun rs hrs => ?_⟩
  obtain ⟨r0, rs, rfl, a0, hrs⟩ := hrs.cons
  obtain ⟨r1, rs, rfl, a1, hrs⟩ := hrs.cons
  obtain ⟨r2, rs, rfl, a2, hrs⟩ := hrs.cons
  obtain ⟨r3, rs, rfl, a3, hrs⟩ := hrs.cons
  obtain ⟨r4, rs, rfl, a4, hrs⟩ := hrs.cons
  obtain ⟨r5, rs, rfl, a5, hrs⟩ := hrs.cons
  obtain ⟨r6, rs, rfl, a6, hrs⟩ := hrs.cons
  obtain ⟨r7, rs, rfl, a7, hrs⟩ := hrs.cons
  obtain rfl := hrs.nil
  obtain ⟨c1, rfl⟩ := Int.eq_ofNat_of_zero_le a1.1
  obtain ⟨c2, rfl⟩ := Int.eq_ofNat_of_zero_le a2.1
  obtain ⟨c4, rfl⟩ := Int.eq_ofNat_of_zero_le a4.1
  obtain ⟨c6, rfl⟩ := Int.eq_ofNat_of_zero_le a6.1
  walk_at "rd"
  subst hk
  refine sq_i fun k hk => ?_
  walk_at "rd"
  refine gIx_ints (ns := [0, 1, 1, 2, 3, 4, 5, 6, 3]) (fun n => 0 ≤ n ∧ n ≤ 6) a0.1 (by simpa using a0.2) (fun n e => ?_) fun kd hkd => ?_
  · have := List.mem_of_getElem? e
    simp only [List.mem_cons, List.not_mem_nil, or_false] at this
    omega
  subst hk
  refine sq_i fun k hk => ?_
  walk_at "rd"
  refine gIx_ints (ns := [2, 3, 1, 2, 4, 3, 5, 0]) (fun n => 0 ≤ n ∧ n ≤ 5) a5.1 (by simpa using a5.2) (fun n e => ?_) fun mm hmm => ?_
  · have := List.mem_of_getElem? e
    simp only [List.mem_cons, List.not_mem_nil, or_false] at this
    omega
  obtain ⟨mn, rfl⟩ := Int.eq_ofNat_of_zero_le hmm.1
  refine ⟨Rng.of (by omega) (by omega), ?_⟩
  rw [Int.toNat_natCast]
  refine ⟨fit_len (by rw [upTo_length]; omega), lc_exU (f := PyData.int) (P := fun _ => True) mn (fun i hi q Z h => ?_) fun cs _ hcs => ?_⟩
  · walk_at "rd"
    refine ⟨ns, 4 + (i : Nat), rfl, by omega, hb, fun w hw => h w trivial⟩
  subst hk
  refine sq_i fun k hk => ?_
  walk_at "rd"
  subst hk
  refine sq_i fun k hk => ?_
  walk_at "rd"
  refine ⟨Fit.of (by decide), ?_⟩
  simp only [List.cons_append, List.nil_append]
  refine gIx_P BlkOk a3.1 (by simpa using a3.2) (fun d e => ?_) ?_
  · have := List.mem_of_getElem? e
    simp only [List.mem_cons, List.not_mem_nil, or_false] at this
    rcases this with rfl | rfl | rfl | rfl | rfl | rfl | rfl | rfl | rfl | rfl | rfl | rfl | rfl | rfl | rfl | rfl
    · exact ⟨[8], rfl, by decide⟩
    · exact ⟨[4, 4], rfl, by decide⟩
    · exact ⟨[4, 2, 2], rfl, by decide⟩
    · exact ⟨[2, 2, 2, 2, 2, 2, 2], rfl, by decide⟩
    · exact ⟨[3, 4], rfl, by decide⟩
    · exact ⟨[3, 3, 2], rfl, by decide⟩
    · exact ⟨[5, 2, 2], rfl, by decide⟩
    · exact ⟨[6, 4], rfl, by decide⟩
    · exact ⟨[7, 3], rfl, by decide⟩
    · exact ⟨[16, 2], rfl, by decide⟩
    · exact ⟨[32], rfl, by decide⟩
    · exact ⟨[64], rfl, by decide⟩
    · exact ⟨[8, 4], rfl, by decide⟩
    · exact ⟨[12, 2, 2], rfl, by decide⟩
    · exact ⟨[9, 2], rfl, by decide⟩
    · exact ⟨[3 + c4], rfl, by simp, fun b hb => by rw [List.mem_singleton.mp hb]; omega, by simp; omega, by simp; omega⟩
  rintro _ ⟨bs, rfl, b1, b2, b3, b4⟩
  subst hk
  refine sq_i fun k hk => ?_
  walk_at "rd"
  subst hk
  refine sj_r (fun σ => ∃ (n : Nat) (gs : List Pm), σ = [some (.val (.list (ns.map .int))), some (.val (.list [.int r0, .int (c1 : Nat), .int (c2 : Nat), .int r3, .int (c4 : Nat), .int r5, .int (c6 : Nat), .int r7])), some (.val (.int kd)), some (.val (.list (cs.map .int))), some (.val (.list (inN bs))), some (.val (.int (n : Nat))), none, some (.val (.list (gs.map tN))), none, none, none] ∧ 1 ≤ n ∧ n ≤ 64 ∧ AllP n gs ∧ gs.length ≤ 100) ?_ fun k hk => if_in fun T U hT hU => ?_
  rotate_left
  · have done : ∀ (n : Nat) (gs : List Pm), 1 ≤ n → n ≤ 64 → (∀ p ∈ gs, IsP p n) → gs.length = cs.length → k [some (.val (.list (ns.map .int))), some (.val (.list [.int r0, .int (c1 : Nat), .int (c2 : Nat), .int r3, .int (c4 : Nat), .int r5, .int (c6 : Nat), .int r7])), some (.val (.int kd)), some (.val (.list (cs.map .int))), some (.val (.list (inN bs))), some (.val (.int (n : Nat))), none, some (.val (.list (gs.map tN))), none, none, none] := fun n gs h1 h2 h3 h4 => hk _ ⟨n, gs, rfl, h1, h2, h3, by omega⟩
    walk_at "rd"
    refine ⟨fun h => ?_, fun h0 => ?_⟩
    · subst hT
      refine sj_i 5 (fun d => ∃ n : Nat, d = .int (n : Nat) ∧ 1 ≤ n ∧ n ≤ 64) ?_ fun k2 hk2 => if_n fun T hT => ?_
      · rintro _ ⟨n, rfl, n1, n2⟩
        walk_at "rd"
        refine ⟨fit_len (by simp; omega), lc_ex (emb := PyData.int) (f := tN) (P := fun p => IsP p n) cs (fun a ha q Z hq => ?_) fun gs h1 h2 => done n gs n1 n2 h1 h2⟩
        walk_at "rd"
        exact ⟨a, n, rfl, n2, fun p hp => hq p hp⟩
      · walk_at "rd"
        refine ⟨fun h => ?_, fun h => hk2 _ ⟨1 + c1, rfl, by omega, by omega⟩⟩
        subst hT
        walk_at "rd"
        exact hk2 _ ⟨3 + c4, rfl, by omega, by omega⟩
    subst hU
    refine if_in fun T U hT hU => ?_
    walk_at "rd"
    refine ⟨fun h => ?_, fun h0 => ?_⟩
    · subst hT
      refine sq_i fun k2 hk2 => ?_
      walk_at "rd"
      subst hk2
      walk_at "rd"
      refine ⟨fit_len (by simp; omega), lc_ex (emb := PyData.int) (f := tN) (P := fun p => IsP p 8) cs (fun a ha q Z hq => ?_) fun gs h1 h2 => done 8 gs (by omega) (by omega) h1 h2⟩
      walk_at "rd"
      exact ⟨a, 1, rfl, by omega, fun p hp => hq p (by rw [layS_1] at hp; exact hp)⟩
    subst hU
    refine if_in fun T U hT hU => ?_
    walk_at "rd"
    refine ⟨fun h => ?_, fun h1 => ?_⟩
    · obtain ⟨l1, l2⟩ := layS_ok ⟨1 + c2, by omega⟩ (by show 1 ≤ 1 + c2; omega)
      subst hT
      refine sq_i fun k2 hk2 => ?_
      walk_at "rd"
      refine ⟨0, 1 + c2, rfl, by omega, fun p hp => ?_⟩
      walk_at "rd"
      rw [inN_len, hp.len]
      subst hk2
      walk_at "rd"
      refine ⟨fit_len (by simp; omega), lc_ex (emb := PyData.int) (f := tN) (P := fun p => IsP p (layS (1 + c2) 4)) cs (fun a ha q Z hq => ?_) fun gs h1 h2 => done _ gs l1 l2 h1 h2⟩
      walk_at "rd"
      exact ⟨a, 1 + c2, rfl, by omega, hq⟩
    subst hU
    refine if_in fun T U hT hU => ?_
    walk_at "rd"
    refine ⟨fun h => ?_, fun h2 => ?_⟩
    · subst hT
      refine sq_i fun k2 hk2 => ?_
      walk_at "rd"
      refine ⟨nk bs, by rw [inN_nk], ?_⟩
      rw [nk_sum]
      subst hk2
      walk_at "rd"
      refine ⟨fit_len (by simp; omega), lc_ex (emb := PyData.int) (f := tN) (P := fun p => IsP p bs.sum) cs (fun a ha q Z hq => ?_) fun gs h1 h2 => done _ gs b3 b4 h1 h2⟩
      walk_at "rd"
      exact ⟨a, bs, rfl, b1, b2, b4, hq⟩
    subst hU
    refine if_in fun T U hT hU => ?_
    walk_at "rd"
    refine ⟨fun h => ?_, fun h3 => ?_⟩
    · subst hT
      refine sq_i fun k2 hk2 => ?_
      walk_at "rd"
      refine gIx_ints (ns := [8, 16, 12, 15, 7, 9, 5, 11, 14, 18, 10, 64, 32, 6, 4, 2 + (c4 : Int)]) (fun n => 2 ≤ n ∧ n ≤ 64) a3.1 (by simpa using a3.2) (fun n e => ?_) fun mo hmo => ?_
      · have := List.mem_of_getElem? e
        simp only [List.mem_cons, List.not_mem_nil, or_false] at this
        omega
      obtain ⟨mo, rfl⟩ := Int.eq_ofNat_of_zero_le (show 0 ≤ mo by omega)
      subst hk2
      walk_at "rd"
      refine ⟨fit_len (by simp; omega), lc_ex (emb := PyData.int) (f := tN) (P := fun p => IsP p mo) cs (fun a ha q Z hq => ?_) fun gs h1 h2 => done _ gs (by omega) (by omega) h1 h2⟩
      walk_at "rd"
      exact ⟨a, mo, rfl, by omega, by omega, hq⟩
    subst hU
    refine if_in fun T U hT hU => ?_
    walk_at "rd"
    refine ⟨fun h => ?_, fun h4 => ?_⟩
    · subst hT
      walk_at "rd"
      refine ⟨fit_len (by simp; omega), lc_ex (emb := PyData.int) (f := tN) (P := fun p => IsP p 8) cs (fun a ha q Z hq => ?_) fun gs h1 h2 => ?_⟩
      · walk_at "rd"
        exact ⟨a, 1, rfl, by omega, fun p hp => hq p (by rw [layS_1] at hp; exact hp)⟩
      · refine ⟨gs, rfl, h1, by omega, fun m fs m1 m2 m3 m4 => ?_⟩
        walk_at "rd"
        exact hk _ ⟨m, fs, rfl, m1, m2, m3, by omega⟩
    · subst hU
      refine sq_i fun k2 hk2 => ?_
      walk_at "rd"
      refine ⟨by decide, ?_⟩
      rw [show (6 : Int) = ((6 : Nat) : Int) from rfl, fmodN]
      subst hk2
      refine sj_i 5 (fun d => ∃ n : Nat, d = .int (n : Nat) ∧ 1 ≤ n ∧ n ≤ 64) ?_ fun k2 hk2 => if_n fun T hT => ?_
      · rintro _ ⟨n, rfl, n1, n2⟩
        walk_at "rd"
        refine ⟨fit_len (by simp; omega), lc_ex (emb := PyData.int) (f := tN) (P := fun p => IsP p n) cs (fun a ha q Z hq => ?_) fun gs h1 h2 => done n gs n1 n2 h1 h2⟩
        walk_at "rd"
        exact ⟨a, n, rfl, n1, n2, fun p hp => hq p hp⟩
      · walk_at "rd"
        refine ⟨fun h => ?_, fun h => hk2 _ ⟨3 + c4 % 6, rfl, by omega, by omega⟩⟩
        subst hT
        walk_at "rd"
        exact hk2 _ ⟨3 + c4, rfl, by omega, by omega⟩
  · rintro _ ⟨n, gs, rfl, n1, n2, hgs, lgs⟩
    refine sq_i fun k hk => ?_
    walk_at "rd"
    obtain ⟨n', en', hn', hnn⟩ : ∃ n' : Nat, (if (n : Int) + (c6 : Int) < 64 then (n : Int) + (c6 : Int) else 64) = (n' : Int) ∧ n' ≤ 64 ∧ n ≤ n' := by
      refine ⟨(if (n : Int) + (c6 : Int) < 64 then (n : Int) + (c6 : Int) else 64).toNat, ?_, ?_, ?_⟩ <;> split <;> omega
    rw [en']
    subst hk
    refine sq_i fun k hk => ?_
    walk_at "rd"
    refine ⟨Rng.of (by omega) (by omega), ?_⟩
    rw [Int.toNat_natCast]
    refine ⟨fit_len (by rw [upTo_length]; omega), lc_up (fun i => .int (i : Nat)) n' ?_ fun i hi q Z hq => by walk_at "rd"; exact hq⟩
    rw [inN_range]
    subst hk
    refine sj_i 6 (fun d => ∃ p : Pm, d = tN p ∧ IsP p n') ?_ fun k hk => if_n fun T hT => ?_
    rotate_left
    · walk_at "rd"
      refine ⟨fun h => ?_, fun h => hk _ ⟨List.range n', rfl, isP_range n'⟩⟩
      subst hT
      walk_at "rd"
      refine ⟨ns, 1, rfl, by decide, hb, fun v3 hv3 => ⟨v3, n', rfl, hn', fun p hp => ?_⟩⟩
      walk_at "rd"
      exact hk _ ⟨p, rfl, hp⟩
    rintro _ ⟨nm, rfl, hnm⟩
    walk_at "rd"
    refine ⟨fit_len (by simp; omega), ?_⟩
    refine lc_ex (emb := tN) (f := tN) (P := fun p => IsP p n') gs (fun a ha q Z hq => ?_) fun ps h1 h2 => hq n' ps (by omega) hn' h1 (by omega)
    walk_at "rd"
    exact ⟨a, nm, n, n', rfl, hgs a ha, hnn, hnm, hn', hq⟩

end
end K43

namespace K43
open PySem PySem.Spec PyProof.Rows L2 DL Builtin.Int
local macro_rules | `(tactic| walk_at "rd") => `(tactic| simp -failIfUnchanged only [sSet, sSetL, sRet, sRetL, sRetO, sRetN, sNext, sBreak, sCont, sDrop, sApp, sAug, sAsg, sPar, sSetI, sPop, sSetPop, sAppPop, dTupRg, sRev, sFrz, frz1, iSeq, iRevD, iRange1, iRange2, iRangeD, rName, rTup, rTL_sq, gMulS_s, gStr1_i, rTL_t, rTL_l, rCons, rNil,
  dLst, dView, tView, lView, view, look, dVar, bVar, dC, d2, d1, l2, tBool, dNil, dCons, dTup, gI, gSubI, gMulI, gFdiv, gMod, gPow, gShl, gShr, gAnd, gXor, gLt, gLe, gGt, gGe, gAdd, gEq, gNe, isNone, gIs, gIsNot, gNeg, lCat, gLen_l, gLen_t, gLen_s, gInt, gAbs, gMax2, gMin2, gTuple_l, gTuple_t, lList_l, lList_t, gGcd, gIsqrt, dCall, lCall, dIsi, dIsi2,
  tAndD, tOrD, tNotD, tTru, truD, dAndV, dOrV, dNotV, dIf, dBits, wipeD, twoD, lComp, oNone, oSome, dSl, lSl, gSl_l, gSl_t, gSl_sq, gSq_l, gSq_t, gSq_sq, lRepL, sNever, dKIn, dKGet, gOr, dCount, dIndex, sSetTk, lTk0, lTk1, lTkc, tTkIn, dTkIn, dTkGet, sTkPut, tInD, lSortSc, sIns, lLstRg, sPopI, gIx_sq, gLen_sq, gTuple_sq, lList_sq, iZipD, gZip_sq, gZip_ts, gZip_st, gZip_ls, gZip_sl, gZip_tt, gZip_ll, gZip_lt, gZip_tl, dFn, dFn0, dFnK, lFn, dFnV, valD, tYesD, eqOk_ii, eqOk_bb, eqOk_ss, eqv_int, eqv_str, eqv_bool, noLst, noLstAll, List.map_cons, List.map_nil, Option.map_some, Option.map_none,
  List.getElem?_cons_zero, List.getElem?_cons_succ, List.set_cons_zero, List.set_cons_succ, true_and, and_true, decide_eq_true_eq, decide_eq_false_iff_not, Bool.not_eq_true', Bool.not_eq_false', beq_iff_eq, beq_eq_false_iff_ne, Bool.true_eq_false, Bool.false_eq_true, false_imp_iff, true_imp_iff, forall_const, reduceCtorEq, ne_eq, not_true_eq_false, not_false_eq_true, Bool.not_true, Bool.not_false, Bool.true_and, Bool.and_true, Bool.false_and, Bool.and_false, Int.reduceToNat, Int.cast_ofNat_Int, eq_self, isTy_none_int, isTy_none_bool, isTy_none_str, isTy_none_list, isTy_none_tuple, isTy_bool_int, isTy_bool_bool, isTy_bool_str, isTy_bool_list, isTy_bool_tuple, isTy_int_int, isTy_int_bool, isTy_int_str, isTy_int_list, isTy_int_tuple, isTy_str_int, isTy_str_bool, isTy_str_str, isTy_str_list, isTy_str_tuple, isTy_list_int, isTy_list_bool, isTy_list_str, isTy_list_list, isTy_list_tuple, isTy_tuple_int, isTy_tuple_bool, isTy_tuple_str, isTy_tuple_list, isTy_tuple_tuple, List.length_cons, List.length_nil, Nat.reduceAdd, Nat.zero_add, ix2_0, ix2_1,
  gIx_l0, gIx_t0, gIx_l1, gIx_t1, gIx_l2, gIx_t2, gIx_l3, gIx_t3, gIx_l4, gIx_t4, gIx_l5, gIx_t5, gIx_l6, gIx_t6, gIx_l7, gIx_t7, gIx_l8, gIx_t8, gIx_l9, gIx_t9, gIx_l10, gIx_t10, gIx_l11, gIx_t11, gIx_l12, gIx_t12, gIx_l13, gIx_t13, gIx_l14, gIx_t14, gIx_l15, gIx_t15])
section
variable {P : Program} {w : World} {K : Frag} {mg : Str → Option Value} {base : Heap}
abbrev s__law_same : Stmt := topS 23
theorem sc__law_same : FnScope ["told", "due"] ["told", "due"] (defScope s__law_same) := ⟨rfl, rfl, rfl, by decide +kernel, rfl, by decide +kernel, by decide +kernel⟩
def f__law_same : FD := fun ds q => ∃ d : D, ds = [d, d] ∧ reprOk d = true ∧ rpS d = true ∧ cells d ≤ 300000 ∧ d.depth ≤ 60 ∧ q (.val (.bool true))
theorem ok__law_same {f fd} {k : Nat} (F : Fun K "_law_same" "_law_same" s__law_same f fd) (hdg : base.NoDigits) (m_repr : mg "repr" = none) : FnG P w K mg base (k + 1) f fd ["told", "due"] (SpD K 2 f__law_same) := by
  refine fnD F sc__law_same fun cdv A outer s H E gA hr => ?_
  have hu := hr.units
  have nd := sc__law_same.nd
  refine ⟨_, (ss_one (st_ret (de_cmp (o_eq hu) (DE.toB (de_B (c_repr2 hdg gA hu) m_repr (ab_cons (bv 0) ab_nil))) (DE.toB (de_B (c_repr2 hdg gA hu) m_repr (ab_cons (bv 1) ab_nil)))))), ?_⟩
  clear F nd hu hr gA E H s outer A cdv hdg m_repr
  intro ds q hl hg
  obtain ⟨d, rfl, h1, h2, h3, h4, hq⟩ := hg
  show sRet _ _ [some (.val d), some (.val d)]
  have last : ∀ q : D → Prop, q (.str (PyData.shown d)) → gRepr2 [d] q := fun q hq => ⟨⟨h1, rpS_rpD d h2, Fit.of (by have := rpS_len d h2; omega), h4⟩, hq⟩
  walk_at "rd"
  refine last _ (last _ ?_)
  refine ⟨eqOk_ss _ _, ?_⟩
  rw [show PyData.eqv (.str (PyData.shown d)) (.str (PyData.shown d)) = true by simp [PyData.eqv]]
  exact hq

open TV PM GP
/-- a row is a permutation -/
def PermI (m : Nat) (ks : List Int) : Prop := ∃ p, IsP p m ∧ ks = nk p
theorem sorted_range {m : Nat} {ns : List Int} (h : ns.Pairwise (· ≤ ·)) (p : ns.Perm ((List.range m).map fun i : Nat => (i : Int))) : ns = (List.range m).map fun i : Nat => (i : Int) := by
  refine List.Perm.eq_of_pairwise (le := fun a b : Int => a ≤ b) (fun a b _ _ h1 h2 => by omega) h ?_ p
  rw [List.pairwise_map]
  exact List.pairwise_lt_range.imp fun h => by omega
theorem permI_iff {m : Nat} {ks ns : List Int} (h : ns.Pairwise (· ≤ ·)) (p : ns.Perm ks) : PermI m ks ↔ ns = (List.range m).map fun i : Nat => (i : Int) := by
  constructor
  · rintro ⟨r, hr, rfl⟩
    refine sorted_range h (p.trans ?_)
    have := hr.perm
    rw [map_g hr.len] at this
    exact this.map _
  · intro e
    subst e
    obtain ⟨r, pr, rfl⟩ := DL.perm_of_map p.symm
    exact ⟨r, IsP.of_perm pr, rfl⟩
/-- lists of whole numbers compared -/
theorem eqvAll_I : ∀ a b : List Int, PyData.eqvAll (a.map PyData.int) (b.map PyData.int) = decide (a = b) := eqvAll_ints
theorem eqOk_I (a b : List Int) : eqOk (.list (a.map PyData.int)) (.list (b.map PyData.int)) = true := by
  have h : ∀ a : List Int, SeqAt.shaped (.list (a.map PyData.int)) = true := fun a => by
    have d : (PyData.list (a.map PyData.int)).depth ≤ 64 := by
      have : PyData.depthAll (a.map PyData.int) = 0 := DL.depthAll_ints _
      simp only [PyData.depth]
      omega
    show ((PyData.list (a.map PyData.int)).canLay0 && decide ((PyData.list (a.map PyData.int)).depth ≤ 64)) = true
    rw [decide_eq_true d, Bool.and_true]
    simp only [PyData.canLay0, lay_ints]
  show (SeqAt.shaped _ && SeqAt.shaped _) = true
  rw [h, h]; rfl
theorem rng_I (m : Nat) : ((List.range m).map fun i : Nat => PyData.int (i : Nat)) = ((List.range m).map fun i : Nat => (i : Int)).map PyData.int := by rw [List.map_map]; rfl
abbrev s_is_whole : Stmt := topS 3
theorem sc_is_whole : FnScope ["value"] ["value"] (defScope s_is_whole) := ⟨rfl, rfl, rfl, by decide +kernel, rfl, by decide +kernel, by decide +kernel⟩
def f_is_whole : FD := fun ds q => ∃ i : Int, ds = [.int i] ∧ q (.val (.bool true))
theorem ok_is_whole {f fd} {k : Nat} (F : Fun K "is_whole" "is_whole" s_is_whole f fd) (hdg : base.NoDigits) (m_bool : mg "bool" = none) (m_int : mg "int" = none) (m_isinstance : mg "isinstance" = none) : FnG P w K mg base (k + 1) f fd ["value"] (SpD K 1 f_is_whole) := by
  refine fnD F sc_is_whole fun cdv A outer s H E gA hr => ?_
  have hu := hr.units
  have nd := sc_is_whole.nd
  refine ⟨_, (ss_one (st_ret (de_and (de_isi ty_int m_isinstance m_int (bv 0)) (de_one (de_not (de_isi ty_bool m_isinstance m_bool (bv 0))))))), ?_⟩
  clear F nd hu hr gA E H s outer A cdv hdg m_bool m_int m_isinstance
  intro ds q hl hg
  obtain ⟨i, rfl, hq⟩ := hg
  show sRet _ _ [some (.val (.int i))]
  walk_at "rd"
  exact hq
abbrev s_is_sequence : Stmt := topS 4
theorem sc_is_sequence : FnScope ["value"] ["value"] (defScope s_is_sequence) := ⟨rfl, rfl, rfl, by decide +kernel, rfl, by decide +kernel, by decide +kernel⟩
def f_is_sequence : FD := fun ds q => ∃ (u : Bool) (xs : List D), ds = [sqD u xs] ∧ q (.val (.bool true))
theorem ok_is_sequence {f fd} {k : Nat} (F : Fun K "is_sequence" "is_sequence" s_is_sequence f fd) (hdg : base.NoDigits) (m_isinstance : mg "isinstance" = none) (m_list : mg "list" = none) (m_tuple : mg "tuple" = none) : FnG P w K mg base (k + 1) f fd ["value"] (SpD K 1 f_is_sequence) := by
  refine fnD F sc_is_sequence fun cdv A outer s H E gA hr => ?_
  have hu := hr.units
  have nd := sc_is_sequence.nd
  refine ⟨_, (ss_one (st_ret (de_isi2 ty_list ty_tuple m_isinstance m_list m_tuple (bv 0)))), ?_⟩
  clear F nd hu hr gA E H s outer A cdv hdg m_isinstance m_list m_tuple
  intro ds q hl hg
  obtain ⟨u, xs, rfl, hq⟩ := hg
  show sRet _ _ [some (.val (sqD u xs))]
  cases u <;> (simp only [sqD, if_true, if_false, Bool.false_eq_true]; walk_at "rd"; exact hq)
abbrev s_is_permutation : Stmt := topS 6
theorem sc_is_permutation : FnScope ["value", "size", "item"] ["value", "size"] (defScope s_is_permutation) := ⟨rfl, rfl, rfl, by decide +kernel, rfl, by decide +kernel, by decide +kernel⟩
def f_is_permutation : FD := fun ds q => ∃ (u : Bool) (ks : List Int) (m : Nat), ds = [sqD u (ks.map .int), .int m] ∧ m ≤ 1000 ∧ ks.length ≤ 1000 ∧ ∀ b : Bool, (b = true ↔ PermI m ks) → q (.val (.bool b))
theorem ok_is_permutation {f fd} {k : Nat} (F : Fun K "is_permutation" "is_permutation" s_is_permutation f fd) (hdg : base.NoDigits) (m_all : mg "all" = none) (m_len : mg "len" = none) (m_list : mg "list" = none) (m_range : mg "range" = none) (m_sorted : mg "sorted" = none) (r_is_whole : Ready P w K mg base "is_whole" 1 k f_is_whole) (r_is_sequence : Ready P w K mg base "is_sequence" 1 k f_is_sequence) : FnG P w K mg base (k + 1) f fd ["value", "size"] (SpD K 2 f_is_permutation) := by
  refine fnD F sc_is_permutation fun cdv A outer s H E gA hr => ?_
  have hu := hr.units
  have nd := sc_is_permutation.nd
  refine ⟨_, (ss_cons (st_if (DW.pt (dw_or (dt_not (dt_val (r_is_sequence.toE gA hr (da_cons (dv 0) da_nil)))) (dw_or (dt_cmp (o_ne hu) (DE.toB (de_B c_len m_len (ab_cons (bv 0) ab_nil))) (bv 1)) (dw_or1 (dt_not (dt_val (de_B c_all m_all (ab_cons (DE.toB (DLs.toE (dl_lc (own := [("item", 2)]) nd (i_seqC (bv 0)) (gw_name (i := 2) nd) dts_nil (fun _ _ _ _ _ => (r_is_whole.toE gA hr (da_cons (dv 2) da_nil)))))) ab_nil)))))))) (ss_one (st_ret de_bl)) ss_nil)
    (ss_one (st_ret (de_cmp (o_eq hu) (DE.toB (DLs.toE (dl_B c_sortSq m_sorted (ab_cons (bv 0) ab_nil)))) (DE.toB (DLs.toE (dl_lstRg m_list m_range (dv 1)))))))), ?_⟩
  clear F nd hu hr gA E H s outer A cdv hdg m_all m_len m_list m_range m_sorted r_is_whole r_is_sequence
  intro ds q hl hg
  obtain ⟨u, ks, m, rfl, hm, hl, hq⟩ := hg
  show sSeq _ _ _ [some (.val (sqD u (ks.map .int))), some (.val (.int m)), none]
  refine sq_i fun k hk => if_n fun T hT => ?_
  walk_at "rd"
  refine ⟨u, _, rfl, ?_⟩
  walk_at "rd"
  rw [List.length_map]
  refine ⟨fun h => ?_, fun h => ?_⟩
  · subst hT
    walk_at "rd"
    exact hq false ⟨fun e => (by cases e), fun ⟨p, hp, e⟩ => absurd (by rw [e]; simp [nk, hp.len]) h⟩
  · refine ⟨fit_len (by omega), lc_f (emb := PyData.int) (fun _ => .bool true) ks ?_ fun a ha q Z hq => ?_⟩
    rotate_left
    · walk_at "rd"
      exact ⟨a, rfl, hq⟩
    refine ⟨ks.map fun _ => true, by rw [List.map_map]; rfl, ?_⟩
    rw [show (ks.map fun _ => true).all id = true by simp]
    walk_at "rd"
    subst hk
    walk_at "rd"
    refine ⟨u, ks, rfl, fun ns p hs => ?_⟩
    walk_at "rd"
    refine ⟨⟨by omega, by omega⟩, ?_⟩
    rw [Int.toNat_natCast, rng_I]
    refine ⟨eqOk_I _ _, ?_⟩
    rw [show PyData.eqv (.list (ns.map PyData.int)) (.list (((List.range m).map fun i : Nat => (i : Int)).map PyData.int)) = decide (ns = (List.range m).map fun i : Nat => (i : Int)) from eqvAll_I _ _]
    exact hq _ (by rw [decide_eq_true_iff, permI_iff hs p])
/-- a table: permutations in order, closed under composition -/
def TabI (m : Nat) (L : List (List Int)) : Prop := ∃ T : List Pm, L = T.map nk ∧ AllP m T ∧ T ≠ [] ∧ (∀ (i : Nat) (x y : Pm), T[i]? = some x → T[i + 1]? = some y → ltI (nk x) (nk y) = true) ∧ ∀ x ∈ T, ∀ y ∈ T, cmp x y ∈ T
theorem tab_of {m : Nat} : ∀ {L : List (List Int)}, (∀ k ∈ L, PermI m k) → ∃ T : List Pm, L = T.map nk ∧ AllP m T
  | [], _ => ⟨[], rfl, fun x hx => by simp at hx⟩
  | k :: L, h => by
    obtain ⟨p, hp, rfl⟩ := h k List.mem_cons_self
    obtain ⟨T, rfl, hT⟩ := tab_of (L := L) fun k hk => h k (List.mem_cons_of_mem _ hk)
    exact ⟨p :: T, rfl, fun x hx => by
      rcases List.mem_cons.mp hx with q | q
      · rw [q]; exact hp
      · exact hT x q⟩
theorem nkL_inj : ∀ {S T : List Pm}, S.map nk = T.map nk → S = T
  | [], [], _ => rfl
  | [], _ :: _, h => by simp at h
  | _ :: _, [], h => by simp at h
  | x :: S, y :: T, h => by
    rw [List.map_cons, List.map_cons] at h
    injection h with h1 h2
    rw [nk_inj h1, nkL_inj h2]
theorem not_tab {m : Nat} {T : List Pm} (h : ¬ (T ≠ [] ∧ (∀ (i : Nat) (x y : Pm), T[i]? = some x → T[i + 1]? = some y → ltI (nk x) (nk y) = true) ∧ ∀ x ∈ T, ∀ y ∈ T, cmp x y ∈ T)) : ¬ TabI m (T.map nk) := fun ⟨S, e, _, h1, h2, h3⟩ => by
  rw [← nkL_inj e] at h1 h2 h3
  exact h ⟨h1, h2, h3⟩
theorem rows_nk (u : Bool) (T : List Pm) : (T.map nk).map (fun k => sqD u (k.map PyData.int)) = T.map fun p => sqD u (inN p) := by
  rw [List.map_map]
  exact List.map_congr_left fun p _ => by show sqD u ((nk p).map PyData.int) = _; rw [inN_nk]
theorem tupI {f : Bool → Bool} {x y : Pm} {q : D → Prop} (hl : x.length = y.length) (hq : q (.bool (f (ltI (nk x) (nk y))))) : gTupI f (tN x) (tN y) q := ⟨nk x, nk y, tN_nk x, tN_nk y, by simp [nk, hl], hq⟩
abbrev s_is_table : Stmt := topS 7
theorem sc_is_table : FnScope ["table", "size", "members", "place", "known", "one", "two", "member"] ["table", "size"] (defScope s_is_table) := ⟨rfl, rfl, rfl, by decide +kernel, rfl, by decide +kernel, by decide +kernel⟩
def f_is_table : FD := fun ds q => ∃ (L : List (List Int)) (m : Nat) (t u : Bool), ds = [sqD t (L.map fun k => sqD u (k.map .int)), .int m] ∧ m ≤ 1000 ∧ L.length ≤ 1000 ∧ (∀ k ∈ L, k.length ≤ 1000) ∧ ∀ b : Bool, (b = true ↔ TabI m L) → q (.val (.bool b))
theorem ok_is_table {f fd} {k : Nat} (F : Fun K "is_table" "is_table" s_is_table f fd) (hdg : base.NoDigits) (m_all : mg "all" = none) (m_len : mg "len" = none) (m_range : mg "range" = none) (m_tuple : mg "tuple" = none) (r_is_permutation : Ready P w K mg base "is_permutation" 2 k f_is_permutation) (r_compose : Ready P w K mg base "compose" 2 k f_compose) : FnG P w K mg base (k + 1) f fd ["table", "size"] (SpD K 2 f_is_table) := by
  refine fnD F sc_is_table fun cdv A outer s H E gA hr => ?_
  have hu := hr.units
  have nd := sc_is_table.nd
  refine ⟨_, (ss_cons (st_if (DW.pt (dw_or (dt_cmp (o_eq hu) (DE.toB (de_B c_len m_len (ab_cons (bv 0) ab_nil))) (DE.toB de_int)) (dw_or1 (dt_not (dt_val (de_B c_all m_all (ab_cons (DE.toB (DLs.toE (dl_lc (own := [("member", 7)]) nd (i_seqC (bv 0)) (gw_name (i := 7) nd) dts_nil (fun _ _ _ _ _ => (r_is_permutation.toE gA hr (da_cons (dv 7) (da_cons (dv 1) da_nil))))))) ab_nil))))))) (ss_one (st_ret de_bl)) ss_nil)
    (ss_cons (st_lc (own := [("member", 7)]) (i := 2) nd (i_seqC (bv 0)) (gw_name (i := 7) nd) dts_nil (fun _ _ _ _ _ => (de_T c_tuple m_tuple (ab_cons (bv 7) ab_nil))) (sw_true rfl rfl rfl (by decide +kernel)))
    (ss_cons (st_for (i_range2 de_int (de_B c_len m_len (ab_cons (bv 2) ab_nil)) m_range) (tg_name (i := 3) nd) (ss_one (st_if (dt_cmp (o_geT hr.u0) (DE.toB (de_ix x_ix (bv 2) (DE.toB (de_op o_sub (bv 3) (DE.toB de_int))))) (DE.toB (de_ix x_ix (bv 2) (bv 3)))) (ss_one (st_ret de_bl)) ss_nil)))
    (ss_cons (st_tkc (own := [("member", 7)]) (i := 4) hr.u0 nd (i_seqC (bv 2)) (gw_name (i := 7) nd) dts_nil (fun _ _ _ _ _ => (dv 7)) (fun _ _ _ _ _ => de_bl) (sw_trueD rfl rfl rfl (by decide +kernel)))
    (ss_cons (st_for (i_seq (dv 2)) (tg_name (i := 5) nd) (ss_one (st_for (i_seq (dv 2)) (tg_name (i := 6) nd) (ss_one (st_if (dt_tkNin 4 hr.u1 (r_compose.toE gA hr (da_cons (dv 5) (da_cons (dv 6) da_nil)))) (ss_one (st_ret de_bl)) ss_nil)))))
    (ss_one (st_ret de_bl))))))), ?_⟩
  clear F nd hu hr gA E H s outer A cdv hdg m_all m_len m_range m_tuple r_is_permutation r_compose
  intro ds q hl hg
  obtain ⟨L, m, t, u, rfl, hm, lL, hL, hq⟩ := hg
  classical
  show sSeq _ _ _ [some (.val (sqD t (L.map fun k => sqD u (k.map .int)))), some (.val (.int m)), none, none, none, none, none, none]
  refine sq_i fun k hk => if_n fun T hT => ?_
  walk_at "rd"
  rw [List.length_map]
  refine ⟨fun h => ?_, fun h => ?_⟩
  · subst hT
    walk_at "rd"
    have : L = [] := List.eq_nil_of_length_eq_zero (by omega)
    subst this
    exact hq false ⟨fun e => (by cases e), fun ⟨S, e, _, h1, _⟩ => absurd (List.map_eq_nil_iff.mp e.symm) h1⟩
  refine ⟨fit_len (by first | omega | (simp; omega)), lc_f (emb := fun k => sqD u (k.map PyData.int)) (fun k => .bool (decide (PermI m k))) L ?_ fun a ha q Z hq => ?_⟩
  rotate_left
  · walk_at "rd"
    refine ⟨u, a, m, rfl, hm, hL a ha, fun b hb => ?_⟩
    have : b = decide (PermI m a) := by rw [Bool.eq_iff_iff, hb, decide_eq_true_iff]
    rw [this]
    exact hq
  refine ⟨L.map fun k => decide (PermI m k), by rw [List.map_map]; rfl, ?_⟩
  walk_at "rd"
  refine ⟨fun h => ?_, fun h => ?_⟩
  · subst hT
    walk_at "rd"
    refine hq false ⟨fun e => (by cases e), fun ⟨S, e, h1, _⟩ => ?_⟩
    rw [List.all_map] at h
    have : (L.all (id ∘ fun k => decide (PermI m k))) = true := List.all_eq_true.mpr fun k hk => by
      rw [e] at hk
      obtain ⟨p, hp, rfl⟩ := List.mem_map.mp hk
      exact decide_eq_true ⟨p, h1 p hp, rfl⟩
    rw [this] at h
    cases h
  obtain ⟨M, rfl, hM⟩ := tab_of (m := m) (L := L) fun k hk => by
    rw [List.all_map] at h
    exact of_decide_eq_true (List.all_eq_true.mp h k hk)
  clear h hT T
  rw [List.length_map] at lL
  rw [rows_nk]
  subst hk
  refine sq_i fun k hk => ?_
  walk_at "rd"
  refine ⟨fit_len (by first | omega | (simp; omega)), lc_f (emb := fun p => sqD u (inN p)) tN M ?_ fun a ha q Z hq => by walk_at "rd"; exact hq⟩
  subst hk
  refine sq_i fun k hk => for_in fun W hW => ?_
  walk_at "rd"
  rw [List.length_map]
  have hne : M ≠ [] := fun e => h (by rw [e]; rfl)
  have lpos : 1 ≤ M.length := List.length_pos_iff.mpr hne
  refine ⟨⟨Rng.of (by omega) (by omega), Rng.of (by omega) (by omega)⟩, ?_⟩
  rw [show ((M.length : Int) - 1).toNat = M.length - 1 by omega]
  subst hW
  refine for_up (fun i σ => ∃ y3 : Option DV, σ = [some (.val (sqD t (M.map fun p => sqD u (inN p)))), some (.val (.int m)), some (.val (.list (M.map tN))), y3, none, none, none, none] ∧ ∀ j, j < i → ∀ x y, M[j]? = some x → M[j + 1]? = some y → ltI (nk x) (nk y) = true) 1 (M.length - 1) ⟨none, rfl, fun j hj => by omega⟩ ?_ ?_
  rotate_left
  · rintro i _ hi ⟨y3, rfl, hA⟩ k1 hk1
    obtain ⟨x, hx⟩ : ∃ x, M[i]? = some x := ⟨_, List.getElem?_eq_getElem (by omega)⟩
    obtain ⟨y, hy⟩ : ∃ y, M[i + 1]? = some y := ⟨_, List.getElem?_eq_getElem (by omega)⟩
    have px := hM x (List.mem_of_getElem? hx)
    have py := hM y (List.mem_of_getElem? hy)
    refine if_n fun T hT => ?_
    walk_at "rd"
    rw [show (1 + (i : Int) - 1) = (i : Int) by omega, show (1 + (i : Int)) = ((i + 1 : Nat) : Int) by omega]
    refine gIx_N (by rw [List.getElem?_map, hx]; rfl) ?_
    refine gIx_N (by rw [List.getElem?_map, hy]; rfl) ?_
    refine tupI (by rw [px.len, py.len]) ?_
    walk_at "rd"
    refine ⟨fun h => ?_, fun h => ?_⟩
    · subst hT
      walk_at "rd"
      refine hq false ⟨fun e => (by cases e), fun z => absurd z (not_tab fun z => ?_)⟩
      rw [z.2.1 i x y hx hy] at h
      cases h
    · refine hk1 _ ⟨_, rfl, fun j hj x' y' hx' hy' => ?_⟩
      by_cases c : j = i
      · subst c
        rw [hx] at hx'
        rw [hy] at hy'
        injection hx' with hx'
        injection hy' with hy'
        subst hx' hy'
        exact h
      · exact hA j (by omega) x' y' hx' hy'
  · rintro _ ⟨y3, rfl, hA⟩
    have hA : ∀ (i : Nat) (x y : Pm), M[i]? = some x → M[i + 1]? = some y → ltI (nk x) (nk y) = true := fun i x y hx hy => hA i (by
      have := (List.getElem?_eq_some_iff.mp hy).1
      omega) x y hx hy
    subst hk
    refine sq_i fun k hk => ?_
    walk_at "rd"
    refine ⟨fit_len (by first | omega | (simp; omega)), tkc_N (v := .bool true) (emb := tN) M [] [] Kn.nil (fun ks hk' => ?_) fun a ha R Z hR => by walk_at "rd"; exact hR⟩
    rw [List.nil_append] at hk'
    subst hk
    refine sq_i fun k hk => for_in fun W hW => ?_
    walk_at "rd"
    subst hW
    refine for_map (fun r σ => ∃ (js : List Pm) (y5 y6 : Option DV), σ = [some (.val (sqD t (M.map fun p => sqD u (inN p)))), some (.val (.int m)), some (.val (.list (M.map tN))), y3, some (.tks ks), y5, y6, none] ∧ M = js ++ r ∧ ∀ x ∈ js, ∀ y ∈ M, cmp x y ∈ M) M ⟨[], none, none, rfl, rfl, fun x hx => by simp at hx⟩ ?_ ?_
    · rintro _ ⟨js, y5, y6, rfl, e, hC⟩
      rw [List.append_nil] at e
      subst e
      subst hk
      walk_at "rd"
      exact hq true ⟨fun _ => ⟨M, rfl, hM, hne, hA, hC⟩, fun _ => rfl⟩
    · rintro a r _ ⟨js, y5, y6, rfl, e, hC⟩ k1 hk1
      have ha : a ∈ M := by rw [e]; simp
      have pa := hM a ha
      refine for_in fun W hW => ?_
      walk_at "rd"
      subst hW
      refine for_map (fun r2 σ => ∃ (js2 : List Pm) (y6 : Option DV), σ = [some (.val (sqD t (M.map fun p => sqD u (inN p)))), some (.val (.int m)), some (.val (.list (M.map tN))), y3, some (.tks ks), some (.val (tN a)), y6, none] ∧ M = js2 ++ r2 ∧ ∀ y ∈ js2, cmp a y ∈ M) M ⟨[], _, rfl, rfl, fun x hx => by simp at hx⟩ ?_ ?_
      · rintro _ ⟨js2, y6, rfl, e2, hD⟩
        rw [List.append_nil] at e2
        subst e2
        exact hk1 _ ⟨js ++ [a], _, _, rfl, by rw [e]; simp, fun x hx => by
          rcases List.mem_append.mp hx with q | q
          · exact hC x q
          · rw [List.mem_singleton.mp q]; exact hD⟩
      · rintro b r2 _ ⟨js2, y6, rfl, e2, hD⟩ k2 hk2
        have hb : b ∈ M := by rw [e2]; simp
        have pb := hM b hb
        refine if_n fun T hT => ?_
        walk_at "rd"
        refine ⟨true, true, a, b, rfl, fun y hy => by rw [pa.len]; exact isP_mem' pb y hy, by rw [pb.len]; omega, ?_⟩
        walk_at "rd"
        refine ⟨nk (cmp a b), tN_nk _, ?_⟩
        rw [hk'.has]
        walk_at "rd"
        refine ⟨fun c => ?_, fun c => ?_⟩
        · subst hT
          walk_at "rd"
          exact hq false ⟨fun e => (by cases e), fun z => absurd z (not_tab fun z => (by simpa using c : cmp a b ∉ M) (z.2.2 a ha b hb))⟩
        · exact hk2 _ ⟨js2 ++ [b], _, rfl, by rw [e2]; simp, fun y hy => by
            rcases List.mem_append.mp hy with q | q
            · exact hD y q
            · rw [List.mem_singleton.mp q]; simpa using c⟩
theorem ltI_code {B : Int} : ∀ {a b : List Int}, a.length = b.length → TS.Bd B a → TS.Bd B b → (ltI a b = true ↔ TS.code B a < TS.code B b)
  | [], [], _, _, _ => by simp [ltI]
  | [], _ :: _, h, _, _ => by simp at h
  | _ :: _, [], h, _, _ => by simp at h
  | x :: a, y :: b, h, ha, hb => by
    have hl : a.length = b.length := by simpa using h
    have ih := ltI_code hl ha.tail hb.tail
    rcases Int.lt_trichotomy x y with c | c | c
    · have := TS.code_lt hl ha.tail hb.tail c
      simp only [ltI, if_neg (show ¬ x = y by omega), decide_eq_true_eq]
      exact ⟨fun _ => this, fun _ => c⟩
    · subst c
      have e1 : TS.code B (x :: a) = x * B ^ a.length + TS.code B a := rfl
      have e2 : TS.code B (x :: b) = x * B ^ b.length + TS.code B b := rfl
      simp only [ltI, if_true]
      rw [ih, e1, e2, hl]
      omega
    · have := TS.code_lt hl.symm hb.tail ha.tail c
      simp only [ltI, if_neg (show ¬ x = y by omega), decide_eq_true_eq]
      exact ⟨fun z => by omega, fun z => by omega⟩
theorem ltI_cd {m : Nat} {x y : Pm} (hx : IsP x m) (hy : IsP y m) (hm : m ≤ 1000) : ltI (nk x) (nk y) = true ↔ cd x < cd y := ltI_code (by simp [nk, hx.len, hy.len]) (nk_bd hx hm) (nk_bd hy hm)
theorem asc_adj {M : List Pm} (h : ∀ (i : Nat) (x y : Pm), M[i]? = some x → M[i + 1]? = some y → cd x < cd y) : Asc M := by
  have up : ∀ (d i : Nat) (x y : Pm), M[i]? = some x → M[i + d + 1]? = some y → cd x < cd y := by
    intro d
    induction d with
    | zero => exact fun i x y hx hy => h i x y hx hy
    | succ d ih =>
      intro i x y hx hy
      have hlt : i + (d + 1) + 1 < M.length := (List.getElem?_eq_some_iff.mp hy).1
      obtain ⟨z, hz⟩ : ∃ z, M[i + d + 1]? = some z := ⟨_, List.getElem?_eq_getElem (by omega)⟩
      have h1 := ih i x z hx hz
      have h2 := h (i + d + 1) z y hz hy
      omega
  refine List.pairwise_iff_getElem.mpr fun i j hi hj hij => ?_
  refine up (j - i - 1) i _ _ (List.getElem?_eq_getElem hi) ?_
  rw [show i + (j - i - 1) + 1 = j by omega]
  exact List.getElem?_eq_getElem hj
theorem closed_grp {m : Nat} {M : List Pm} (hM : AllP m M) (hne : M ≠ []) (hC : ∀ x ∈ M, ∀ y ∈ M, cmp x y ∈ M) : Grp m M := by
  obtain ⟨x, hx⟩ := List.exists_mem_of_ne_nil M hne
  have px := hM x hx
  obtain ⟨e, he, ee⟩ := surj_of (f := cmp x) (fun a ha => hC x hx a ha) (fun a ha b hb z => cmp_canc px (hM a ha) (hM b hb) z) hx
  have : e = List.range m := cmp_canc px (hM e he) (isP_range m) (by rw [ee, cmp_id px])
  exact ⟨this ▸ he, hM, hC⟩
theorem tab_grp {m : Nat} {M : List Pm} (hm : m ≤ 1000) (hG : Grp m M) (hA : Asc M) : TabI m (M.map nk) := by
  refine ⟨M, rfl, hG.isP, fun e => ?_, fun i x y hx hy => ?_, hG.mul⟩
  · have := hG.one
    rw [e] at this
    simp at this
  · have hx' := hG.isP x (List.mem_of_getElem? hx)
    have hy' := hG.isP y (List.mem_of_getElem? hy)
    rw [ltI_cd hx' hy' hm]
    obtain ⟨h1, rfl⟩ := List.getElem?_eq_some_iff.mp hx
    obtain ⟨h2, rfl⟩ := List.getElem?_eq_some_iff.mp hy
    exact List.pairwise_iff_getElem.mp hA i (i + 1) h1 h2 (by omega)
abbrev s__law_judged : Stmt := topS 25
theorem sc__law_judged : FnScope ["rows", "size", "member", "k", "kept", "members"] ["rows", "size"] (defScope s__law_judged) := ⟨rfl, rfl, rfl, by decide +kernel, rfl, by decide +kernel, by decide +kernel⟩
def f__law_judged : FD := fun ds q => ∃ (L : List (List Int)) (m : Nat), ds = [.list (L.map tI), .int m] ∧ 1 ≤ m ∧ m ≤ 64 ∧ L.length ≤ 1000 ∧ (∀ k ∈ L, k.length ≤ 1000) ∧ ∀ b : Bool, (b = true ↔ TabI m L) → q (.val (.bool b))
theorem ok__law_judged {f fd} {k : Nat} (F : Fun K "_law_judged" "_law_judged" s__law_judged f fd) (hdg : base.NoDigits) (m_len : mg "len" = none) (m_range : mg "range" = none) (m_sorted : mg "sorted" = none) (r__law_closed : Ready P w K mg base "_law_closed" 3 k f__law_closed) : FnG P w K mg base (k + 1) f fd ["rows", "size"] (SpD K 2 f__law_judged) := by
  refine fnD F sc__law_judged fun cdv A outer s H E gA hr => ?_
  have hu := hr.units
  have nd := sc__law_judged.nd
  refine ⟨_, (ss_cons (st_if (dt_cmp (o_eq hu) (DE.toB (de_B c_len m_len (ab_cons (bv 0) ab_nil))) (DE.toB de_int)) (ss_one (st_ret de_bl)) ss_nil)
    (ss_cons (st_for (i_seq (dv 0)) (tg_name (i := 2) nd) (ss_one (st_if (DW.pt (dw_or (dt_cmp (o_ne hu) (DE.toB (de_B c_len m_len (ab_cons (bv 2) ab_nil))) (bv 1)) (dw_or1 (dt_cmp (o_ne hu) (DE.toB (DLs.toE (dl_B c_sortSq m_sorted (ab_cons (bv 2) ab_nil)))) (DE.toB (DLs.toE (dl_lc (own := [("k", 3)]) nd (DI.c (i_range1 (dv 1) m_range)) (gw_name (i := 3) nd) dts_nil (fun _ _ _ _ _ => (dv 3))))))))) (ss_one (st_ret de_bl)) ss_nil)))
    (ss_cons (st_for (i_range2 de_int (de_B c_len m_len (ab_cons (bv 0) ab_nil)) m_range) (tg_name (i := 3) nd) (ss_one (st_if (dt_not (dt_cmp (o_ltT hr.u0) (DE.toB (de_ix x_ix (bv 0) (DE.toB (de_op o_sub (bv 3) (DE.toB de_int))))) (DE.toB (de_ix x_ix (bv 0) (bv 3))))) (ss_one (st_ret de_bl)) ss_nil)))
    (ss_cons (st_setL (i := 4) nd (dl_lst da_nil))
    (ss_cons (st_set (i := 5) nd (Ready.toV r__law_closed gA hr (da_cons (dv 1) (da_cons (dv 4) (da_cons (de_B c_len m_len (ab_cons (bv 0) ab_nil)) da_nil)))))
    (ss_cons (st_for (i_seq (dv 0)) (tg_name (i := 2) nd) (ss_one (st_if (dt_cmp (o_notInD hr.u65) (bv 2) (bv 5)) (ss_cons (st_app (i := 4) (dv 2))
    (ss_cons (st_set (i := 5) nd (Ready.toV r__law_closed gA hr (da_cons (dv 1) (da_cons (dv 4) (da_cons (de_B c_len m_len (ab_cons (bv 0) ab_nil)) da_nil)))))
    (ss_one (st_if (dt_cmp o_is (bv 5) (DE.toB de_non)) (ss_one (st_ret de_bl)) ss_nil)))) ss_nil)))
    (ss_one (st_ret (de_cmp (o_eq hu) (DE.toB (de_B c_len m_len (ab_cons (bv 5) ab_nil))) (DE.toB (de_B c_len m_len (ab_cons (bv 0) ab_nil)))))))))))), ?_⟩
  clear F nd hu hr gA E H s outer A cdv hdg m_len m_range m_sorted r__law_closed
  intro ds q hl hg
  obtain ⟨L, m, rfl, m1, hm, lL, hL, hq⟩ := hg
  show sSeq _ _ _ [some (.val (.list (L.map tI))), some (.val (.int m)), none, none, none, none]
  refine sq_i fun k hk => if_n fun T hT => ?_
  walk_at "rd"
  rw [List.length_map]
  refine ⟨fun h => ?_, fun h => ?_⟩
  · subst hT
    walk_at "rd"
    have : L = [] := List.eq_nil_of_length_eq_zero (by omega)
    subst this
    exact hq false ⟨fun e => (by cases e), fun ⟨S, e, _, h1, _⟩ => absurd (List.map_eq_nil_iff.mp e.symm) h1⟩
  clear hT T
  subst hk
  refine sq_i fun k hk => for_in fun W hW => ?_
  walk_at "rd"
  subst hW
  refine for_map (emb := tI) (fun r σ => ∃ (js : List (List Int)) (y2 : Option DV), σ = [some (.val (.list (L.map tI))), some (.val (.int m)), y2, none, none, none] ∧ L = js ++ r ∧ ∀ k ∈ js, PermI m k) L ⟨[], none, rfl, rfl, fun x hx => by simp at hx⟩ ?_ ?_
  rotate_left
  · rintro a r _ ⟨js, y2, rfl, e, hJ⟩ k1 hk1
    have ha : a ∈ L := by rw [e]; simp
    refine if_n fun T hT => ?_
    walk_at "rd"
    rw [List.length_map]
    have no : ¬ PermI m a → T := fun z => by
      subst hT
      walk_at "rd"
      exact hq false ⟨fun e => (by cases e), fun ⟨S, e, h1, _⟩ => absurd (by
        rw [e] at ha
        obtain ⟨p, hp, rfl⟩ := List.mem_map.mp ha
        exact ⟨p, h1 p hp, rfl⟩) z⟩
    refine ⟨fun h => no fun ⟨p, hp, e⟩ => absurd (by rw [e]; simp [nk, hp.len]) h, fun h => ?_⟩
    refine ⟨true, a, rfl, fun ns p hs => ?_⟩
    walk_at "rd"
    refine ⟨Rng.of (by omega) (by omega), ?_⟩
    rw [Int.toNat_natCast]
    refine ⟨fit_len (by rw [upTo_length]; omega), lc_up (fun i => .int (i : Nat)) m ?_ fun i hi q Z hq => by walk_at "rd"; exact hq⟩
    rw [rng_I]
    refine ⟨eqOk_I _ _, ?_⟩
    rw [show PyData.eqv (.list (ns.map PyData.int)) (.list (((List.range m).map fun i : Nat => (i : Int)).map PyData.int)) = decide (ns = (List.range m).map fun i : Nat => (i : Int)) from eqvAll_I _ _]
    refine ⟨fun h => no fun z => ?_, fun h => hk1 _ ⟨js ++ [a], _, rfl, by rw [e]; simp, fun k hk => ?_⟩⟩
    · rw [decide_eq_true ((permI_iff hs p).mp z)] at h
      cases h
    · rcases List.mem_append.mp hk with q | q
      · exact hJ k q
      · rw [List.mem_singleton.mp q]
        exact (permI_iff hs p).mpr (of_decide_eq_true h)
  rintro _ ⟨js, y2, rfl, e, hJ⟩
  rw [List.append_nil] at e
  subst e
  obtain ⟨M, rfl, hM⟩ := tab_of hJ
  have eT : (M.map nk).map tI = M.map tN := by
    rw [List.map_map]
    exact List.map_congr_left fun p _ => (tN_nk p).symm
  rw [eT]
  rw [List.length_map] at lL h
  have hne : M ≠ [] := fun e => h (by rw [e]; rfl)
  have lpos : 1 ≤ M.length := List.length_pos_iff.mpr hne
  subst hk
  refine sq_i fun k hk => for_in fun W hW => ?_
  walk_at "rd"
  rw [List.length_map]
  refine ⟨⟨Rng.of (by omega) (by omega), Rng.of (by omega) (by omega)⟩, ?_⟩
  rw [show ((M.length : Int) - 1).toNat = M.length - 1 by omega]
  subst hW
  refine for_up (fun i σ => ∃ y3 : Option DV, σ = [some (.val (.list (M.map tN))), some (.val (.int m)), y2, y3, none, none] ∧ ∀ j, j < i → ∀ x y, M[j]? = some x → M[j + 1]? = some y → ltI (nk x) (nk y) = true) 1 (M.length - 1) ⟨none, rfl, fun j hj => by omega⟩ ?_ ?_
  rotate_left
  · rintro i _ hi ⟨y3, rfl, hA⟩ k1 hk1
    obtain ⟨x, hx⟩ : ∃ x, M[i]? = some x := ⟨_, List.getElem?_eq_getElem (by omega)⟩
    obtain ⟨y, hy⟩ : ∃ y, M[i + 1]? = some y := ⟨_, List.getElem?_eq_getElem (by omega)⟩
    have px := hM x (List.mem_of_getElem? hx)
    have py := hM y (List.mem_of_getElem? hy)
    refine if_n fun T hT => ?_
    walk_at "rd"
    rw [show (1 + (i : Int) - 1) = (i : Int) by omega, show (1 + (i : Int)) = ((i + 1 : Nat) : Int) by omega]
    refine gIx_N (by rw [List.getElem?_map, hx]; rfl) ?_
    refine gIx_N (by rw [List.getElem?_map, hy]; rfl) ?_
    refine tupI (by rw [px.len, py.len]) ?_
    walk_at "rd"
    refine ⟨fun h => ?_, fun h => ?_⟩
    · subst hT
      walk_at "rd"
      refine hq false ⟨fun e => (by cases e), fun z => absurd z (not_tab fun z => ?_)⟩
      have h2 := z.2.1 i x y hx hy
      rw [show ltI (nk x) (nk y) = id (ltI (nk x) (nk y)) from rfl, h] at h2
      cases h2
    · refine hk1 _ ⟨_, rfl, fun j hj x' y' hx' hy' => ?_⟩
      by_cases c : j = i
      · subst c
        rw [hx] at hx'
        rw [hy] at hy'
        injection hx' with hx'
        injection hy' with hy'
        subst hx' hy'
        exact h
      · exact hA j (by omega) x' y' hx' hy'
  rintro _ ⟨y3, rfl, hA⟩
  have hA : ∀ (i : Nat) (x y : Pm), M[i]? = some x → M[i + 1]? = some y → ltI (nk x) (nk y) = true := fun i x y hx hy => hA i (by
    have := (List.getElem?_eq_some_iff.mp hy).1
    omega) x y hx hy
  have aM : Asc M := asc_adj fun i x y hx hy => (ltI_cd (hM x (List.mem_of_getElem? hx)) (hM y (List.mem_of_getElem? hy)) (by omega)).mp (hA i x y hx hy)
  have grp : TabI m (M.map nk) → Grp m M := fun ⟨S, e, _, h1, _, h3⟩ => by
    rw [← nkL_inj e] at h1 h3
    exact closed_grp hM h1 h3
  subst hk
  refine sq_i fun k hk => ?_
  walk_at "rd"
  subst hk
  refine sq_i fun k hk => ?_
  walk_at "rd"
  rw [List.length_map]
  refine ⟨m, M.length, [], rfl, hm, lpos, lL, fun g hg => by simp at hg, fun M0 hM0 hl0 => ?_, fun h => (nil_none lpos h).elim⟩
  walk_at "rd"
  refine ⟨noLst_tN M0, ?_⟩
  subst hk
  refine sq_i fun k hk => for_in fun W hW => ?_
  walk_at "rd"
  subst hW
  refine for_map (fun r σ => ∃ (js kp Mem : List Pm) (y2 : Option DV), σ = [some (.val (.list (M.map tN))), some (.val (.int m)), y2, y3, some (.own (kp.map tN)), some (.val (.list (Mem.map tN)))] ∧ M = js ++ r ∧ IsClo m kp Mem ∧ (∀ x ∈ kp, x ∈ M) ∧ (∀ x ∈ js, x ∈ Mem) ∧ kp.length ≤ js.length) M ⟨[], [], M0, y2, rfl, rfl, hM0, fun x hx => by simp at hx, fun x hx => by simp at hx, Nat.le_refl _⟩ ?_ ?_
  · rintro _ ⟨js, kp, Mem, y2, rfl, e, hc, hkp, hjs, hl⟩
    rw [List.append_nil] at e
    subst e
    subst hk
    walk_at "rd"
    rw [List.length_map, List.length_map]
    refine hq _ ?_
    have kP : AllP m kp := fun x hx => hM x (hkp x hx)
    rw [beq_iff_eq]
    constructor
    · intro h0
      have sub := same_len aM.nd hjs (by omega)
      exact ⟨M, rfl, hM, hne, hA, fun x hx y hy => sub _ ((hc.grp kP).mul x (hjs x hx) y (hjs y hy))⟩
    · intro z
      have l1 := nodup_sub hc.nd fun x hx => (grp z).gen hkp ((hc.iff x).mp hx)
      have l2 := nodup_sub aM.nd hjs
      omega
  · rintro g r _ ⟨js, kp, Mem, y2, rfl, e, hc, hkp, hjs, hl⟩ k1 hk1
    have hg : g ∈ M := by rw [e]; simp
    have lM : js.length + r.length + 1 = M.length := by rw [e]; simp; omega
    have kP : AllP m kp := fun x hx => hM x (hkp x hx)
    refine if_n fun T hT => ?_
    walk_at "rd"
    refine ⟨shaped_tN g, shaped_tNs Mem, ?_⟩
    rw [any_tN]
    walk_at "rd"
    refine ⟨fun c => ?_, fun c => ?_⟩
    · have c : g ∉ Mem := by simpa using c
      have kp2 : ∀ x ∈ kp ++ [g], x ∈ M := fun x hx => by
        rcases List.mem_append.mp hx with q | q
        · exact hkp x q
        · rw [List.mem_singleton.mp q]; exact hg
      have P2 : AllP m (kp ++ [g]) := fun x hx => hM x (kp2 x hx)
      subst hT
      refine sq_i fun k2 hk2 => ?_
      walk_at "rd"
      rw [tN_snoc]
      refine ⟨fit_len (by simp; omega), ?_⟩
      subst hk2
      refine sq_i fun k2 hk2 => ?_
      walk_at "rd"
      rw [List.length_map]
      refine ⟨m, M.length, kp ++ [g], rfl, hm, lpos, lL, P2, fun M' hc' _ => ?_, fun h => ?_⟩
      · walk_at "rd"
        refine ⟨noLst_tN M', ?_⟩
        subst hk2
        refine if_n fun T hT => ?_
        walk_at "rd"
        refine hk1 _ ⟨js ++ [g], kp ++ [g], M', _, rfl, by rw [e]; simp, hc', kp2, fun x hx => ?_, by simp; omega⟩
        rcases List.mem_append.mp hx with q | q
        · exact (hc'.iff x).mpr (((hc.iff x).mp (hjs x q)).mono P2 fun y hy => Gen.of P2 (List.mem_append_left _ hy))
        · exact (hc'.iff x).mpr (Gen.of P2 (List.mem_append_right _ q))
      · walk_at "rd"
        subst hk2
        refine if_n fun T hT => ?_
        walk_at "rd"
        subst hT
        walk_at "rd"
        exact hq false ⟨fun e => (by cases e), fun z => absurd (h M fun x hx => (grp z).gen kp2 hx) (Nat.lt_irrefl _)⟩
    · have c : g ∈ Mem := by simpa using c
      refine hk1 _ ⟨js ++ [g], kp, Mem, _, rfl, by rw [e]; simp, hc, hkp, fun x hx => ?_, by simp; omega⟩
      rcases List.mem_append.mp hx with q | q
      · exact hjs x q
      · rw [List.mem_singleton.mp q]; exact c

end
end K43

namespace K43
open PySem PySem.Spec PyProof.Rows L2 DL Builtin.Int
local macro_rules | `(tactic| walk_at "rd") => `(tactic| simp -failIfUnchanged only [sSet, sSetL, sRet, sRetL, sRetO, sRetN, sNext, sBreak, sCont, sDrop, sApp, sAug, sAsg, sPar, sSetI, sPop, sSetPop, sAppPop, dTupRg, sRev, sFrz, frz1, iSeq, iRevD, iRange1, iRange2, iRangeD, rName, rTup, rTL_sq, gMulS_s, gStr1_i, rTL_t, rTL_l, rCons, rNil,
  dLst, dView, tView, lView, view, look, dVar, bVar, dC, d2, d1, l2, tBool, dNil, dCons, dTup, gI, gSubI, gMulI, gFdiv, gMod, gPow, gShl, gShr, gAnd, gXor, gLt, gLe, gGt, gGe, gAdd, gEq, gNe, isNone, gIs, gIsNot, gNeg, lCat, gLen_l, gLen_t, gLen_s, gInt, gAbs, gMax2, gMin2, gTuple_l, gTuple_t, lList_l, lList_t, gGcd, gIsqrt, dCall, lCall, dIsi, dIsi2,
  tAndD, tOrD, tNotD, tTru, truD, dAndV, dOrV, dNotV, dIf, dBits, wipeD, twoD, lComp, oNone, oSome, dSl, lSl, gSl_l, gSl_t, gSl_sq, gSq_l, gSq_t, gSq_sq, lRepL, sNever, dKIn, dKGet, gOr, dCount, dIndex, sSetTk, lTk0, lTk1, lTkc, tTkIn, dTkIn, dTkGet, sTkPut, tInD, lSortSc, sIns, lLstRg, sPopI, gIx_sq, gLen_sq, gTuple_sq, lList_sq, iZipD, gZip_sq, gZip_ts, gZip_st, gZip_ls, gZip_sl, gZip_tt, gZip_ll, gZip_lt, gZip_tl, dFn, dFn0, dFnK, lFn, dFnV, valD, tYesD, eqOk_ii, eqOk_bb, eqOk_ss, eqv_int, eqv_str, eqv_bool, noLst, noLstAll, List.map_cons, List.map_nil, Option.map_some, Option.map_none,
  List.getElem?_cons_zero, List.getElem?_cons_succ, List.set_cons_zero, List.set_cons_succ, true_and, and_true, decide_eq_true_eq, decide_eq_false_iff_not, Bool.not_eq_true', Bool.not_eq_false', beq_iff_eq, beq_eq_false_iff_ne, Bool.true_eq_false, Bool.false_eq_true, false_imp_iff, true_imp_iff, forall_const, reduceCtorEq, ne_eq, not_true_eq_false, not_false_eq_true, Bool.not_true, Bool.not_false, Bool.true_and, Bool.and_true, Bool.false_and, Bool.and_false, Int.reduceToNat, Int.cast_ofNat_Int, eq_self, isTy_none_int, isTy_none_bool, isTy_none_str, isTy_none_list, isTy_none_tuple, isTy_bool_int, isTy_bool_bool, isTy_bool_str, isTy_bool_list, isTy_bool_tuple, isTy_int_int, isTy_int_bool, isTy_int_str, isTy_int_list, isTy_int_tuple, isTy_str_int, isTy_str_bool, isTy_str_str, isTy_str_list, isTy_str_tuple, isTy_list_int, isTy_list_bool, isTy_list_str, isTy_list_list, isTy_list_tuple, isTy_tuple_int, isTy_tuple_bool, isTy_tuple_str, isTy_tuple_list, isTy_tuple_tuple, List.length_cons, List.length_nil, Nat.reduceAdd, Nat.zero_add, ix2_0, ix2_1,
  gIx_l0, gIx_t0, gIx_l1, gIx_t1, gIx_l2, gIx_t2, gIx_l3, gIx_t3, gIx_l4, gIx_t4, gIx_l5, gIx_t5, gIx_l6, gIx_t6, gIx_l7, gIx_t7, gIx_l8, gIx_t8, gIx_l9, gIx_t9, gIx_l10, gIx_t10, gIx_l11, gIx_t11, gIx_l12, gIx_t12, gIx_l13, gIx_t13, gIx_l14, gIx_t14, gIx_l15, gIx_t15])
section
variable {P : Program} {w : World} {K : Frag} {mg : Str → Option Value} {base : Heap}
open TV PM GP
theorem sortA_ok {M : List Pm} {n : Nat} {q : List D → Prop} (hP : AllP n M) (hn1 : 1 ≤ n) (hn : n ≤ 1000) (hq : ∀ T : List Pm, T.Perm M → q (T.map tN)) : lSortT [.list (M.map tN)] q := by
  refine ⟨M.map nk, n, ?_, ⟨hn1, fun k hk => ?_⟩, fun ks p hs => ?_⟩
  · rw [List.map_map]
    exact List.map_congr_left fun x _ => tN_nk x
  · obtain ⟨x, hx, rfl⟩ := List.mem_map.mp hk
    exact ⟨by simp [nk, (hP x hx).len], fun i hi => nk_bd (hP x hx) hn i hi⟩
  · obtain ⟨T, p2, rfl⟩ := DL.perm_of_map p
    have := hq T p2
    rw [List.map_map]
    rwa [show T.map (tI ∘ nk) = T.map tN from List.map_congr_left fun x _ => (tN_nk x).symm]
def hdD (w : Nat) (L : List (List Int)) : D := sqD (!(w == 1)) (L.map fun k => sqD (w == 0) (k.map PyData.int))
def swp (p : Pm) (a b : Nat) : Pm := (p.set a (PM.g p b)).set b (PM.g p a)
theorem swp_isP {p : Pm} {n a b : Nat} (h : IsP p n) (ha : a < n) (hb : b < n) : IsP (swp p a b) n := by
  have hg : ∀ i, PM.g (swp p a b) i = if i = b then PM.g p a else if i = a then PM.g p b else PM.g p i := fun i => by
    unfold swp
    rw [g_set (by rw [List.length_set, h.len]; exact hb), g_set (by rw [h.len]; exact ha)]
  have hg' : ∀ i, PM.g (swp p a b) i = PM.g p (if i = b then a else if i = a then b else i) := fun i => by
    rw [hg]
    split
    · rfl
    · split <;> rfl
  have hl : ∀ i, i < n → (if i = b then a else if i = a then b else i) < n := fun i hi => by
    split
    · exact ha
    · split
      · exact hb
      · exact hi
  refine ⟨by unfold swp; rw [List.length_set, List.length_set, h.len], fun i hi => ?_, fun i j hi hj e => ?_⟩
  · rw [hg']
    exact h.lt _ (hl i hi)
  · rw [hg', hg'] at e
    have e := h.inj _ _ (hl i hi) (hl j hj) e
    split at e <;> split at e <;> (try split at e) <;> (try split at e) <;> omega
theorem eqOk_tN2 (p q : Pm) : eqOk (tN p) (tN q) = true := by
  show (SeqAt.shaped _ && SeqAt.shaped _) = true
  rw [shaped_tN, shaped_tN]; rfl
theorem ixEnd {pre : List Pm} {x : Pm} {q : D → Prop} (hq : q (tN x)) : gIx (.list ((pre ++ [x]).map tN)) (.int (-1)) q := by
  have e : atI ((pre ++ [x]).map tN) (-1) = some (tN x) := by
    unfold atI
    have : ixN ((pre ++ [x]).map tN).length (-1) = some pre.length := by
      unfold ixN
      rw [List.length_map, List.length_append, List.length_singleton]
      rw [if_neg (by decide), if_pos (by omega)]
      congr 1
      omega
    rw [this]
    show ((pre ++ [x]).map tN)[pre.length]? = _
    rw [List.getElem?_map, List.getElem?_append_right (Nat.le_refl _)]
    simp
  show (match atI ((pre ++ [x]).map tN) (-1) with | some d => q d | none => False)
  rw [e]
  exact hq
abbrev s__law_handed : Stmt := topS 24
theorem sc__law_handed : FnScope ["table", "way", "member"] ["table", "way"] (defScope s__law_handed) := ⟨rfl, rfl, rfl, by decide +kernel, rfl, by decide +kernel, by decide +kernel⟩
def f__law_handed : FD := fun ds q => ∃ (L : List (List Int)) (w : Nat), ds = [.list (L.map tI), .int w] ∧ L.length ≤ 1000 ∧ (∀ k ∈ L, k.length ≤ 1000) ∧ q (.val (hdD w L))
theorem ok__law_handed {f fd} {k : Nat} (F : Fun K "_law_handed" "_law_handed" s__law_handed f fd) (hdg : base.NoDigits) (m_list : mg "list" = none) (m_tuple : mg "tuple" = none) : FnG P w K mg base (k + 1) f fd ["table", "way"] (SpD K 2 f__law_handed) := by
  refine fnD F sc__law_handed fun cdv A outer s H E gA hr => ?_
  have hu := hr.units
  have nd := sc__law_handed.nd
  refine ⟨_, (ss_cons (st_if (dt_cmp (o_eq hu) (bv 1) (DE.toB de_int)) (ss_one (st_ret (de_T c_tuple m_tuple (ab_cons (DE.toB (DLs.toE (dl_lc (own := [("member", 2)]) nd (i_seqC (bv 0)) (gw_name (i := 2) nd) dts_nil (fun _ _ _ _ _ => (de_T c_tuple m_tuple (ab_cons (bv 2) ab_nil)))))) ab_nil)))) ss_nil)
    (ss_cons (st_if (dt_cmp (o_eq hu) (bv 1) (DE.toB de_int)) (ss_one (st_ret (DLs.toE (dl_lc (own := [("member", 2)]) nd (i_seqC (bv 0)) (gw_name (i := 2) nd) dts_nil (fun _ _ _ _ _ => (DLs.toE (dl_T c_list m_list (ab_cons (bv 2) ab_nil)))))))) ss_nil)
    (ss_one (st_ret (de_T c_tuple m_tuple (ab_cons (DE.toB (DLs.toE (dl_lc (own := [("member", 2)]) nd (i_seqC (bv 0)) (gw_name (i := 2) nd) dts_nil (fun _ _ _ _ _ => (DLs.toE (dl_T c_list m_list (ab_cons (bv 2) ab_nil))))))) ab_nil)))))), ?_⟩
  clear F nd hu hr gA E H s outer A cdv hdg m_list m_tuple
  intro ds q hl hg
  obtain ⟨L, w, rfl, lL, hL, hq⟩ := hg
  show sSeq _ _ _ [some (.val (.list (L.map tI))), some (.val (.int w)), none]
  refine sq_i fun k hk => if_n fun T hT => ?_
  walk_at "rd"
  refine ⟨fun h => ?_, fun h => ?_⟩
  · have e : w = 0 := by omega
    subst e
    subst hT
    walk_at "rd"
    refine ⟨fit_len (by first | omega | (simp; omega)), lc_f (emb := tI) (fun k => .tuple (k.map .int)) L hq fun a ha q Z hq => by walk_at "rd"; exact hq⟩
  clear hT T
  subst hk
  refine sq_i fun k hk => if_n fun T hT => ?_
  walk_at "rd"
  refine ⟨fun h2 => ?_, fun h2 => ?_⟩
  · have e : w = 1 := by omega
    subst e
    subst hT
    walk_at "rd"
    refine ⟨fit_len (by first | omega | (simp; omega)), lc_f (emb := tI) (fun k => .list (k.map .int)) L hq fun a ha q Z hq => by walk_at "rd"; exact hq⟩
  · subst hk
    walk_at "rd"
    refine ⟨fit_len (by first | omega | (simp; omega)), lc_f (emb := tI) (fun k => .list (k.map .int)) L ?_ fun a ha q Z hq => by walk_at "rd"; exact hq⟩
    have e1 : (w == 1) = false := beq_eq_false_iff_ne.mpr (by omega)
    have e0 : (w == 0) = false := beq_eq_false_iff_ne.mpr (by omega)
    unfold hdD at hq
    rw [e1, e0] at hq
    exact hq
abbrev s__law_powers : Stmt := topS 26
theorem sc__law_powers : FnScope ["size", "one", "found", "now", "turn", "k"] ["size", "one"] (defScope s__law_powers) := ⟨rfl, rfl, rfl, by decide +kernel, rfl, by decide +kernel, by decide +kernel⟩
def f__law_powers : FD := fun ds q => ∃ (n : Nat) (p : Pm), ds = [.int n, tN p] ∧ 1 ≤ n ∧ n ≤ 64 ∧ IsP p n ∧ ∀ T : List Pm, AllP n T → T.length ≤ 129 → q (.own (T.map tN))
theorem ok__law_powers {f fd} {k : Nat} (F : Fun K "_law_powers" "_law_powers" s__law_powers f fd) (hdg : base.NoDigits) (m_range : mg "range" = none) (m_sorted : mg "sorted" = none) (m_tuple : mg "tuple" = none) (r__law_compose : Ready P w K mg base "_law_compose" 2 k f__law_compose) : FnG P w K mg base (k + 1) f fd ["size", "one"] (SpD K 2 f__law_powers) := by
  refine fnD F sc__law_powers fun cdv A outer s H E gA hr => ?_
  have hu := hr.units
  have nd := sc__law_powers.nd
  refine ⟨_, (ss_cons (st_setL (i := 2) nd (dl_lst (da_cons (de_T c_tuple m_tuple (ab_cons (DE.toB (DLs.toE (dl_lc (own := [("k", 5)]) nd (DI.c (i_range1 (dv 0) m_range)) (gw_name (i := 5) nd) dts_nil (fun _ _ _ _ _ => (dv 5))))) ab_nil)) da_nil)))
    (ss_cons (st_set (i := 3) nd (dv 1))
    (ss_cons (st_for (i_range1 de_int m_range) (tg_name (i := 4) nd) (ss_cons (st_if (dt_cmp (o_eq hu) (bv 3) (DE.toB (de_ix x_ix (bv 2) (DE.toB de_int)))) (ss_one st_break) ss_nil)
    (ss_cons (st_app (i := 2) (dv 3))
    (ss_one (st_set (i := 3) nd (r__law_compose.toE gA hr (da_cons (dv 1) (da_cons (dv 3) da_nil))))))))
    (ss_one (st_retL (dl_B c_sortedT m_sorted (ab_cons (bv 2) ab_nil))))))), ?_⟩
  clear F nd hu hr gA E H s outer A cdv hdg m_range m_sorted m_tuple r__law_compose
  intro ds q hl hg
  obtain ⟨n, p, rfl, n1, n2, hp, hq⟩ := hg
  show sSeq _ _ _ [some (.val (.int n)), some (.val (tN p)), none, none, none, none]
  refine sq_i fun k hk => ?_
  walk_at "rd"
  refine ⟨Rng.of (by omega) (by omega), ?_⟩
  rw [Int.toNat_natCast]
  refine ⟨fit_len (by rw [upTo_length]; omega), lc_up (fun i => .int (i : Nat)) n ?_ fun i hi q Z hq => by walk_at "rd"; exact hq⟩
  rw [inN_range]
  subst hk
  refine sq_i fun k hk => ?_
  walk_at "rd"
  subst hk
  have fin : ∀ (M : List Pm) (y3 y4 : Option DV), AllP n M → M.length ≤ 129 → sRetL (lCall lSortT (dCons (bVar 2) dNil)) { nx := fun _ => q (.val .none), rt := q } [some (.val (.int n)), some (.val (tN p)), some (.own (M.map tN)), y3, y4, none] := fun M y3 y4 h1 h2 => by
    walk_at "rd"
    exact sortA_ok h1 n1 (by omega) fun T pT => hq T (fun x hx => h1 x (pT.mem_iff.mp hx)) (by rw [pT.length_eq]; exact h2)
  refine sq_i fun k hk => for_in fun W hW => ?_
  walk_at "rd"
  refine ⟨Rng.of (by omega) (by omega), ?_⟩
  subst hW
  refine for_up (fun i σ => ∃ (M : List Pm) (r : Pm) (y4 : Option DV), σ = [some (.val (.int n)), some (.val (tN p)), some (.own ((List.range n :: M).map tN)), some (.val (tN r)), y4, none] ∧ AllP n M ∧ IsP r n ∧ M.length ≤ i) 0 128 ⟨[], p, none, rfl, fun x hx => by simp at hx, hp, Nat.le_refl _⟩ ?_ ?_
  · rintro _ ⟨M, r, y4, rfl, h1, h2, h3⟩
    subst hk
    exact fin (List.range n :: M) (some (.val (tN r))) y4 (fun x hx => by
      rcases List.mem_cons.mp hx with e | e
      · rw [e]; exact isP_range n
      · exact h1 x e) (by rw [List.length_cons]; omega)
  · rintro i _ hi ⟨M, r, y4, rfl, h1, h2, h3⟩ k1 hk1
    simp only [Int.zero_add]
    refine sq_i fun k2 hk2 => if_n fun T hT => ?_
    walk_at "rd"
    refine ⟨eqOk_tN2 _ _, fun h => ?_, fun h => ?_⟩
    · subst hT
      walk_at "rd"
      subst hk
      exact fin (List.range n :: M) (some (.val (tN r))) _ (fun x hx => by
        rcases List.mem_cons.mp hx with e | e
        · rw [e]; exact isP_range n
        · exact h1 x e) (by rw [List.length_cons]; omega)
    · subst hk2
      refine sq_i fun k2 hk2 => ?_
      walk_at "rd"
      refine ⟨fit_len (by simp; omega), ?_⟩
      subst hk2
      walk_at "rd"
      refine ⟨true, true, p, r, rfl, fun y hy => by rw [hp.len]; exact isP_mem' h2 y hy, by rw [h2.len]; omega, ?_⟩
      walk_at "rd"
      refine hk1 _ ⟨M ++ [r], cmp p r, some (.val (.int (i : Nat))), ?_, h1.app fun x hx => by rw [List.mem_singleton.mp hx]; exact h2, IsP.cmp hp h2, by simp; omega⟩
      rw [List.map_cons, List.map_append]
      rfl
abbrev s__law_once : Stmt := topS 27
theorem sc__law_once : FnScope ["rows", "found", "row"] ["rows"] (defScope s__law_once) := ⟨rfl, rfl, rfl, by decide +kernel, rfl, by decide +kernel, by decide +kernel⟩
def f__law_once : FD := fun ds q => ∃ (n : Nat) (T : List Pm), ds = [.list (T.map tN)] ∧ 1 ≤ n ∧ n ≤ 64 ∧ AllP n T ∧ T.length ≤ 400 ∧ ∀ S : List Pm, AllP n S → S.length ≤ T.length → q (.own (S.map tN))
theorem ok__law_once {f fd} {k : Nat} (F : Fun K "_law_once" "_law_once" s__law_once f fd) (hdg : base.NoDigits) (m_len : mg "len" = none) (m_sorted : mg "sorted" = none) : FnG P w K mg base (k + 1) f fd ["rows"] (SpD K 1 f__law_once) := by
  refine fnD F sc__law_once fun cdv A outer s H E gA hr => ?_
  have hu := hr.units
  have nd := sc__law_once.nd
  refine ⟨_, (ss_cons (st_setL (i := 1) nd (dl_lst da_nil))
    (ss_cons (st_for (i_seq (DLs.toE (dl_B c_sortedT m_sorted (ab_cons (bv 0) ab_nil)))) (tg_name (i := 2) nd) (ss_one (st_if (DW.pt (dw_or (dt_cmp (o_eq hu) (DE.toB (de_B c_len m_len (ab_cons (bv 1) ab_nil))) (DE.toB de_int)) (dw_or1 (dt_cmp (o_ne hu) (DE.toB (de_ix x_ix (bv 1) (DE.toB (de_un u_neg (DE.toB de_int))))) (bv 2))))) (ss_one (st_app (i := 1) (dv 2))) ss_nil)))
    (ss_one (st_retO 1)))), ?_⟩
  clear F nd hu hr gA E H s outer A cdv hdg m_len m_sorted
  intro ds q hl hg
  obtain ⟨n, T, rfl, n1, n2, hT, lT, hq⟩ := hg
  show sSeq _ _ _ [some (.val (.list (T.map tN))), none, none]
  refine sq_i fun k hk => ?_
  walk_at "rd"
  subst hk
  refine sq_i fun k hk => for_in fun W hW => ?_
  walk_at "rd"
  refine sortA_ok hT n1 (by omega) fun T' pT => ?_
  subst hW
  refine for_map (fun r σ => ∃ (S : List Pm) (y2 : Option DV), σ = [some (.val (.list (T.map tN))), some (.own (S.map tN)), y2] ∧ AllP n S ∧ S.length + r.length ≤ T.length ∧ ∀ x ∈ r, IsP x n) T' ⟨[], none, rfl, fun x hx => by simp at hx, by rw [pT.length_eq]; simp, fun x hx => hT x (pT.mem_iff.mp hx)⟩ ?_ ?_
  · rintro _ ⟨S, y2, rfl, h1, h2, -⟩
    subst hk
    walk_at "rd"
    exact hq S h1 (by simpa using h2)
  · rintro a r _ ⟨S, y2, rfl, h1, h2, h3⟩ k1 hk1
    rw [List.length_cons] at h2
    have pa := h3 a List.mem_cons_self
    have h3' : ∀ x ∈ r, IsP x n := fun x hx => h3 x (List.mem_cons_of_mem _ hx)
    refine if_n fun Z hZ => ?_
    have add : Z := by
      subst hZ
      walk_at "rd"
      rw [tN_snoc]
      refine ⟨fit_len (by simp; omega), hk1 _ ⟨S ++ [a], _, rfl, h1.app fun x hx => by rw [List.mem_singleton.mp hx]; exact pa, by simp; omega, h3'⟩⟩
    walk_at "rd"
    refine ⟨fun _ => add, fun h => ?_⟩
    obtain ⟨pre, x, rfl⟩ : ∃ pre x, S = pre ++ [x] := by
      have hne : S ≠ [] := fun e => h (by rw [e]; rfl)
      exact ⟨S.dropLast, S.getLast hne, (List.dropLast_concat_getLast hne).symm⟩
    refine ixEnd ⟨eqOk_tN2 _ _, fun _ => add, fun _ => hk1 _ ⟨pre ++ [x], _, rfl, h1, by omega, h3'⟩⟩
abbrev s__law_swapped : Stmt := topS 28
theorem sc__law_swapped : FnScope ["one", "first", "second", "found"] ["one", "first", "second"] (defScope s__law_swapped) := ⟨rfl, rfl, rfl, by decide +kernel, rfl, by decide +kernel, by decide +kernel⟩
def f__law_swapped : FD := fun ds q => ∃ (n : Nat) (p : Pm) (a b : Nat), ds = [tN p, .int a, .int b] ∧ IsP p n ∧ a < n ∧ b < n ∧ n ≤ 64 ∧ q (.val (tN (swp p a b)))
theorem ok__law_swapped {f fd} {k : Nat} (F : Fun K "_law_swapped" "_law_swapped" s__law_swapped f fd) (hdg : base.NoDigits) (m_list : mg "list" = none) (m_tuple : mg "tuple" = none) : FnG P w K mg base (k + 1) f fd ["one", "first", "second"] (SpD K 3 f__law_swapped) := by
  refine fnD F sc__law_swapped fun cdv A outer s H E gA hr => ?_
  have hu := hr.units
  have nd := sc__law_swapped.nd
  refine ⟨_, (ss_cons (st_setL (i := 3) nd (dl_T c_list m_list (ab_cons (bv 0) ab_nil)))
    (ss_cons (st_setI (i := 3) (de_ix x_ix (bv 0) (bv 2)) (dv 1))
    (ss_cons (st_setI (i := 3) (de_ix x_ix (bv 0) (bv 1)) (dv 2))
    (ss_one (st_ret (de_T c_tuple m_tuple (ab_cons (bv 3) ab_nil))))))), ?_⟩
  clear F nd hu hr gA E H s outer A cdv hdg m_list m_tuple
  intro ds q hl hg
  obtain ⟨n, p, a, b, rfl, hp, ha, hb, n2, hq⟩ := hg
  have lp := hp.len
  show sSeq _ _ _ [some (.val (tN p)), some (.val (.int a)), some (.val (.int b)), none]
  refine sq_i fun k hk => ?_
  walk_at "rd"
  subst hk
  refine sq_i fun k hk => ?_
  walk_at "rd"
  refine ixP rfl (by omega) ?_
  rw [ixN_P rfl (by omega)]
  walk_at "rd"
  rw [inN_set]
  subst hk
  refine sq_i fun k hk => ?_
  walk_at "rd"
  refine ixP rfl (by omega) ?_
  rw [ixN_P rfl (by rw [List.length_set]; omega)]
  walk_at "rd"
  rw [inN_set]
  subst hk
  walk_at "rd"
  exact hq

end
end K43

namespace K43
open PySem PySem.Spec PyProof.Rows L2 DL Builtin.Int
local macro_rules | `(tactic| walk_at "rd") => `(tactic| simp -failIfUnchanged only [sSet, sSetL, sRet, sRetL, sRetO, sRetN, sNext, sBreak, sCont, sDrop, sApp, sAug, sAsg, sPar, sSetI, sPop, sSetPop, sAppPop, dTupRg, sRev, sFrz, frz1, iSeq, iRevD, iRange1, iRange2, iRangeD, rName, rTup, rTL_sq, gMulS_s, gStr1_i, rTL_t, rTL_l, rCons, rNil,
  dLst, dView, tView, lView, view, look, dVar, bVar, dC, d2, d1, l2, tBool, dNil, dCons, dTup, gI, gSubI, gMulI, gFdiv, gMod, gPow, gShl, gShr, gAnd, gXor, gLt, gLe, gGt, gGe, gAdd, gEq, gNe, isNone, gIs, gIsNot, gNeg, lCat, gLen_l, gLen_t, gLen_s, gInt, gAbs, gMax2, gMin2, gTuple_l, gTuple_t, lList_l, lList_t, gGcd, gIsqrt, dCall, lCall, dIsi, dIsi2,
  tAndD, tOrD, tNotD, tTru, truD, dAndV, dOrV, dNotV, dIf, dBits, wipeD, twoD, lComp, oNone, oSome, dSl, lSl, gSl_l, gSl_t, gSl_sq, gSq_l, gSq_t, gSq_sq, lRepL, sNever, dKIn, dKGet, gOr, dCount, dIndex, sSetTk, lTk0, lTk1, lTkc, tTkIn, dTkIn, dTkGet, sTkPut, tInD, lSortSc, sIns, lLstRg, sPopI, gIx_sq, gLen_sq, gTuple_sq, lList_sq, iZipD, gZip_sq, gZip_ts, gZip_st, gZip_ls, gZip_sl, gZip_tt, gZip_ll, gZip_lt, gZip_tl, dFn, dFn0, dFnK, lFn, dFnV, valD, tYesD, eqOk_ii, eqOk_bb, eqOk_ss, eqv_int, eqv_str, eqv_bool, noLst, noLstAll, List.map_cons, List.map_nil, Option.map_some, Option.map_none,
  List.getElem?_cons_zero, List.getElem?_cons_succ, List.set_cons_zero, List.set_cons_succ, true_and, and_true, decide_eq_true_eq, decide_eq_false_iff_not, Bool.not_eq_true', Bool.not_eq_false', beq_iff_eq, beq_eq_false_iff_ne, Bool.true_eq_false, Bool.false_eq_true, false_imp_iff, true_imp_iff, forall_const, reduceCtorEq, ne_eq, not_true_eq_false, not_false_eq_true, Bool.not_true, Bool.not_false, Bool.true_and, Bool.and_true, Bool.false_and, Bool.and_false, Int.reduceToNat, Int.cast_ofNat_Int, eq_self, isTy_none_int, isTy_none_bool, isTy_none_str, isTy_none_list, isTy_none_tuple, isTy_bool_int, isTy_bool_bool, isTy_bool_str, isTy_bool_list, isTy_bool_tuple, isTy_int_int, isTy_int_bool, isTy_int_str, isTy_int_list, isTy_int_tuple, isTy_str_int, isTy_str_bool, isTy_str_str, isTy_str_list, isTy_str_tuple, isTy_list_int, isTy_list_bool, isTy_list_str, isTy_list_list, isTy_list_tuple, isTy_tuple_int, isTy_tuple_bool, isTy_tuple_str, isTy_tuple_list, isTy_tuple_tuple, List.length_cons, List.length_nil, Nat.reduceAdd, Nat.zero_add, ix2_0, ix2_1,
  gIx_l0, gIx_t0, gIx_l1, gIx_t1, gIx_l2, gIx_t2, gIx_l3, gIx_t3, gIx_l4, gIx_t4, gIx_l5, gIx_t5, gIx_l6, gIx_t6, gIx_l7, gIx_t7, gIx_l8, gIx_t8, gIx_l9, gIx_t9, gIx_l10, gIx_t10, gIx_l11, gIx_t11, gIx_l12, gIx_t12, gIx_l13, gIx_t13, gIx_l14, gIx_t14, gIx_l15, gIx_t15])
section
variable {P : Program} {w : World} {K : Frag} {mg : Str → Option Value} {base : Heap}
open TV PM GP
abbrev tL (T : List Pm) : D := .list (T.map tN)
/-- rows of whole numbers, not too many, not too great -/
structure RwL (L : List (List Int)) : Prop where
  len : L.length ≤ 400
  row : ∀ k ∈ L, k.length ≤ 70 ∧ ∀ x ∈ k, x.natAbs < 10 ^ 40
theorem rwl_nk {n : Nat} {T : List Pm} (n2 : n ≤ 64) (hT : AllP n T) (lT : T.length ≤ 400) : RwL (T.map nk) := ⟨by rw [List.length_map]; exact lT, fun k hk => by
  obtain ⟨p, hp, rfl⟩ := List.mem_map.mp hk
  have pp := hT p hp
  refine ⟨by simp [nk, pp.len]; omega, fun x hx => ?_⟩
  obtain ⟨i, hi, rfl⟩ := List.mem_map.mp hx
  have := isP_mem' pp i hi
  exact Nat.lt_of_lt_of_le (show ((i : Int)).natAbs < 64 by omega) (by decide)⟩
theorem RwL.sub {L L' : List (List Int)} (h : RwL L) (hl : L'.length ≤ 400) (hs : ∀ k ∈ L', k ∈ L ∨ (k.length ≤ 70 ∧ ∀ x ∈ k, x.natAbs < 10 ^ 40)) : RwL L' := ⟨hl, fun k hk => (hs k hk).elim (h.row k) fun z => z⟩
theorem erase_map {α β : Type} (f : α → β) : ∀ (l : List α) (i : Nat), (l.map f).eraseIdx i = (l.eraseIdx i).map f
  | [], _ => rfl
  | _ :: _, 0 => rfl
  | a :: l, i + 1 => by
    show f a :: (l.map f).eraseIdx i = f a :: (l.eraseIdx i).map f
    rw [erase_map f l i]
theorem nkT (U : List Pm) : U.map tN = (U.map nk).map tI := by
  rw [List.map_map]
  exact List.map_congr_left fun p _ => tN_nk p
abbrev s__law_spoilt : Stmt := topS 29
theorem sc__law_spoilt : FnScope ["kind", "table", "size", "row", "rows", "at", "other", "spot", "kept", "member", "plain", "gone", "k"] ["kind", "table", "size", "row"] (defScope s__law_spoilt) := ⟨rfl, rfl, rfl, by decide +kernel, rfl, by decide +kernel, by decide +kernel⟩
def f__law_spoilt : FD := fun ds q => ∃ (kd n b0 b1 b2 b3 b4 : Nat) (U : List Pm), ds = [.int kd, tL U, .int n, .list [.int b0, .int b1, .int b2, .int b3, .int b4]] ∧ kd ≤ 9 ∧ 1 ≤ n ∧ n ≤ 64 ∧ b0 < 128 ∧ b1 < 128 ∧ b2 < 64 ∧ b3 < 64 ∧ AllP n U ∧ 1 ≤ U.length ∧ U.length ≤ 128 ∧ ∀ L, RwL L → q (.own [.list (L.map tI), .int n])
theorem ok__law_spoilt {f fd} {k : Nat} (F : Fun K "_law_spoilt" "_law_spoilt" s__law_spoilt f fd) (hdg : base.NoDigits) (m_int : mg "int" = none) (m_len : mg "len" = none) (m_list : mg "list" = none) (m_range : mg "range" = none) (m_tuple : mg "tuple" = none) (r__law_compose : Ready P w K mg base "_law_compose" 2 k f__law_compose) : FnG P w K mg base (k + 1) f fd ["kind", "table", "size", "row"] (SpD K 4 f__law_spoilt) := by
  refine fnD F sc__law_spoilt fun cdv A outer s H E gA hr => ?_
  have hu := hr.units
  have nd := sc__law_spoilt.nd
  refine ⟨_, (ss_cons (st_setL (i := 4) nd (dl_T c_list m_list (ab_cons (bv 1) ab_nil)))
    (ss_cons (st_set (i := 5) nd (de_op o_mod (DE.toB (de_T c_int m_int (ab_cons (DE.toB (de_ix x_ix (bv 3) (DE.toB de_int))) ab_nil))) (DE.toB (de_B c_len m_len (ab_cons (bv 4) ab_nil)))))
    (ss_cons (st_set (i := 6) nd (de_op o_mod (DE.toB (de_T c_int m_int (ab_cons (DE.toB (de_ix x_ix (bv 3) (DE.toB de_int))) ab_nil))) (DE.toB (de_B c_len m_len (ab_cons (bv 4) ab_nil)))))
    (ss_cons (st_set (i := 7) nd (de_op o_mod (DE.toB (de_T c_int m_int (ab_cons (DE.toB (de_ix x_ix (bv 3) (DE.toB de_int))) ab_nil))) (bv 2)))
    (ss_cons (st_if (dt_cmp (o_eq hu) (bv 0) (DE.toB de_int)) (ss_one (st_popI (i := 4) (dv 5))) ss_nil)
    (ss_cons (st_if (dt_cmp (o_eq hu) (bv 0) (DE.toB de_int)) (ss_one (st_ins (i := 4) (dv 5) (de_ix x_ix (bv 4) (bv 5)))) ss_nil)
    (ss_cons (st_if (dt_cmp (o_eq hu) (bv 0) (DE.toB de_int)) (ss_one (st_set (i := 6) nd (de_op o_mod (DE.toB (de_T c_int m_int (ab_cons (DE.toB (de_op o_add (bv 5) (DE.toB de_int))) ab_nil))) (DE.toB (de_B c_len m_len (ab_cons (bv 4) ab_nil)))))) ss_nil)
    (ss_cons (st_if (DW.pt (dw_or (dt_cmp (o_eq hu) (bv 0) (DE.toB de_int)) (dw_or1 (dt_cmp (o_eq hu) (bv 0) (DE.toB de_int))))) (ss_cons (st_set (i := 8) nd (de_ix x_ix (bv 4) (bv 5)))
    (ss_cons (st_setI (i := 4) (de_ix x_ix (bv 4) (bv 6)) (dv 5))
    (ss_one (st_setI (i := 4) (dv 8) (dv 6))))) ss_nil)
    (ss_cons (st_if (DW.pt (dw_or (dt_cmp (o_eq hu) (bv 0) (DE.toB de_int)) (dw_or1 (dt_cmp (o_eq hu) (bv 0) (DE.toB de_int))))) (ss_cons (st_setL (i := 9) nd (dl_T c_list m_list (ab_cons (DE.toB (de_ix x_ix (bv 4) (bv 5))) ab_nil)))
    (ss_cons (st_setI (i := 9) (de_op o_mod (DE.toB (de_T c_int m_int (ab_cons (DE.toB (de_op o_add (DE.toB (de_op o_add (DE.toB (de_ix x_ix (bv 9) (bv 7))) (DE.toB de_int))) (DE.toB (de_ix x_ix (bv 3) (DE.toB de_int))))) ab_nil))) (bv 2)) (dv 7))
    (ss_cons (st_if (dt_cmp (o_eq hu) (bv 0) (DE.toB de_int)) (ss_one (st_setI (i := 9) (de_ix x_ix (DE.toB (DLs.toE (dl_lst (da_cons (de_un u_neg (DE.toB de_int)) (da_cons (dv 2) (da_cons (de_op o_add (bv 2) (DE.toB (de_ix x_ix (bv 3) (DE.toB de_int)))) (da_cons (de_un u_neg (bv 2)) (da_cons (de_op o_pow (DE.toB de_int) (DE.toB de_int)) (da_cons (de_op o_sub (DE.toB (de_un u_neg (DE.toB de_int))) (DE.toB (de_ix x_ix (bv 3) (DE.toB de_int)))) (da_cons (de_un u_neg (DE.toB (de_op o_pow (DE.toB de_int) (DE.toB de_int)))) da_nil)))))))))) (DE.toB (de_op o_mod (DE.toB (de_T c_int m_int (ab_cons (DE.toB (de_ix x_ix (bv 3) (DE.toB de_int))) ab_nil))) (DE.toB de_int)))) (dv 7))) ss_nil)
    (ss_one (st_setI (i := 4) (de_T c_tuple m_tuple (ab_cons (bv 9) ab_nil)) (dv 5)))))) ss_nil)
    (ss_cons (st_if (dt_cmp (o_eq hu) (bv 0) (DE.toB de_int)) (ss_one (st_setI (i := 4) (de_op o_add (DE.toB (de_ix x_ix (bv 4) (bv 5))) (DE.toB (de_tup (da_cons (dv 2) da_nil)))) (dv 5))) ss_nil)
    (ss_cons (st_if (dt_cmp (o_eq hu) (bv 0) (DE.toB de_int)) (ss_one (st_setI (i := 4) (de_sl (DE.toB (de_ix x_ix (bv 4) (bv 5))) do_none (do_some (de_op o_sub (bv 2) (DE.toB de_int)))) (dv 5))) ss_nil)
    (ss_cons (st_if (dt_cmp (o_eq hu) (bv 0) (DE.toB de_int)) (ss_one (st_setL (i := 4) nd (dl_lc (own := [("k", 12)]) nd (DI.c (i_range1 (de_B c_len m_len (ab_cons (bv 4) ab_nil)) m_range)) (gw_name (i := 12) nd) dts_nil (fun _ _ _ _ _ => (de_ix x_ix (bv 4) (DE.toB (de_op o_sub (DE.toB (de_op o_sub (DE.toB (de_B c_len m_len (ab_cons (bv 4) ab_nil))) (DE.toB de_int))) (bv 12)))))))) ss_nil)
    (ss_cons (st_if (dt_cmp (o_eq hu) (bv 0) (DE.toB de_int)) (ss_cons (st_set (i := 10) nd (de_T c_tuple m_tuple (ab_cons (DE.toB (DLs.toE (dl_lc (own := [("k", 12)]) nd (DI.c (i_range1 (dv 2) m_range)) (gw_name (i := 12) nd) dts_nil (fun _ _ _ _ _ => (dv 12))))) ab_nil)))
    (ss_cons (st_set (i := 11) nd (de_ix x_ix (bv 4) (bv 5)))
    (ss_one (st_setL (i := 4) nd (dl_lc (own := [("member", 9)]) nd (i_seqC (bv 4)) (gw_name (i := 9) nd) (dts_one fun _ _ _ _ _ => (DW.pt (dw_and (dt_cmp (o_ne hu) (bv 9) (bv 11)) (dw_and1 (dt_cmp (o_ne hu) (DE.toB (r__law_compose.toE gA hr (da_cons (dv 9) (da_cons (dv 11) da_nil)))) (bv 10)))))) (fun _ _ _ _ _ => (dv 9))))))) ss_nil)
    (ss_one (st_frz 4 (st_retL (dl_lst (da_cons (dv 4) (da_cons (dv 2) da_nil))))))))))))))))))), ?_⟩
  clear F nd hu hr gA E H s outer A cdv hdg m_int m_len m_list m_range m_tuple r__law_compose
  intro ds q hl hg
  obtain ⟨kd, n, b0, b1, b2, b3, b4, U, rfl, hkd, n1, n2, h0, h1, h2, h3, hU, u1, u2, hq⟩ := hg
  show sSeq _ _ _ [some (.val (.int kd)), some (.val (tL U)), some (.val (.int n)), some (.val (.list [.int b0, .int b1, .int b2, .int b3, .int b4])), none, none, none, none, none, none, none, none, none]
  refine sq_i fun k hk => ?_
  walk_at "rd"
  subst hk
  refine sq_i fun k hk => ?_
  walk_at "rd"
  rw [List.length_map, fmodN]
  refine ⟨by omega, ?_⟩
  have la := Nat.mod_lt b0 (show 0 < U.length by omega)
  generalize b0 % U.length = a at la ⊢
  subst hk
  refine sq_i fun k hk => ?_
  walk_at "rd"
  rw [List.length_map, fmodN]
  refine ⟨by omega, ?_⟩
  have lo := Nat.mod_lt b1 (show 0 < U.length by omega)
  generalize b1 % U.length = o at lo ⊢
  subst hk
  refine sq_i fun k hk => ?_
  walk_at "rd"
  rw [fmodN]
  refine ⟨by omega, ?_⟩
  have lp := Nat.mod_lt b2 (show 0 < n by omega)
  generalize b2 % n = sp at lp ⊢
  rw [nkT]
  have gL := rwl_nk n2 hU (by omega)
  obtain ⟨pa, hpa⟩ : ∃ p, U[a]? = some p := ⟨_, List.getElem?_eq_getElem la⟩
  have pP := hU pa (List.mem_of_getElem? hpa)
  have ga : (U.map nk)[a]? = some (nk pa) := by rw [List.getElem?_map, hpa]; rfl
  have lU : (U.map nk).length = U.length := List.length_map ..
  subst hk
  refine sj_r (fun σ => ∃ L, σ = [some (.val (.int kd)), some (.val (tL U)), some (.val (.int n)), some (.val (.list [.int b0, .int b1, .int b2, .int b3, .int b4])), some (.own (L.map tI)), some (.val (.int (a : Nat))), some (.val (.int (o : Nat))), some (.val (.int (sp : Nat))), none, none, none, none, none] ∧ RwL L ∧ (1 ≤ kd → L = U.map nk)) ?_ fun k hk => if_n fun T hT => ?_
  rotate_left
  · walk_at "rd"
    refine ⟨fun h => ?_, fun h => hk _ ⟨_, rfl, gL, fun _ => rfl⟩⟩
    subst hT
    walk_at "rd"
    refine ⟨a, rfl, by rw [List.length_map, lU]; exact la, by omega, ?_⟩
    rw [erase_map]
    exact hk _ ⟨_, rfl, gL.sub (by rw [List.length_eraseIdx]; split <;> omega) fun k hk => .inl (List.mem_of_mem_eraseIdx hk), fun z => by omega⟩
  rintro _ ⟨L, rfl, gL1, hL1⟩
  refine sj_r (fun σ => ∃ L, σ = [some (.val (.int kd)), some (.val (tL U)), some (.val (.int n)), some (.val (.list [.int b0, .int b1, .int b2, .int b3, .int b4])), some (.own (L.map tI)), some (.val (.int (a : Nat))), some (.val (.int (o : Nat))), some (.val (.int (sp : Nat))), none, none, none, none, none] ∧ RwL L ∧ (2 ≤ kd → L = U.map nk)) ?_ fun k hk => if_n fun T hT => ?_
  rotate_left
  · walk_at "rd"
    refine ⟨fun h => ?_, fun h => hk _ ⟨_, rfl, gL1, fun _ => hL1 (by omega)⟩⟩
    subst hT
    have e := hL1 (by omega)
    subst e
    walk_at "rd"
    refine gIx_N (by rw [List.getElem?_map, ga]; rfl) ⟨_, rfl, fit_len (by rw [List.length_map, lU]; omega), by omega, by omega, ?_⟩
    rw [Int.toNat_natCast, ← List.map_take, ← List.map_drop, show [tI (nk pa)] = [nk pa].map tI from rfl, ← List.map_append, ← List.map_append]
    exact hk _ ⟨_, rfl, gL.sub (by simp; omega) fun k hk => by
      rcases List.mem_append.mp hk with z | z
      · rcases List.mem_append.mp z with z | z
        · exact .inl (List.mem_of_mem_take z)
        · rw [List.mem_singleton.mp z]; exact .inl (List.mem_of_getElem? ga)
      · exact .inl (List.mem_of_mem_drop z), fun z => by omega⟩
  clear hL1 gL1 L
  rintro _ ⟨L, rfl, gL1, hL1⟩
  refine sj_r (fun σ => ∃ (L : List (List Int)) (o : Nat), σ = [some (.val (.int kd)), some (.val (tL U)), some (.val (.int n)), some (.val (.list [.int b0, .int b1, .int b2, .int b3, .int b4])), some (.own (L.map tI)), some (.val (.int (a : Nat))), some (.val (.int (o : Nat))), some (.val (.int (sp : Nat))), none, none, none, none, none] ∧ o < U.length ∧ RwL L ∧ (2 ≤ kd → L = U.map nk)) ?_ fun k hk => if_n fun T hT => ?_
  rotate_left
  · walk_at "rd"
    refine ⟨fun h => ?_, fun h => hk _ ⟨_, _, rfl, lo, gL1, hL1⟩⟩
    subst hT
    have e := hL1 (by omega)
    subst e
    walk_at "rd"
    rw [List.length_map, lU]
    refine ⟨by omega, ?_⟩
    rw [show ((a : Int) + 1) = ((a + 1 : Nat) : Int) from rfl, fmodN]
    exact hk _ ⟨_, _, rfl, Nat.mod_lt _ (by omega), gL1, hL1⟩
  clear hL1 gL1 L lo o
  rintro _ ⟨L, o, rfl, lo, gL1, hL1⟩
  obtain ⟨po, hpo⟩ : ∃ p, U[o]? = some p := ⟨_, List.getElem?_eq_getElem lo⟩
  have pO := hU po (List.mem_of_getElem? hpo)
  have go : (U.map nk)[o]? = some (nk po) := by rw [List.getElem?_map, hpo]; rfl
  have keepR : ∀ (L' : List (List Int)), L'.length ≤ 128 → (∀ k ∈ L', k ∈ U.map nk) → RwL L' := fun L' h1 h2 => gL.sub (by omega) fun k hk => .inl (h2 k hk)
  have mS : ∀ (L : List (List Int)) (i : Nat) (x : List Int), (L.map tI).set i (tI x) = (L.set i x).map tI := fun L i x => by rw [List.map_set]
  refine sj_r (fun σ => ∃ (L : List (List Int)) (y8 : Option DV), σ = [some (.val (.int kd)), some (.val (tL U)), some (.val (.int n)), some (.val (.list [.int b0, .int b1, .int b2, .int b3, .int b4])), some (.own (L.map tI)), some (.val (.int (a : Nat))), some (.val (.int (o : Nat))), some (.val (.int (sp : Nat))), y8, none, none, none, none] ∧ RwL L ∧ (4 ≤ kd → L = U.map nk)) ?_ fun k hk => if_n fun T hT => ?_
  rotate_left
  · have go2 : kd = 2 ∨ kd = 3 → T := fun h => by
      have e := hL1 (by omega)
      subst e
      subst hT
      refine sq_i fun k2 hk2 => ?_
      walk_at "rd"
      refine gIx_N (by rw [List.getElem?_map, ga]; rfl) ?_
      subst hk2
      refine sq_i fun k2 hk2 => ?_
      walk_at "rd"
      refine gIx_N (by rw [List.getElem?_map, go]; rfl) ?_
      rw [List.length_map, lU, ixN_at rfl la]
      walk_at "rd"
      rw [mS]
      subst hk2
      walk_at "rd"
      rw [List.length_map, List.length_set, lU, ixN_at rfl lo]
      walk_at "rd"
      rw [mS]
      refine hk _ ⟨_, _, rfl, keepR _ (by rw [List.length_set, List.length_set, lU]; omega) fun k hk => ?_, fun z => by omega⟩
      rcases List.mem_or_eq_of_mem_set hk with z | z
      · rcases List.mem_or_eq_of_mem_set z with z | z
        · exact z
        · rw [z]; exact List.mem_of_getElem? go
      · rw [z]; exact List.mem_of_getElem? ga
    walk_at "rd"
    exact ⟨fun h => go2 (.inl (by omega)), fun h => ⟨fun h' => go2 (.inr (by omega)), fun h' => hk _ ⟨_, _, rfl, gL1, fun z => hL1 (by omega)⟩⟩⟩
  clear hL1 gL1 L
  rintro _ ⟨L, y8, rfl, gL1, hL1⟩
  have lpa : (nk pa).length = n := by simp [nk, pP.len]
  have rpa := gL.row (nk pa) (List.mem_of_getElem? ga)
  have iS : ∀ (ks : List Int) (i : Nat) (x : Int), (ks.map PyData.int).set i (.int x) = (ks.set i x).map PyData.int := fun ks i x => by rw [List.map_set]
  refine sj_r (fun σ => ∃ (L : List (List Int)) (y9 : Option DV), σ = [some (.val (.int kd)), some (.val (tL U)), some (.val (.int n)), some (.val (.list [.int b0, .int b1, .int b2, .int b3, .int b4])), some (.own (L.map tI)), some (.val (.int (a : Nat))), some (.val (.int (o : Nat))), some (.val (.int (sp : Nat))), y8, y9, none, none, none] ∧ RwL L ∧ (6 ≤ kd → L = U.map nk)) ?_ fun k hk => if_n fun T hT => ?_
  rotate_left
  · have go3 : kd = 4 ∨ kd = 5 → T := fun h => by
      have e := hL1 (by omega)
      subst e
      subst hT
      refine sq_i fun k2 hk2 => ?_
      walk_at "rd"
      refine gIx_N (by rw [List.getElem?_map, ga]; rfl) ?_
      walk_at "rd"
      subst hk2
      refine sq_i fun k2 hk2 => ?_
      obtain ⟨v, hv⟩ : ∃ v, (nk pa)[sp]? = some v := ⟨_, List.getElem?_eq_getElem (by omega)⟩
      walk_at "rd"
      refine gIx_N (by rw [List.getElem?_map, hv]; rfl) ?_
      walk_at "rd"
      refine ⟨by omega, ?_⟩
      rw [List.length_map, lpa, ixN_at rfl lp]
      walk_at "rd"
      rw [iS]
      have w0 := fmod_pos (a := v + 1 + (b3 : Int)) (b := (n : Int)) (by omega)
      generalize (v + 1 + (b3 : Int)).fmod (n : Int) = w at w0 ⊢
      subst hk2
      refine sj_r (fun σ => ∃ w : Int, σ = [some (.val (.int kd)), some (.val (tL U)), some (.val (.int n)), some (.val (.list [.int b0, .int b1, .int b2, .int b3, .int b4])), some (.own ((U.map nk).map tI)), some (.val (.int (a : Nat))), some (.val (.int (o : Nat))), some (.val (.int (sp : Nat))), y8, some (.own (((nk pa).set sp w).map .int)), none, none, none] ∧ w.natAbs < 10 ^ 40) ?_ fun k2 hk2 => if_n fun T hT => ?_
      rotate_left
      · walk_at "rd"
        refine ⟨fun h5 => ?_, fun h5 => hk2 _ ⟨w, rfl, Nat.lt_of_lt_of_le (show w.natAbs < 64 by omega) (by decide)⟩⟩
        subst hT
        walk_at "rd"
        refine ⟨by decide, by decide, by decide, ?_⟩
        rw [show (7 : Int) = ((7 : Nat) : Int) from rfl, fmodN]
        have l7 := Nat.mod_lt b1 (show 0 < 7 by omega)
        refine gIx_P (fun d => ∃ w : Int, d = .int w ∧ w.natAbs < 10 ^ 40) (by omega) (by simp; omega) (fun d e => ?_) fun d hd => ?_
        · have := List.mem_of_getElem? e
          have sm : ∀ z : Int, -200 < z → z < 200 → z.natAbs < 10 ^ 40 := fun z z1 z2 => Nat.lt_of_lt_of_le (show z.natAbs < 200 by omega) (by decide)
          simp only [List.mem_cons, List.not_mem_nil, or_false] at this
          rcases this with rfl | rfl | rfl | rfl | rfl | rfl | rfl
          · exact ⟨_, rfl, by decide⟩
          · exact ⟨_, rfl, sm _ (by omega) (by omega)⟩
          · exact ⟨_, rfl, sm _ (by omega) (by omega)⟩
          · exact ⟨_, rfl, sm _ (by omega) (by omega)⟩
          · exact ⟨_, rfl, by decide⟩
          · exact ⟨_, rfl, sm _ (by omega) (by omega)⟩
          · exact ⟨_, rfl, by decide⟩
        · obtain ⟨w', rfl, hw'⟩ := hd
          rw [List.length_map, List.length_set, lpa, ixN_at rfl lp]
          walk_at "rd"
          rw [iS, List.set_set]
          exact hk2 _ ⟨w', rfl, hw'⟩
      rintro _ ⟨w, rfl, hw⟩
      walk_at "rd"
      rw [List.length_map, lU, ixN_at rfl la]
      walk_at "rd"
      rw [show PyData.tuple (((nk pa).set sp w).map PyData.int) = tI ((nk pa).set sp w) from rfl, mS]
      refine hk _ ⟨_, _, rfl, gL.sub (by rw [List.length_set, lU]; omega) fun k hk => ?_, fun z => by omega⟩
      rcases List.mem_or_eq_of_mem_set hk with z | z
      · exact .inl z
      · refine .inr ⟨by rw [z, List.length_set, lpa]; omega, fun x hx => ?_⟩
        rw [z] at hx
        rcases List.mem_or_eq_of_mem_set hx with y | y
        · exact rpa.2 x y
        · rw [y]; exact hw
    walk_at "rd"
    exact ⟨fun h => go3 (.inl (by omega)), fun h => ⟨fun h' => go3 (.inr (by omega)), fun h' => hk _ ⟨_, _, rfl, gL1, fun z => hL1 (by omega)⟩⟩⟩
  clear hL1 gL1 L
  rintro _ ⟨L, y9, rfl, gL1, hL1⟩
  refine sj_r (fun σ => ∃ (L : List (List Int)), σ = [some (.val (.int kd)), some (.val (tL U)), some (.val (.int n)), some (.val (.list [.int b0, .int b1, .int b2, .int b3, .int b4])), some (.own (L.map tI)), some (.val (.int (a : Nat))), some (.val (.int (o : Nat))), some (.val (.int (sp : Nat))), y8, y9, none, none, none] ∧ RwL L ∧ (7 ≤ kd → L = U.map nk)) ?_ fun k hk => if_n fun T hT => ?_
  rotate_left
  · walk_at "rd"
    refine ⟨fun h => ?_, fun h => hk _ ⟨_, rfl, gL1, fun z => hL1 (by omega)⟩⟩
    have e := hL1 (by omega)
    subst e
    subst hT
    walk_at "rd"
    refine gIx_N (by rw [List.getElem?_map, ga]; rfl) ?_
    walk_at "rd"
    refine ⟨fit_len (by first | omega | (simp; omega)), ?_⟩
    rw [List.length_map, lU, ixN_at rfl la]
    walk_at "rd"
    rw [show PyData.tuple ((nk pa).map PyData.int ++ [PyData.int (n : Nat)]) = tI (nk pa ++ [(n : Int)]) from by unfold tI; rw [List.map_append]; rfl, mS]
    refine hk _ ⟨_, rfl, gL.sub (by rw [List.length_set, lU]; omega) fun k hk => ?_, fun z => by omega⟩
    rcases List.mem_or_eq_of_mem_set hk with z | z
    · exact .inl z
    · refine .inr ⟨by rw [z, List.length_append, lpa]; simp; omega, fun x hx => ?_⟩
      rw [z] at hx
      rcases List.mem_append.mp hx with y | y
      · exact rpa.2 x y
      · rw [List.mem_singleton.mp y]; exact Nat.lt_of_lt_of_le (show ((n : Int)).natAbs < 65 by omega) (by decide)
  clear hL1 gL1 L
  rintro _ ⟨L, rfl, gL1, hL1⟩
  refine sj_r (fun σ => ∃ (L : List (List Int)), σ = [some (.val (.int kd)), some (.val (tL U)), some (.val (.int n)), some (.val (.list [.int b0, .int b1, .int b2, .int b3, .int b4])), some (.own (L.map tI)), some (.val (.int (a : Nat))), some (.val (.int (o : Nat))), some (.val (.int (sp : Nat))), y8, y9, none, none, none] ∧ RwL L ∧ (8 ≤ kd → L = U.map nk)) ?_ fun k hk => if_n fun T hT => ?_
  rotate_left
  · walk_at "rd"
    refine ⟨fun h => ?_, fun h => hk _ ⟨_, rfl, gL1, fun z => hL1 (by omega)⟩⟩
    have e := hL1 (by omega)
    subst e
    subst hT
    walk_at "rd"
    refine gIx_N (by rw [List.getElem?_map, ga]; rfl) ?_
    walk_at "rd"
    rw [List.length_map, lU, ixN_at rfl la, show ((n : Int) - 1) = ((n - 1 : Nat) : Int) by omega, cut_low (by rw [List.length_map, lpa]; omega)]
    walk_at "rd"
    rw [show PyData.tuple (((nk pa).map PyData.int).take (n - 1)) = tI ((nk pa).take (n - 1)) from by unfold tI; rw [List.map_take], mS]
    refine hk _ ⟨_, rfl, gL.sub (by rw [List.length_set, lU]; omega) fun k hk => ?_, fun z => by omega⟩
    rcases List.mem_or_eq_of_mem_set hk with z | z
    · exact .inl z
    · refine .inr ⟨by rw [z, List.length_take]; omega, fun x hx => ?_⟩
      rw [z] at hx
      exact rpa.2 x (List.mem_of_mem_take hx)
  clear hL1 gL1 L
  rintro _ ⟨L, rfl, gL1, hL1⟩
  refine sj_r (fun σ => ∃ (L : List (List Int)), σ = [some (.val (.int kd)), some (.val (tL U)), some (.val (.int n)), some (.val (.list [.int b0, .int b1, .int b2, .int b3, .int b4])), some (.own (L.map tI)), some (.val (.int (a : Nat))), some (.val (.int (o : Nat))), some (.val (.int (sp : Nat))), y8, y9, none, none, none] ∧ RwL L ∧ (9 ≤ kd → L = U.map nk)) ?_ fun k hk => if_n fun T hT => ?_
  rotate_left
  · walk_at "rd"
    refine ⟨fun h => ?_, fun h => hk _ ⟨_, rfl, gL1, fun z => hL1 (by omega)⟩⟩
    have e := hL1 (by omega)
    subst e
    subst hT
    walk_at "rd"
    rw [List.length_map, lU]
    refine ⟨Rng.of (by omega) (by omega), ?_⟩
    rw [Int.toNat_natCast]
    refine ⟨fit_len (by rw [upTo_length]; omega), lc_exU (f := tI) (P := fun k => k ∈ U.map nk) U.length (fun i hi q Z h => ?_) fun L' hL' lL' => ?_⟩
    · walk_at "rd"
      rw [List.length_map, lU, show ((U.length : Int) - 1 - (i : Int)) = ((U.length - 1 - i : Nat) : Int) by omega]
      obtain ⟨x, hx⟩ : ∃ x, (U.map nk)[U.length - 1 - i]? = some x := ⟨_, List.getElem?_eq_getElem (by omega)⟩
      exact gIx_N (by rw [List.getElem?_map, hx]; rfl) (h x (List.mem_of_getElem? hx))
    · exact hk _ ⟨L', rfl, keepR L' (by omega) hL', fun z => by omega⟩
  clear hL1 gL1 L
  rintro _ ⟨L, rfl, gL1, hL1⟩
  refine sj_r (fun σ => ∃ (L : List (List Int)) (y9 y10 y11 : Option DV), σ = [some (.val (.int kd)), some (.val (tL U)), some (.val (.int n)), some (.val (.list [.int b0, .int b1, .int b2, .int b3, .int b4])), some (.own (L.map tI)), some (.val (.int (a : Nat))), some (.val (.int (o : Nat))), some (.val (.int (sp : Nat))), y8, y9, y10, y11, none] ∧ RwL L) ?_ fun k hk => if_n fun T hT => ?_
  · rintro _ ⟨L, y9, y10, y11, rfl, gL2⟩
    walk_at "rd"
    exact hq L gL2
  · walk_at "rd"
    refine ⟨fun h => ?_, fun h => hk _ ⟨_, _, _, _, rfl, gL1⟩⟩
    have e := hL1 (by omega)
    subst e
    subst hT
    rw [← nkT]
    refine sq_i fun k2 hk2 => ?_
    walk_at "rd"
    refine ⟨Rng.of (by omega) (by omega), ?_⟩
    rw [Int.toNat_natCast]
    refine ⟨fit_len (by rw [upTo_length]; omega), lc_up (fun i => .int (i : Nat)) n ?_ fun i hi q Z hq => by walk_at "rd"; exact hq⟩
    rw [inN_range]
    subst hk2
    refine sq_i fun k2 hk2 => ?_
    walk_at "rd"
    refine gIx_N (by rw [List.getElem?_map, hpa]; rfl) ?_
    subst hk2
    walk_at "rd"
    refine ⟨fit_len (by first | omega | (simp; omega)), lc_p (emb := tN) (fun m => !decide (m = pa) && !decide (cmp m pa = List.range n)) tN U ?_ fun m hm q Z h1 h2 => ?_⟩
    · rw [nkT]
      refine hk _ ⟨_, _, _, _, rfl, keepR _ (by rw [List.length_map]; exact Nat.le_trans (List.length_filter_le _ _) u2) fun k hk => ?_⟩
      obtain ⟨x, hx, rfl⟩ := List.mem_map.mp hk
      exact List.mem_map_of_mem (List.mem_filter.mp hx).1
    · have pm := hU m hm
      walk_at "rd"
      refine ⟨eqOk_tN2 _ _, ?_⟩
      rw [eqv_tN]
      refine ⟨fun c => ⟨true, true, m, pa, rfl, fun y hy => by rw [pm.len]; exact isP_mem' pP y hy, by rw [pP.len]; omega, ?_⟩, fun c => h2 (by rw [c]; rfl)⟩
      walk_at "rd"
      refine ⟨eqOk_tN2 _ _, ?_⟩
      rw [eqv_tN]
      exact ⟨fun c2 => h1 (by rw [c, c2]; rfl), fun c2 => h2 (by rw [c2]; simp)⟩

end
end K43

namespace K43
open PySem PySem.Spec PyProof.Rows L2 DL Builtin.Int
local macro_rules | `(tactic| walk_at "rd") => `(tactic| simp -failIfUnchanged only [sSet, sSetL, sRet, sRetL, sRetO, sRetN, sNext, sBreak, sCont, sDrop, sApp, sAug, sAsg, sPar, sSetI, sPop, sSetPop, sAppPop, dTupRg, sRev, sFrz, frz1, iSeq, iRevD, iRange1, iRange2, iRangeD, rName, rTup, rTL_sq, gMulS_s, gStr1_i, rTL_t, rTL_l, rCons, rNil,
  dLst, dView, tView, lView, view, look, dVar, bVar, dC, d2, d1, l2, tBool, dNil, dCons, dTup, gI, gSubI, gMulI, gFdiv, gMod, gPow, gShl, gShr, gAnd, gXor, gLt, gLe, gGt, gGe, gAdd, gEq, gNe, isNone, gIs, gIsNot, gNeg, lCat, gLen_l, gLen_t, gLen_s, gInt, gAbs, gMax2, gMin2, gTuple_l, gTuple_t, lList_l, lList_t, gGcd, gIsqrt, dCall, lCall, dIsi, dIsi2,
  tAndD, tOrD, tNotD, tTru, truD, dAndV, dOrV, dNotV, dIf, dBits, wipeD, twoD, lComp, oNone, oSome, dSl, lSl, gSl_l, gSl_t, gSl_sq, gSq_l, gSq_t, gSq_sq, lRepL, sNever, dKIn, dKGet, gOr, dCount, dIndex, sSetTk, lTk0, lTk1, lTkc, tTkIn, dTkIn, dTkGet, sTkPut, tInD, lSortSc, sIns, lLstRg, sPopI, gIx_sq, gLen_sq, gTuple_sq, lList_sq, iZipD, gZip_sq, gZip_ts, gZip_st, gZip_ls, gZip_sl, gZip_tt, gZip_ll, gZip_lt, gZip_tl, dFn, dFn0, dFnK, lFn, dFnV, valD, tYesD, eqOk_ii, eqOk_bb, eqOk_ss, eqv_int, eqv_str, eqv_bool, noLst, noLstAll, List.map_cons, List.map_nil, Option.map_some, Option.map_none,
  List.getElem?_cons_zero, List.getElem?_cons_succ, List.set_cons_zero, List.set_cons_succ, true_and, and_true, decide_eq_true_eq, decide_eq_false_iff_not, Bool.not_eq_true', Bool.not_eq_false', beq_iff_eq, beq_eq_false_iff_ne, Bool.true_eq_false, Bool.false_eq_true, false_imp_iff, true_imp_iff, forall_const, reduceCtorEq, ne_eq, not_true_eq_false, not_false_eq_true, Bool.not_true, Bool.not_false, Bool.true_and, Bool.and_true, Bool.false_and, Bool.and_false, Int.reduceToNat, Int.cast_ofNat_Int, eq_self, isTy_none_int, isTy_none_bool, isTy_none_str, isTy_none_list, isTy_none_tuple, isTy_bool_int, isTy_bool_bool, isTy_bool_str, isTy_bool_list, isTy_bool_tuple, isTy_int_int, isTy_int_bool, isTy_int_str, isTy_int_list, isTy_int_tuple, isTy_str_int, isTy_str_bool, isTy_str_str, isTy_str_list, isTy_str_tuple, isTy_list_int, isTy_list_bool, isTy_list_str, isTy_list_list, isTy_list_tuple, isTy_tuple_int, isTy_tuple_bool, isTy_tuple_str, isTy_tuple_list, isTy_tuple_tuple, List.length_cons, List.length_nil, Nat.reduceAdd, Nat.zero_add, ix2_0, ix2_1,
  gIx_l0, gIx_t0, gIx_l1, gIx_t1, gIx_l2, gIx_t2, gIx_l3, gIx_t3, gIx_l4, gIx_t4, gIx_l5, gIx_t5, gIx_l6, gIx_t6, gIx_l7, gIx_t7, gIx_l8, gIx_t8, gIx_l9, gIx_t9, gIx_l10, gIx_t10, gIx_l11, gIx_t11, gIx_l12, gIx_t12, gIx_l13, gIx_t13, gIx_l14, gIx_t14, gIx_l15, gIx_t15])
section
variable {P : Program} {w : World} {K : Frag} {mg : Str → Option Value} {base : Heap}
open TV PM GP
theorem rwl_snoc {n : Nat} {T : List Pm} {f : Pm → Int} (n2 : n ≤ 64) (hT : AllP n T) (lT : T.length ≤ 400) (hf : ∀ p ∈ T, (f p).natAbs < 200) : RwL (T.map fun p => nk p ++ [f p]) := ⟨by rw [List.length_map]; exact lT, fun k hk => by
  obtain ⟨p, hp, rfl⟩ := List.mem_map.mp hk
  have pp := hT p hp
  refine ⟨by simp [nk, pp.len]; omega, fun x hx => ?_⟩
  rcases List.mem_append.mp hx with q | q
  · exact ((rwl_nk n2 hT lT).row (nk p) (List.mem_map_of_mem hp)).2 x q
  · rw [List.mem_singleton.mp q]; exact Nat.lt_of_lt_of_le (hf p hp) (by decide)⟩
theorem snocD (p : Pm) (x : Int) : PyData.tuple (inN p ++ [PyData.int x]) = tI (nk p ++ [x]) := by
  unfold tI
  rw [inN_nk, List.map_append]
  rfl
theorem tL_nk (U : List Pm) : tL U = .list ((U.map nk).map tI) := by unfold tL; rw [nkT]
def rowD (b0 b1 b2 b3 b4 : Nat) : D := .list [.int b0, .int b1, .int b2, .int b3, .int b4]
abbrev s__law_spoilt_more : Stmt := topS 30
theorem sc__law_spoilt_more : FnScope ["kind", "table", "size", "row", "rows", "one", "two", "spot", "place", "way", "swapped", "member"] ["kind", "table", "size", "row"] (defScope s__law_spoilt_more) := ⟨rfl, rfl, rfl, by decide +kernel, rfl, by decide +kernel, by decide +kernel⟩
def f__law_spoilt_more : FD := fun ds q => ∃ (kd n b0 b1 b2 b3 b4 : Nat) (U : List Pm), ds = [.int kd, tL U, .int n, .list [.int b0, .int b1, .int b2, .int b3, .int b4]] ∧ 10 ≤ kd ∧ 1 ≤ n ∧ n ≤ 64 ∧ b0 < 128 ∧ b1 < 128 ∧ b2 < 64 ∧ b3 < 64 ∧ AllP n U ∧ 1 ≤ U.length ∧ U.length ≤ 128 ∧ ∀ (L : List (List Int)) (m : Nat), RwL L → 1 ≤ m → m ≤ 64 → q (.own [.list (L.map tI), .int m])
theorem ok__law_spoilt_more {f fd} {k : Nat} (F : Fun K "_law_spoilt_more" "_law_spoilt_more" s__law_spoilt_more f fd) (hdg : base.NoDigits) (m_int : mg "int" = none) (m_len : mg "len" = none) (m_list : mg "list" = none) (m_max : mg "max" = none) (r__law_swapped : Ready P w K mg base "_law_swapped" 3 k f__law_swapped) (r__law_once : Ready P w K mg base "_law_once" 1 k f__law_once) (r__law_compose : Ready P w K mg base "_law_compose" 2 k f__law_compose) (r__law_powers : Ready P w K mg base "_law_powers" 2 k f__law_powers) : FnG P w K mg base (k + 1) f fd ["kind", "table", "size", "row"] (SpD K 4 f__law_spoilt_more) := by
  refine fnD F sc__law_spoilt_more fun cdv A outer s H E gA hr => ?_
  have hu := hr.units
  have nd := sc__law_spoilt_more.nd
  refine ⟨_, (ss_cons (st_set (i := 4) nd (DLs.toE (dl_T c_list m_list (ab_cons (bv 1) ab_nil))))
    (ss_cons (st_set (i := 5) nd (de_ix x_ix (bv 4) (DE.toB (de_op o_mod (DE.toB (de_T c_int m_int (ab_cons (DE.toB (de_ix x_ix (bv 3) (DE.toB de_int))) ab_nil))) (DE.toB (de_B c_len m_len (ab_cons (bv 4) ab_nil)))))))
    (ss_cons (st_set (i := 6) nd (de_ix x_ix (bv 4) (DE.toB (de_op o_mod (DE.toB (de_T c_int m_int (ab_cons (DE.toB (de_ix x_ix (bv 3) (DE.toB de_int))) ab_nil))) (DE.toB (de_B c_len m_len (ab_cons (bv 4) ab_nil)))))))
    (ss_cons (st_set (i := 7) nd (de_op o_mod (DE.toB (de_T c_int m_int (ab_cons (DE.toB (de_ix x_ix (bv 3) (DE.toB de_int))) ab_nil))) (bv 2)))
    (ss_cons (st_set (i := 8) nd (de_op o_mod (DE.toB (de_T c_int m_int (ab_cons (DE.toB (de_ix x_ix (bv 3) (DE.toB de_int))) ab_nil))) (bv 2)))
    (ss_cons (st_set (i := 9) nd (dv 0))
    (ss_cons (st_if (DW.pt (dw_and (dt_cmp (o_eq hu) (bv 2) (DE.toB de_int)) (dw_and1 (dt_cmp o_lt (bv 0) (DE.toB de_int))))) (ss_one (st_set (i := 9) nd (de_op o_add (bv 0) (DE.toB de_int)))) ss_nil)
    (ss_cons (st_if (dt_cmp (o_eq hu) (bv 9) (DE.toB de_int)) (ss_one (st_retL (dl_lst (da_cons (DLs.toE (dl_lc (own := [("member", 11)]) nd (i_seqC (bv 4)) (gw_name (i := 11) nd) dts_nil (fun _ _ _ _ _ => (de_op o_add (bv 11) (DE.toB (de_tup (da_cons (de_ix x_ix (bv 11) (DE.toB de_int)) da_nil))))))) (da_cons (de_op o_add (bv 2) (DE.toB de_int)) da_nil))))) ss_nil)
    (ss_cons (st_if (dt_cmp (o_eq hu) (bv 9) (DE.toB de_int)) (ss_one (st_retL (dl_lst (da_cons (DLs.toE (dl_lc (own := [("member", 11)]) nd (i_seqC (bv 4)) (gw_name (i := 11) nd) dts_nil (fun _ _ _ _ _ => (de_op o_add (bv 11) (DE.toB (de_tup (da_cons (de_un u_neg (DE.toB de_int)) da_nil))))))) (da_cons (de_op o_add (bv 2) (DE.toB de_int)) da_nil))))) ss_nil)
    (ss_cons (st_if (dt_cmp (o_eq hu) (bv 9) (DE.toB de_int)) (ss_one (st_retL (dl_lst (da_cons (dv 4) (da_cons (de_op o_add (bv 2) (DE.toB de_int)) da_nil))))) ss_nil)
    (ss_cons (st_if (dt_cmp (o_eq hu) (bv 9) (DE.toB de_int)) (ss_one (st_retL (dl_lst (da_cons (dv 4) (da_cons (de_B c_max2 m_max (ab_cons (DE.toB de_int) (ab_cons (DE.toB (de_op o_sub (bv 2) (DE.toB de_int))) ab_nil))) da_nil))))) ss_nil)
    (ss_cons (st_if (dt_cmp (o_eq hu) (bv 9) (DE.toB de_int)) (ss_one (st_retL (dl_lst (da_cons (DLs.toE (dl_lst da_nil)) (da_cons (dv 2) da_nil))))) ss_nil)
    (ss_cons (st_if (dt_cmp (o_eq hu) (bv 9) (DE.toB de_int)) (ss_cons (st_set (i := 10) nd (r__law_swapped.toE gA hr (da_cons (dv 5) (da_cons (dv 7) (da_cons (dv 8) da_nil)))))
    (ss_one (st_retL (dl_lst (da_cons (r__law_once.toE gA hr (da_cons (de_op o_add (DE.toB (DLs.toE (dl_lc (own := [("member", 11)]) nd (i_seqC (bv 4)) (gw_name (i := 11) nd) (dts_one fun _ _ _ _ _ => (dt_cmp (o_ne hu) (bv 11) (bv 5))) (fun _ _ _ _ _ => (dv 11))))) (DE.toB (DLs.toE (dl_lst (da_cons (dv 10) da_nil))))) da_nil)) (da_cons (dv 2) da_nil)))))) ss_nil)
    (ss_cons (st_if (dt_cmp (o_eq hu) (bv 9) (DE.toB de_int)) (ss_one (st_retL (dl_lst (da_cons (r__law_once.toE gA hr (da_cons (DLs.toE (dl_lc (own := [("member", 11)]) nd (i_seqC (bv 4)) (gw_name (i := 11) nd) dts_nil (fun _ _ _ _ _ => (r__law_compose.toE gA hr (da_cons (r__law_swapped.toE gA hr (da_cons (dv 5) (da_cons (dv 7) (da_cons (dv 8) da_nil)))) (da_cons (dv 11) da_nil)))))) da_nil)) (da_cons (dv 2) da_nil))))) ss_nil)
    (ss_cons (st_if (dt_cmp (o_eq hu) (bv 9) (DE.toB de_int)) (ss_one (st_retL (dl_lst (da_cons (r__law_once.toE gA hr (da_cons (de_op o_add (bv 4) (DE.toB (DLs.toE (dl_lst (da_cons (r__law_swapped.toE gA hr (da_cons (dv 5) (da_cons (dv 7) (da_cons (dv 8) da_nil)))) da_nil))))) da_nil)) (da_cons (dv 2) da_nil))))) ss_nil)
    (ss_cons (st_if (dt_cmp (o_eq hu) (bv 9) (DE.toB de_int)) (ss_one (st_retL (dl_lst (da_cons (r__law_once.toE gA hr (da_cons (de_op o_add (DE.toB (r__law_powers.toE gA hr (da_cons (dv 2) (da_cons (dv 5) da_nil)))) (DE.toB (r__law_powers.toE gA hr (da_cons (dv 2) (da_cons (dv 6) da_nil))))) da_nil)) (da_cons (dv 2) da_nil))))) ss_nil)
    (ss_one (st_retL (dl_lst (da_cons (r__law_once.toE gA hr (da_cons (DLs.toE (dl_lc (own := [("member", 11)]) nd (i_seqC (bv 4)) (gw_name (i := 11) nd) dts_nil (fun _ _ _ _ _ => (r__law_compose.toE gA hr (da_cons (dv 11) (da_cons (dv 11) da_nil)))))) da_nil)) (da_cons (dv 2) da_nil))))))))))))))))))))), ?_⟩
  clear F nd hu hr gA E H s outer A cdv hdg m_int m_len m_list m_max r__law_swapped r__law_once r__law_compose r__law_powers
  intro ds q hl hg
  obtain ⟨kd, n, b0, b1, b2, b3, b4, U, rfl, hkd, n1, n2, h0, h1, h2, h3, hU, u1, u2, hq⟩ := hg
  show sSeq _ _ _ [some (.val (.int kd)), some (.val (tL U)), some (.val (.int n)), some (.val (.list [.int b0, .int b1, .int b2, .int b3, .int b4])), none, none, none, none, none, none, none, none]
  refine sq_i fun k hk => ?_
  walk_at "rd"
  subst hk
  refine sq_i fun k hk => ?_
  walk_at "rd"
  rw [List.length_map, fmodN]
  obtain ⟨pa, hpa⟩ : ∃ p, U[b0 % U.length]? = some p := ⟨_, List.getElem?_eq_getElem (Nat.mod_lt _ (by omega))⟩
  have pP := hU pa (List.mem_of_getElem? hpa)
  refine ⟨by omega, gIx_N (by rw [List.getElem?_map, hpa]; rfl) ?_⟩
  subst hk
  refine sq_i fun k hk => ?_
  walk_at "rd"
  rw [List.length_map, fmodN]
  obtain ⟨po, hpo⟩ : ∃ p, U[b1 % U.length]? = some p := ⟨_, List.getElem?_eq_getElem (Nat.mod_lt _ (by omega))⟩
  have pO := hU po (List.mem_of_getElem? hpo)
  refine ⟨by omega, gIx_N (by rw [List.getElem?_map, hpo]; rfl) ?_⟩
  subst hk
  refine sq_i fun k hk => ?_
  walk_at "rd"
  rw [fmodN]
  refine ⟨by omega, ?_⟩
  have lp := Nat.mod_lt b2 (show 0 < n by omega)
  generalize b2 % n = sp at lp ⊢
  subst hk
  refine sq_i fun k hk => ?_
  walk_at "rd"
  rw [fmodN]
  refine ⟨by omega, ?_⟩
  have ll := Nat.mod_lt b3 (show 0 < n by omega)
  generalize b3 % n = pl at ll ⊢
  subst hk
  refine sq_i fun k hk => ?_
  walk_at "rd"
  have sw := swp_isP pP lp ll
  have onc : ∀ (T : List Pm) (q : DV → Prop), AllP n T → T.length ≤ 400 → (∀ L, RwL L → q (.own (L.map tI))) → f__law_once [.list (T.map tN)] q := fun T q hT lT hq => ⟨n, T, rfl, n1, n2, hT, lT, fun S hS lS => by
    rw [nkT]
    exact hq _ (rwl_nk n2 hS (by omega))⟩
  have swD : ∀ q : DV → Prop, q (.val (tN (swp pa sp pl))) → f__law_swapped [tN pa, .int sp, .int pl] q := fun q hq => ⟨n, pa, sp, pl, rfl, pP, lp, ll, n2, hq⟩
  subst hk
  refine sj_r (fun σ => ∃ w : Nat, σ = [some (.val (.int kd)), some (.val (tL U)), some (.val (.int n)), some (.val (.list [.int b0, .int b1, .int b2, .int b3, .int b4])), some (.val (tL U)), some (.val (tN pa)), some (.val (tN po)), some (.val (.int (sp : Nat))), some (.val (.int (pl : Nat))), some (.val (.int (w : Nat))), none, none] ∧ (w < 13 → n < 64)) ?_ fun k hk => if_n fun T hT => ?_
  rotate_left
  · have no : ¬ (n = 64 ∧ kd < 13) → k [some (.val (.int kd)), some (.val (tL U)), some (.val (.int n)), some (.val (.list [.int b0, .int b1, .int b2, .int b3, .int b4])), some (.val (tL U)), some (.val (tN pa)), some (.val (tN po)), some (.val (.int (sp : Nat))), some (.val (.int (pl : Nat))), some (.val (.int (kd : Nat))), none, none] := fun z => hk _ ⟨kd, rfl, fun z2 => by omega⟩
    walk_at "rd"
    refine ⟨fun h => ⟨fun h' => ?_, fun h' => no (by omega)⟩, fun h => no (by omega)⟩
    subst hT
    walk_at "rd"
    exact hk _ ⟨kd + 5, rfl, fun z => by omega⟩
  rintro _ ⟨w, rfl, hw⟩
  refine sq_i fun k hk => if_n fun T hT => ?_
  walk_at "rd"
  refine ⟨fun h => ?_, fun h10 => ?_⟩
  · subst hT
    walk_at "rd"
    refine ⟨fit_len (by first | omega | (simp; omega)), lc_f (emb := tN) (fun m => tI (nk m ++ [(PM.g m 0 : Int)])) U ?_ fun m hm q Z hq => ?_⟩
    · rw [show U.map (fun m => tI (nk m ++ [(PM.g m 0 : Int)])) = (U.map fun m => nk m ++ [(PM.g m 0 : Int)]).map tI by rw [List.map_map]; rfl]
      exact hq _ (n + 1) (rwl_snoc n2 hU (by omega) fun p hp => by have := (hU p hp).lt 0 (by omega); omega) (by omega) (by have := hw (by omega); omega)
    · have pm := hU m hm
      walk_at "rd"
      refine ixP (j := 0) rfl (by rw [pm.len]; omega) ⟨fit_len (by rw [inN_len, pm.len]; omega), ?_⟩
      rw [snocD]
      exact hq
  clear hT T
  subst hk
  refine sq_i fun k hk => if_n fun T hT => ?_
  walk_at "rd"
  refine ⟨fun h => ?_, fun h11 => ?_⟩
  · subst hT
    walk_at "rd"
    refine ⟨fit_len (by first | omega | (simp; omega)), lc_f (emb := tN) (fun m => tI (nk m ++ [-1])) U ?_ fun m hm q Z hq => ?_⟩
    · rw [show U.map (fun m => tI (nk m ++ [-1])) = (U.map fun m => nk m ++ [-1]).map tI by rw [List.map_map]; rfl]
      exact hq _ (n + 1) (rwl_snoc (f := fun _ => -1) n2 hU (by omega) fun p hp => by decide) (by omega) (by have := hw (by omega); omega)
    · have pm := hU m hm
      walk_at "rd"
      refine ⟨fit_len (by rw [inN_len, pm.len]; omega), ?_⟩
      rw [snocD]
      exact hq
  clear hT T
  subst hk
  refine sq_i fun k hk => if_n fun T hT => ?_
  walk_at "rd"
  refine ⟨fun h => ?_, fun h12 => ?_⟩
  · subst hT
    walk_at "rd"
    rw [tL_nk]
    exact hq _ (n + 1) (rwl_nk n2 hU (by omega)) (by omega) (by have := hw (by omega); omega)
  clear hT T
  subst hk
  refine sq_i fun k hk => if_n fun T hT => ?_
  walk_at "rd"
  refine ⟨fun h => ?_, fun h13 => ?_⟩
  · subst hT
    walk_at "rd"
    rw [tL_nk]
    obtain ⟨m', em, m1, m2⟩ : ∃ m' : Nat, (if (n : Int) - 1 > 1 then (n : Int) - 1 else 1) = (m' : Int) ∧ 1 ≤ m' ∧ m' ≤ 64 := by
      refine ⟨(if (n : Int) - 1 > 1 then (n : Int) - 1 else 1).toNat, ?_, ?_, ?_⟩ <;> split <;> omega
    rw [em]
    exact hq _ m' (rwl_nk n2 hU (by omega)) m1 m2
  clear hT T
  subst hk
  refine sq_i fun k hk => if_n fun T hT => ?_
  walk_at "rd"
  refine ⟨fun h => ?_, fun h14 => ?_⟩
  · subst hT
    walk_at "rd"
    exact hq [] n ⟨by simp, fun k hk => by simp at hk⟩ n1 n2
  clear hT T
  subst hk
  refine sq_i fun k hk => if_n fun T hT => ?_
  walk_at "rd"
  refine ⟨fun h => ?_, fun h15 => ?_⟩
  · subst hT
    refine sq_i fun k hk => ?_
    walk_at "rd"
    refine swD _ ?_
    walk_at "rd"
    subst hk
    walk_at "rd"
    refine ⟨fit_len (by first | omega | (simp; omega)), lc_p (emb := tN) (fun m => !decide (m = pa)) tN U ?_ fun m hm q Z h1 h2 => ?_⟩
    · have lf := List.length_filter_le (fun m => !decide (m = pa)) U
      refine ⟨fit_len (by first | omega | (simp; omega)), ?_⟩
      rw [show ∀ F : List Pm, F.map tN ++ [tN (swp pa sp pl)] = (F ++ [swp pa sp pl]).map tN from fun F => by rw [List.map_append]; rfl]
      refine onc _ _ (AllP.app (fun x hx => hU x (List.mem_filter.mp hx).1) fun x hx => by rw [List.mem_singleton.mp hx]; exact sw) (by rw [List.length_append, List.length_singleton]; omega) fun L hL => ?_
      walk_at "rd"
      exact hq L n hL n1 n2
    · walk_at "rd"
      refine ⟨eqOk_tN2 _ _, ?_⟩
      rw [eqv_tN]
      exact ⟨fun c => h1 (by rw [c]; rfl), fun c => h2 (by rw [c]; rfl)⟩
  clear hT T
  subst hk
  refine sq_i fun k hk => if_n fun T hT => ?_
  walk_at "rd"
  refine ⟨fun h => ?_, fun h16 => ?_⟩
  · subst hT
    walk_at "rd"
    refine ⟨fit_len (by first | omega | (simp; omega)), lc_f (emb := tN) (fun m => tN (cmp (swp pa sp pl) m)) U ?_ fun m hm q Z hq => ?_⟩
    · rw [show U.map (fun m => tN (cmp (swp pa sp pl) m)) = (U.map fun m => cmp (swp pa sp pl) m).map tN by rw [List.map_map]; rfl]
      refine onc _ _ (fun x hx => by
        obtain ⟨y, hy, rfl⟩ := List.mem_map.mp hx
        exact IsP.cmp sw (hU y hy)) (by rw [List.length_map]; omega) fun L hL => ?_
      walk_at "rd"
      exact hq L n hL n1 n2
    · have pm := hU m hm
      walk_at "rd"
      refine swD _ ?_
      walk_at "rd"
      exact ⟨true, true, swp pa sp pl, m, rfl, fun y hy => by rw [sw.len]; exact isP_mem' pm y hy, by rw [pm.len]; omega, hq⟩
  clear hT T
  subst hk
  refine sq_i fun k hk => if_n fun T hT => ?_
  walk_at "rd"
  refine ⟨fun h => ?_, fun h17 => ?_⟩
  · subst hT
    walk_at "rd"
    refine swD _ ?_
    walk_at "rd"
    refine ⟨fit_len (by first | omega | (simp; omega)), ?_⟩
    rw [show ∀ F : List Pm, F.map tN ++ [tN (swp pa sp pl)] = (F ++ [swp pa sp pl]).map tN from fun F => by rw [List.map_append]; rfl]
    refine onc _ _ (hU.app fun x hx => by rw [List.mem_singleton.mp hx]; exact sw) (by rw [List.length_append, List.length_singleton]; omega) fun L hL => ?_
    walk_at "rd"
    exact hq L n hL n1 n2
  clear hT T
  subst hk
  refine sq_i fun k hk => if_n fun T hT => ?_
  walk_at "rd"
  refine ⟨fun h => ?_, fun h18 => ?_⟩
  · subst hT
    walk_at "rd"
    refine ⟨n, pa, rfl, n1, n2, pP, fun T1 hT1 l1 => ⟨n, po, rfl, n1, n2, pO, fun T2 hT2 l2 => ?_⟩⟩
    walk_at "rd"
    refine ⟨fit_len (by first | omega | (simp; omega)), ?_⟩
    rw [← List.map_append]
    refine onc _ _ (hT1.app hT2) (by rw [List.length_append]; omega) fun L hL => ?_
    walk_at "rd"
    exact hq L n hL n1 n2
  clear hT T
  subst hk
  walk_at "rd"
  refine ⟨fit_len (by first | omega | (simp; omega)), lc_f (emb := tN) (fun m => tN (cmp m m)) U ?_ fun m hm q Z hq => ?_⟩
  · rw [show U.map (fun m => tN (cmp m m)) = (U.map fun m => cmp m m).map tN by rw [List.map_map]; rfl]
    refine onc _ _ (fun x hx => by
      obtain ⟨y, hy, rfl⟩ := List.mem_map.mp hx
      exact IsP.cmp (hU y hy) (hU y hy)) (by rw [List.length_map]; omega) fun L hL => ?_
    walk_at "rd"
    exact hq L n hL n1 n2
  · have pm := hU m hm
    walk_at "rd"
    exact ⟨true, true, m, m, rfl, fun y hy => by rw [pm.len]; exact isP_mem' pm y hy, by rw [pm.len]; omega, hq⟩

end
end K43

namespace K43
open PySem PySem.Spec PyProof.Rows L2 DL Builtin.Int
local macro_rules | `(tactic| walk_at "rd") => `(tactic| simp -failIfUnchanged only [sSet, sSetL, sRet, sRetL, sRetO, sRetN, sNext, sBreak, sCont, sDrop, sApp, sAug, sAsg, sPar, sSetI, sPop, sSetPop, sAppPop, dTupRg, sRev, sFrz, frz1, iSeq, iRevD, iRange1, iRange2, iRangeD, rName, rTup, rTL_sq, gMulS_s, gStr1_i, rTL_t, rTL_l, rCons, rNil,
  dLst, dView, tView, lView, view, look, dVar, bVar, dC, d2, d1, l2, tBool, dNil, dCons, dTup, gI, gSubI, gMulI, gFdiv, gMod, gPow, gShl, gShr, gAnd, gXor, gLt, gLe, gGt, gGe, gAdd, gEq, gNe, isNone, gIs, gIsNot, gNeg, lCat, gLen_l, gLen_t, gLen_s, gInt, gAbs, gMax2, gMin2, gTuple_l, gTuple_t, lList_l, lList_t, gGcd, gIsqrt, dCall, lCall, dIsi, dIsi2,
  tAndD, tOrD, tNotD, tTru, truD, dAndV, dOrV, dNotV, dIf, dBits, wipeD, twoD, lComp, oNone, oSome, dSl, lSl, gSl_l, gSl_t, gSl_sq, gSq_l, gSq_t, gSq_sq, lRepL, sNever, dKIn, dKGet, gOr, dCount, dIndex, sSetTk, lTk0, lTk1, lTkc, tTkIn, dTkIn, dTkGet, sTkPut, tInD, lSortSc, sIns, lLstRg, sPopI, gIx_sq, gLen_sq, gTuple_sq, lList_sq, iZipD, gZip_sq, gZip_ts, gZip_st, gZip_ls, gZip_sl, gZip_tt, gZip_ll, gZip_lt, gZip_tl, dFn, dFn0, dFnK, lFn, dFnV, valD, tYesD, eqOk_ii, eqOk_bb, eqOk_ss, eqv_int, eqv_str, eqv_bool, noLst, noLstAll, List.map_cons, List.map_nil, Option.map_some, Option.map_none,
  List.getElem?_cons_zero, List.getElem?_cons_succ, List.set_cons_zero, List.set_cons_succ, true_and, and_true, decide_eq_true_eq, decide_eq_false_iff_not, Bool.not_eq_true', Bool.not_eq_false', beq_iff_eq, beq_eq_false_iff_ne, Bool.true_eq_false, Bool.false_eq_true, false_imp_iff, true_imp_iff, forall_const, reduceCtorEq, ne_eq, not_true_eq_false, not_false_eq_true, Bool.not_true, Bool.not_false, Bool.true_and, Bool.and_true, Bool.false_and, Bool.and_false, Int.reduceToNat, Int.cast_ofNat_Int, eq_self, isTy_none_int, isTy_none_bool, isTy_none_str, isTy_none_list, isTy_none_tuple, isTy_bool_int, isTy_bool_bool, isTy_bool_str, isTy_bool_list, isTy_bool_tuple, isTy_int_int, isTy_int_bool, isTy_int_str, isTy_int_list, isTy_int_tuple, isTy_str_int, isTy_str_bool, isTy_str_str, isTy_str_list, isTy_str_tuple, isTy_list_int, isTy_list_bool, isTy_list_str, isTy_list_list, isTy_list_tuple, isTy_tuple_int, isTy_tuple_bool, isTy_tuple_str, isTy_tuple_list, isTy_tuple_tuple, List.length_cons, List.length_nil, Nat.reduceAdd, Nat.zero_add, ix2_0, ix2_1,
  gIx_l0, gIx_t0, gIx_l1, gIx_t1, gIx_l2, gIx_t2, gIx_l3, gIx_t3, gIx_l4, gIx_t4, gIx_l5, gIx_t5, gIx_l6, gIx_t6, gIx_l7, gIx_t7, gIx_l8, gIx_t8, gIx_l9, gIx_t9, gIx_l10, gIx_t10, gIx_l11, gIx_t11, gIx_l12, gIx_t12, gIx_l13, gIx_t13, gIx_l14, gIx_t14, gIx_l15, gIx_t15])
section
variable {P : Program} {w : World} {K : Frag} {mg : Str → Option Value} {base : Heap}
open TV PM GP
abbrev s__law_right : Stmt := topS 31
theorem sc__law_right : FnScope ["kind", "table", "size", "row", "one", "spot", "names", "member", "k"] ["kind", "table", "size", "row"] (defScope s__law_right) := ⟨rfl, rfl, rfl, by decide +kernel, rfl, by decide +kernel, by decide +kernel⟩
def f__law_right : FD := fun ds q => ∃ (kd n b0 b1 b2 b3 b4 : Nat) (U : List Pm), ds = [.int kd, tL U, .int n, .list [.int b0, .int b1, .int b2, .int b3, .int b4]] ∧ 1 ≤ n ∧ n ≤ 64 ∧ b0 < 128 ∧ b1 < 128 ∧ b2 < 64 ∧ b3 < 64 ∧ AllP n U ∧ 1 ≤ U.length ∧ U.length ≤ 128 ∧ ∀ (L : List (List Int)) (m : Nat), RwL L → 1 ≤ m → m ≤ 64 → q (.own [.list (L.map tI), .int m])
theorem ok__law_right {f fd} {k : Nat} (F : Fun K "_law_right" "_law_right" s__law_right f fd) (hdg : base.NoDigits) (m_int : mg "int" = none) (m_len : mg "len" = none) (m_range : mg "range" = none) (m_sorted : mg "sorted" = none) (m_tuple : mg "tuple" = none) (r__law_powers : Ready P w K mg base "_law_powers" 2 k f__law_powers) (r__law_swapped : Ready P w K mg base "_law_swapped" 3 k f__law_swapped) (r__law_renumbered : Ready P w K mg base "_law_renumbered" 2 k f__law_renumbered) : FnG P w K mg base (k + 1) f fd ["kind", "table", "size", "row"] (SpD K 4 f__law_right) := by
  refine fnD F sc__law_right fun cdv A outer s H E gA hr => ?_
  have hu := hr.units
  have nd := sc__law_right.nd
  refine ⟨_, (ss_cons (st_set (i := 4) nd (de_ix x_ix (bv 1) (DE.toB (de_op o_mod (DE.toB (de_T c_int m_int (ab_cons (DE.toB (de_ix x_ix (bv 3) (DE.toB de_int))) ab_nil))) (DE.toB (de_B c_len m_len (ab_cons (bv 1) ab_nil)))))))
    (ss_cons (st_set (i := 5) nd (de_op o_mod (DE.toB (de_T c_int m_int (ab_cons (DE.toB (de_ix x_ix (bv 3) (DE.toB de_int))) ab_nil))) (bv 2)))
    (ss_cons (st_if (dt_cmp (o_eq hu) (bv 0) (DE.toB de_int)) (ss_one (st_retL (dl_lst (da_cons (DLs.toE (dl_lc (own := [("member", 7)]) nd (i_seqC (bv 1)) (gw_name (i := 7) nd) (dts_one fun _ _ _ _ _ => (dt_cmp (o_eq hu) (DE.toB (de_ix x_ix (bv 7) (bv 5))) (bv 5))) (fun _ _ _ _ _ => (dv 7)))) (da_cons (dv 2) da_nil))))) ss_nil)
    (ss_cons (st_if (dt_cmp (o_eq hu) (bv 0) (DE.toB de_int)) (ss_one (st_retL (dl_lst (da_cons (r__law_powers.toE gA hr (da_cons (dv 2) (da_cons (dv 4) da_nil))) (da_cons (dv 2) da_nil))))) ss_nil)
    (ss_cons (st_if (dt_cmp (o_eq hu) (bv 0) (DE.toB de_int)) (ss_one (st_retL (dl_lst (da_cons (DLs.toE (dl_lst (da_cons (de_T c_tuple m_tuple (ab_cons (DE.toB (DLs.toE (dl_lc (own := [("k", 8)]) nd (DI.c (i_range1 (dv 2) m_range)) (gw_name (i := 8) nd) dts_nil (fun _ _ _ _ _ => (dv 8))))) ab_nil)) da_nil))) (da_cons (dv 2) da_nil))))) ss_nil)
    (ss_cons (st_if (DW.pt (dw_and (dt_cmp (o_eq hu) (bv 0) (DE.toB de_int)) (dw_and1 (dt_cmp o_lt (bv 2) (DE.toB de_int))))) (ss_one (st_retL (dl_lst (da_cons (DLs.toE (dl_lc (own := [("member", 7)]) nd (i_seqC (bv 1)) (gw_name (i := 7) nd) dts_nil (fun _ _ _ _ _ => (de_op o_add (bv 7) (DE.toB (de_tup (da_cons (dv 2) da_nil))))))) (da_cons (de_op o_add (bv 2) (DE.toB de_int)) da_nil))))) ss_nil)
    (ss_cons (st_set (i := 6) nd (r__law_swapped.toE gA hr (da_cons (de_T c_tuple m_tuple (ab_cons (DE.toB (DLs.toE (dl_lc (own := [("k", 8)]) nd (DI.c (i_range1 (dv 2) m_range)) (gw_name (i := 8) nd) dts_nil (fun _ _ _ _ _ => (dv 8))))) ab_nil)) (da_cons (dv 5) (da_cons (de_op o_mod (DE.toB (de_T c_int m_int (ab_cons (DE.toB (de_ix x_ix (bv 3) (DE.toB de_int))) ab_nil))) (bv 2)) da_nil)))))
    (ss_one (st_retL (dl_lst (da_cons (DLs.toE (dl_B c_sortedT m_sorted (ab_cons (DE.toB (DLs.toE (dl_lc (own := [("member", 7)]) nd (i_seqC (bv 1)) (gw_name (i := 7) nd) dts_nil (fun _ _ _ _ _ => (r__law_renumbered.toE gA hr (da_cons (dv 7) (da_cons (dv 6) da_nil))))))) ab_nil))) (da_cons (dv 2) da_nil)))))))))))), ?_⟩
  clear F nd hu hr gA E H s outer A cdv hdg m_int m_len m_range m_sorted m_tuple r__law_powers r__law_swapped r__law_renumbered
  intro ds q hl hg
  obtain ⟨kd, n, b0, b1, b2, b3, b4, U, rfl, n1, n2, h0, h1, h2, h3, hU, u1, u2, hq⟩ := hg
  show sSeq _ _ _ [some (.val (.int kd)), some (.val (tL U)), some (.val (.int n)), some (.val (.list [.int b0, .int b1, .int b2, .int b3, .int b4])), none, none, none, none, none]
  refine sq_i fun k hk => ?_
  walk_at "rd"
  rw [List.length_map, fmodN]
  obtain ⟨pa, hpa⟩ : ∃ p, U[b0 % U.length]? = some p := ⟨_, List.getElem?_eq_getElem (Nat.mod_lt _ (by omega))⟩
  have pP := hU pa (List.mem_of_getElem? hpa)
  refine ⟨by omega, gIx_N (by rw [List.getElem?_map, hpa]; rfl) ?_⟩
  subst hk
  refine sq_i fun k hk => ?_
  walk_at "rd"
  rw [fmodN]
  refine ⟨by omega, ?_⟩
  have lp := Nat.mod_lt b2 (show 0 < n by omega)
  generalize b2 % n = sp at lp ⊢
  subst hk
  refine sq_i fun k hk => if_n fun T hT => ?_
  walk_at "rd"
  refine ⟨fun h => ?_, fun hh0 => ?_⟩
  · subst hT
    walk_at "rd"
    refine ⟨fit_len (by first | omega | (simp; omega)), lc_p (emb := tN) (fun m => PM.g m sp == sp) tN U ?_ fun m hm q Z h1 h2 => ?_⟩
    · rw [nkT]
      exact hq _ n (rwl_nk n2 (fun x hx => hU x (List.mem_filter.mp hx).1) (Nat.le_trans (List.length_filter_le _ _) (by omega))) n1 n2
    · walk_at "rd"
      refine ixP rfl (by rw [(hU m hm).len]; exact lp) ?_
      walk_at "rd"
      refine ⟨fun h => h1 ?_, fun h => h2 ?_⟩
      · have : PM.g m sp = sp := by omega
        rw [this]; exact beq_self_eq_true sp
      · exact beq_eq_false_iff_ne.mpr (by omega)
  clear hT T
  subst hk
  refine sq_i fun k hk => if_n fun T hT => ?_
  walk_at "rd"
  refine ⟨fun h => ?_, fun hh1 => ?_⟩
  · subst hT
    walk_at "rd"
    refine ⟨n, pa, rfl, n1, n2, pP, fun T1 hT1 l1 => ?_⟩
    walk_at "rd"
    rw [nkT]
    exact hq _ n (rwl_nk n2 hT1 (by omega)) n1 n2
  clear hT T
  subst hk
  refine sq_i fun k hk => if_n fun T hT => ?_
  walk_at "rd"
  refine ⟨fun h => ?_, fun hh2 => ?_⟩
  · subst hT
    walk_at "rd"
    refine ⟨Rng.of (by omega) (by omega), ?_⟩
    rw [Int.toNat_natCast]
    refine ⟨fit_len (by rw [upTo_length]; omega), lc_up (fun i => .int (i : Nat)) n ?_ fun i hi q Z hq => by walk_at "rd"; exact hq⟩
    rw [inN_range]
    have := hq ([List.range n].map nk) n (rwl_nk n2 (fun x hx => by rw [List.mem_singleton.mp hx]; exact isP_range n) (by simp)) n1 n2
    rw [← nkT] at this
    exact this
  clear hT T
  subst hk
  refine sq_i fun k hk => if_n fun T hT => ?_
  have last : k [some (.val (.int kd)), some (.val (tL U)), some (.val (.int n)), some (.val (.list [.int b0, .int b1, .int b2, .int b3, .int b4])), some (.val (tN pa)), some (.val (.int (sp : Nat))), none, none, none] := by
    subst hk
    refine sq_i fun k hk => ?_
    walk_at "rd"
    refine ⟨Rng.of (by omega) (by omega), ?_⟩
    rw [Int.toNat_natCast]
    refine ⟨fit_len (by rw [upTo_length]; omega), lc_up (fun i => .int (i : Nat)) n ?_ fun i hi q Z hq => by walk_at "rd"; exact hq⟩
    rw [inN_range, fmodN]
    have ll := Nat.mod_lt b3 (show 0 < n by omega)
    refine ⟨by omega, n, List.range n, sp, b3 % n, rfl, isP_range n, lp, ll, n2, ?_⟩
    have sw := swp_isP (isP_range n) lp ll
    walk_at "rd"
    subst hk
    walk_at "rd"
    refine ⟨fit_len (by first | omega | (simp; omega)), lc_ex (emb := tN) (f := tN) (P := fun p => IsP p n) U (fun a ha q Z hq => ?_) fun ps hp1 hp2 => ?_⟩
    · walk_at "rd"
      exact ⟨a, _, n, n, rfl, hU a ha, Nat.le_refl _, sw, n2, hq⟩
    · refine sortA_ok hp1 n1 (by omega) fun T1 pT => ?_
      rw [nkT]
      exact hq _ n (rwl_nk n2 (fun x hx => hp1 x (pT.mem_iff.mp hx)) (by rw [pT.length_eq]; omega)) n1 n2
  walk_at "rd"
  refine ⟨fun h => ⟨fun h' => ?_, fun h' => last⟩, fun h => last⟩
  subst hT
  walk_at "rd"
  refine ⟨fit_len (by first | omega | (simp; omega)), lc_f (emb := tN) (fun m => tI (nk m ++ [(n : Int)])) U ?_ fun m hm q Z hq => ?_⟩
  · rw [show U.map (fun m => tI (nk m ++ [(n : Int)])) = (U.map fun m => nk m ++ [(n : Int)]).map tI by rw [List.map_map]; rfl]
    exact hq _ (n + 1) (rwl_snoc (f := fun _ => (n : Int)) n2 hU (by omega) fun p hp => by omega) (by omega) (by omega)
  · have pm := hU m hm
    walk_at "rd"
    refine ⟨fit_len (by rw [inN_len, pm.len]; omega), ?_⟩
    rw [snocD]
    exact hq
theorem cut6 (a b c d e f : D) : DL.cutD [a, b, c, d, e, f] (some 1) none = [b, c, d, e, f] := cut_high (n := 1) (by simp)
def aD (x : List (List Int) × Nat) : D := .list [.list (x.1.map tI), .int x.2]
theorem rpS_I : ∀ {k : List Int}, (∀ x ∈ k, x.natAbs < 10 ^ 40) → rpSAll (k.map PyData.int) = true
  | [], _ => rfl
  | a :: k, h => by
    show (decide (a.natAbs < 10 ^ 40) && rpSAll (k.map PyData.int)) = true
    rw [rpS_I fun x hx => h x (List.mem_cons_of_mem _ hx), Bool.and_true]
    exact decide_eq_true (h a List.mem_cons_self)
theorem rpS_L (u : Bool) : ∀ {L : List (List Int)}, (∀ k ∈ L, k.length ≤ 70 ∧ ∀ x ∈ k, x.natAbs < 10 ^ 40) → rpSAll (L.map fun k => sqD u (k.map PyData.int)) = true
  | [], _ => rfl
  | k :: L, h => by
    have h1 := rpS_I (h k List.mem_cons_self).2
    have h2 := rpS_L u (L := L) fun x hx => h x (List.mem_cons_of_mem _ hx)
    show (rpS (sqD u (k.map PyData.int)) && rpSAll (L.map fun k => sqD u (k.map PyData.int))) = true
    rw [h2, Bool.and_true]
    cases u <;> exact h1
theorem cells_L (u : Bool) : ∀ {L : List (List Int)}, (∀ k ∈ L, k.length ≤ 70 ∧ ∀ x ∈ k, x.natAbs < 10 ^ 40) → cellsAll (L.map fun k => sqD u (k.map PyData.int)) ≤ L.length * 71
  | [], _ => by simp [cellsAll]
  | k :: L, h => by
    have h2 := cells_L u (L := L) fun x hx => h x (List.mem_cons_of_mem _ hx)
    have h1 := (h k List.mem_cons_self).1
    have h3 : cellsAll (k.map PyData.int) = k.length := cellsAll_ints k
    show cells (sqD u (k.map PyData.int)) + cellsAll (L.map fun k => sqD u (k.map PyData.int)) ≤ _
    have : cells (sqD u (k.map PyData.int)) ≤ 71 := by cases u <;> simp [sqD, cells, h3] <;> omega
    rw [List.length_cons, Nat.succ_mul]
    omega
theorem dep_L (u : Bool) : ∀ L : List (List Int), PyData.depthAll (L.map fun k => sqD u (k.map PyData.int)) ≤ 1
  | [] => by simp [PyData.depthAll]
  | k :: L => by
    have h2 := dep_L u L
    show max (sqD u (k.map PyData.int)).depth (PyData.depthAll (L.map fun k => sqD u (k.map PyData.int))) ≤ 1
    have : (sqD u (k.map PyData.int)).depth = 1 := by
      have h3 : PyData.depthAll (k.map PyData.int) = 0 := DL.depthAll_ints _
      cases u <;> simp [sqD, PyData.depth, h3]
    omega
theorem hd_same {L : List (List Int)} (w : Nat) (h : RwL L) : reprOk (hdD w L) = true ∧ rpS (hdD w L) = true ∧ cells (hdD w L) ≤ 300000 ∧ (hdD w L).depth ≤ 60 := by
  unfold hdD
  have r1 := rpS_L (w == 0) h.row
  have k1 := cells_L (w == 0) h.row
  have d1 := dep_L (w == 0) L
  have m1 : L.length * 71 ≤ 400 * 71 := Nat.mul_le_mul h.len (Nat.le_refl _)
  refine ⟨?_, ?_, ?_, ?_⟩
  · cases (w == 1) <;> rfl
  · generalize (L.map fun k => sqD (w == 0) (k.map PyData.int)) = R at r1 k1 d1 ⊢
    cases (w == 1) <;> simpa [rpS, sqD] using r1
  · generalize (L.map fun k => sqD (w == 0) (k.map PyData.int)) = R at r1 k1 d1 ⊢
    cases (w == 1) <;> simp only [cells, sqD, Bool.not_true, Bool.not_false, if_true, if_false, Bool.false_eq_true] <;> omega
  · generalize (L.map fun k => sqD (w == 0) (k.map PyData.int)) = R at r1 k1 d1 ⊢
    cases (w == 1) <;> simp only [PyData.depth, sqD, Bool.not_true, Bool.not_false, if_true, if_false, Bool.false_eq_true] <;> omega
abbrev s_law : Stmt := topS 32
theorem sc_law : FnScope ["script", "size", "drawn", "head", "most", "table", "row", "asked", "turn", "k", "way", "handed", "told"] ["script"] (defScope s_law) := ⟨rfl, rfl, rfl, by decide +kernel, rfl, by decide +kernel, by decide +kernel⟩
def f_law : FD := fun ds q => ∃ ns : List Int, ds = [.list (ns.map .int)] ∧ (∀ i ∈ ns, intBits i ≤ 1048576) ∧ q (.val (.bool true))
theorem ok_law {f fd} {k : Nat} (F : Fun K "law" "law" s_law f fd) (hdg : base.NoDigits) (m_int : mg "int" = none) (m_len : mg "len" = none) (m_min : mg "min" = none) (m_range : mg "range" = none) (r__law_drawn : Ready P w K mg base "_law_drawn" 1 k f__law_drawn) (r__law_digits : Ready P w K mg base "_law_digits" 2 k f__law_digits) (r__law_cell : Ready P w K mg base "_law_cell" 2 k f__law_cell) (r__law_accepted : Ready P w K mg base "_law_accepted" 3 k f__law_accepted) (r_is_table : Ready P w K mg base "is_table" 2 k f_is_table) (r__law_handed : Ready P w K mg base "_law_handed" 2 k f__law_handed) (r__law_right : Ready P w K mg base "_law_right" 4 k f__law_right) (r__law_spoilt : Ready P w K mg base "_law_spoilt" 4 k f__law_spoilt) (r__law_spoilt_more : Ready P w K mg base "_law_spoilt_more" 4 k f__law_spoilt_more) (r__law_same : Ready P w K mg base "_law_same" 2 k f__law_same) (r__law_judged : Ready P w K mg base "_law_judged" 2 k f__law_judged) : FnG P w K mg base (k + 1) f fd ["script"] (SpD K 1 f_law) := by
  refine fnD F sc_law fun cdv A outer s H E gA hr => ?_
  have hu := hr.units
  have nd := sc_law.nd
  refine ⟨_, (ss_cons (st_asg (r__law_drawn.toE gA hr (da_cons (dv 0) da_nil)) (tg_tl (n := 2) (tg_cons (tg_name (i := 1) nd) (tg_cons (tg_name (i := 2) nd) tg_nil))))
    (ss_cons (st_set (i := 3) nd (r__law_digits.toE gA hr (da_cons (r__law_cell.toE gA hr (da_cons (dv 0) (da_cons de_int da_nil))) (da_cons (DLs.toE (dl_lst (da_cons de_int (da_cons de_int (da_cons de_int (da_cons de_int da_nil)))))) da_nil))))
    (ss_cons (st_set (i := 4) nd (de_ix x_ix (DE.toB (DLs.toE (dl_lst (da_cons de_int (da_cons de_int (da_cons de_int (da_cons de_int (da_cons de_int da_nil)))))))) (DE.toB (de_ix x_ix (bv 3) (DE.toB de_int)))))
    (ss_cons (st_if (dt_cmp o_gt (bv 1) (DE.toB de_int)) (ss_one (st_set (i := 4) nd (de_B c_min2 m_min (ab_cons (DE.toB de_int) (ab_cons (bv 4) ab_nil))))) ss_nil)
    (ss_cons (st_set (i := 5) nd (de_ix x_ix (DE.toB (r__law_accepted.toE gA hr (da_cons (dv 1) (da_cons (dv 2) (da_cons (dv 4) da_nil))))) (DE.toB de_int)))
    (ss_cons (st_if (dt_cmp o_isNot (DE.toB (r_is_table.toE gA hr (da_cons (r__law_handed.toE gA hr (da_cons (dv 5) (da_cons (de_ix x_ix (bv 3) (DE.toB de_int)) da_nil))) (da_cons (dv 1) da_nil)))) (DE.toB de_bl)) (ss_one (st_ret de_bl)) ss_nil)
    (ss_cons (st_set (i := 6) nd (r__law_digits.toE gA hr (da_cons (r__law_cell.toE gA hr (da_cons (dv 0) (da_cons de_int da_nil))) (da_cons (DLs.toE (dl_lst (da_cons de_int (da_cons de_int (da_cons de_int (da_cons de_int (da_cons de_int (da_cons de_int da_nil)))))))) da_nil))))
    (ss_cons (st_setL (i := 7) nd (dl_lst (da_cons (r__law_right.toE gA hr (da_cons (de_ix x_ix (bv 3) (DE.toB de_int)) (da_cons (dv 5) (da_cons (dv 1) (da_cons (de_sl (bv 6) (do_some de_int) do_none) da_nil))))) da_nil)))
    (ss_cons (st_for (i_range1 de_int m_range) (tg_name (i := 8) nd) (ss_cons (st_set (i := 6) nd (r__law_digits.toE gA hr (da_cons (r__law_cell.toE gA hr (da_cons (dv 0) (da_cons (de_op o_add (DE.toB de_int) (bv 8)) da_nil))) (da_cons (DLs.toE (dl_lst (da_cons de_int (da_cons de_int (da_cons de_int (da_cons de_int (da_cons de_int (da_cons de_int da_nil)))))))) da_nil))))
    (ss_one (st_if (dt_cmp o_lt (DE.toB (de_ix x_ix (bv 6) (DE.toB de_int))) (DE.toB de_int)) (ss_one (st_app (i := 7) (r__law_spoilt.toE gA hr (da_cons (de_ix x_ix (bv 6) (DE.toB de_int)) (da_cons (dv 5) (da_cons (dv 1) (da_cons (de_sl (bv 6) (do_some de_int) do_none) da_nil))))))) (ss_one (st_app (i := 7) (r__law_spoilt_more.toE gA hr (da_cons (de_ix x_ix (bv 6) (DE.toB de_int)) (da_cons (dv 5) (da_cons (dv 1) (da_cons (de_sl (bv 6) (do_some de_int) do_none) da_nil)))))))))))
    (ss_cons (st_for (i_range1 (de_B c_len m_len (ab_cons (bv 7) ab_nil)) m_range) (tg_name (i := 9) nd) (ss_cons (st_set (i := 10) nd (de_op o_mod (DE.toB (de_T c_int m_int (ab_cons (DE.toB (de_op o_add (DE.toB (de_ix x_ix (bv 3) (DE.toB de_int))) (bv 9))) ab_nil))) (DE.toB de_int)))
    (ss_cons (st_set (i := 11) nd (r__law_handed.toE gA hr (da_cons (de_ix x_ix (DE.toB (de_ix x_ix (bv 7) (bv 9))) (DE.toB de_int)) (da_cons (dv 10) da_nil))))
    (ss_cons (st_set (i := 12) nd (r_is_table.toE gA hr (da_cons (dv 11) (da_cons (de_ix x_ix (DE.toB (de_ix x_ix (bv 7) (bv 9))) (DE.toB de_int)) da_nil))))
    (ss_cons (st_if (DW.pt (dw_and (dt_cmp o_isNot (bv 12) (DE.toB de_bl)) (dw_and1 (dt_cmp o_isNot (bv 12) (DE.toB de_bl))))) (ss_one (st_ret de_bl)) ss_nil)
    (ss_one (st_if (DW.pt (dw_or (dt_cmp (o_ne hu) (bv 12) (DE.toB (r__law_judged.toE gA hr (da_cons (de_ix x_ix (DE.toB (de_ix x_ix (bv 7) (bv 9))) (DE.toB de_int)) (da_cons (de_ix x_ix (DE.toB (de_ix x_ix (bv 7) (bv 9))) (DE.toB de_int)) da_nil))))) (dw_or1 (dt_not (dt_val (r__law_same.toE gA hr (da_cons (dv 11) (da_cons (r__law_handed.toE gA hr (da_cons (de_ix x_ix (DE.toB (de_ix x_ix (bv 7) (bv 9))) (DE.toB de_int)) (da_cons (dv 10) da_nil))) da_nil)))))))) (ss_one (st_ret de_bl)) ss_nil)))))))
    (ss_one (st_ret (de_cmp o_is (DE.toB (r_is_table.toE gA hr (da_cons (r__law_handed.toE gA hr (da_cons (dv 5) (da_cons (de_ix x_ix (bv 3) (DE.toB de_int)) da_nil))) (da_cons (dv 1) da_nil)))) (DE.toB de_bl)))))))))))))), ?_⟩
  clear F nd hu hr gA E H s outer A cdv hdg m_int m_len m_min m_range r__law_drawn r__law_digits r__law_cell r__law_accepted r_is_table r__law_handed r__law_right r__law_spoilt r__law_spoilt_more r__law_same r__law_judged
  intro ds q hl hg
  obtain ⟨ns, rfl, hb, hq⟩ := hg
  show sSeq _ _ _ [some (.val (.list (ns.map .int))), none, none, none, none, none, none, none, none, none, none, none, none]
  refine sq_i fun k hk => ?_
  walk_at "rd"
  refine ⟨ns, rfl, hb, fun n gs n1 n2 hP hgl => ?_⟩
  walk_at "rd"
  subst hk
  refine sq_i fun k hk => ?_
  walk_at "rd"
  refine ⟨ns, 2, rfl, by decide, hb, fun v hv => ?_⟩
  refine ⟨v, [5, 3, 3, 5], rfl, by decide, by decide, fun rs hrs => ?_⟩
  obtain ⟨r0, rs, rfl, a0, hrs⟩ := hrs.cons
  obtain ⟨r1, rs, rfl, a1, hrs⟩ := hrs.cons
  obtain ⟨r2, rs, rfl, a2, hrs⟩ := hrs.cons
  obtain ⟨r3, rs, rfl, a3, hrs⟩ := hrs.cons
  obtain rfl := hrs.nil
  obtain ⟨h1, rfl⟩ := Int.eq_ofNat_of_zero_le a1.1
  obtain ⟨h2, rfl⟩ := Int.eq_ofNat_of_zero_le a2.1
  obtain ⟨h3, rfl⟩ := Int.eq_ofNat_of_zero_le a3.1
  walk_at "rd"
  subst hk
  refine sq_i fun k hk => ?_
  walk_at "rd"
  refine gIx_ints (ns := [16, 32, 32, 64, 128]) (fun n => 1 ≤ n ∧ n ≤ 128) a0.1 (by simpa using a0.2) (fun n e => ?_) fun mo hmo => ?_
  · have := List.mem_of_getElem? e
    simp only [List.mem_cons, List.not_mem_nil, or_false] at this
    omega
  obtain ⟨mo, rfl⟩ := Int.eq_ofNat_of_zero_le (show 0 ≤ mo by omega)
  have hand : ∀ (L : List (List Int)) (w : Nat) (q : DV → Prop), RwL L → q (.val (hdD w L)) → f__law_handed [.list (L.map tI), .int w] q := fun L w q h1 h2 => ⟨L, w, rfl, by have := h1.len; omega, fun k hk => by have := (h1.row k hk).1; omega, h2⟩
  have isT : ∀ (L : List (List Int)) (m w : Nat) (q : DV → Prop), RwL L → m ≤ 64 → (∀ b : Bool, (b = true ↔ TabI m L) → q (.val (.bool b))) → f_is_table [hdD w L, .int m] q := fun L m w q h1 h2 h3 => ⟨L, m, _, _, rfl, by omega, by have := h1.len; omega, fun k hk => by have := (h1.row k hk).1; omega, h3⟩
  have jud : ∀ (L : List (List Int)) (m : Nat) (q : DV → Prop), RwL L → 1 ≤ m → m ≤ 64 → (∀ b : Bool, (b = true ↔ TabI m L) → q (.val (.bool b))) → f__law_judged [.list (L.map tI), .int m] q := fun L m q h1 h2 h3 h4 => ⟨L, m, rfl, h2, h3, by have := h1.len; omega, fun k hk => by have := (h1.row k hk).1; omega, h4⟩
  subst hk
  refine sj_i 4 (fun d => ∃ m : Nat, d = .int (m : Nat) ∧ 1 ≤ m ∧ m ≤ 128) ?_ fun k hk => if_n fun T hT => ?_
  rotate_left
  · walk_at "rd"
    refine ⟨fun h => ?_, fun h => hk _ ⟨mo, rfl, by omega, by omega⟩⟩
    subst hT
    walk_at "rd"
    obtain ⟨m', em, m1, m2⟩ : ∃ m' : Nat, (if (mo : Int) < 32 then (mo : Int) else 32) = (m' : Int) ∧ 1 ≤ m' ∧ m' ≤ 128 := by
      refine ⟨(if (mo : Int) < 32 then (mo : Int) else 32).toNat, ?_, ?_, ?_⟩ <;> split <;> omega
    rw [em]
    exact hk _ ⟨m', rfl, m1, m2⟩
  clear hmo
  rintro _ ⟨mo, rfl, m1, m2⟩
  refine sq_i fun k hk => ?_
  walk_at "rd"
  refine ⟨n, mo, gs, rfl, n2, n1, m1, m2, hP, hgl, fun fd U hU hfd lfd lU => ?_⟩
  have gU := hU.grp hfd
  have lpos := List.length_pos_of_mem gU.one
  have rU := rwl_nk n2 gU.isP (by omega)
  have tU := tab_grp (by omega) gU hU.asc
  walk_at "rd"
  subst hk
  refine sq_i fun k hk => if_n fun T hT => ?_
  walk_at "rd"
  have handU : ∀ (w : Nat) (q : DV → Prop), q (.val (hdD w (U.map nk))) → f__law_handed [.list (U.map tN), .int w] q := fun w q h => by
    rw [nkT]
    exact hand _ _ _ rU h
  refine handU _ _ ?_
  walk_at "rd"
  refine isT _ _ _ _ rU n2 fun b hb => ?_
  have eb : b = true := hb.mpr tU
  subst eb
  walk_at "rd"
  clear hT T hb
  subst hk
  refine sq_i fun k hk => ?_
  walk_at "rd"
  refine ⟨ns, 3, rfl, by decide, hb, fun v hv => ?_⟩
  refine ⟨v, [20, 128, 128, 64, 64, 3], rfl, by decide, by decide, fun rs hrs => ?_⟩
  obtain ⟨r0', rs, rfl, b0, hrs⟩ := hrs.cons
  obtain ⟨r1, rs, rfl, b1, hrs⟩ := hrs.cons
  obtain ⟨r2, rs, rfl, b2, hrs⟩ := hrs.cons
  obtain ⟨r3, rs, rfl, b3, hrs⟩ := hrs.cons
  obtain ⟨r4, rs, rfl, b4, hrs⟩ := hrs.cons
  obtain ⟨r5, rs, rfl, b5, hrs⟩ := hrs.cons
  obtain rfl := hrs.nil
  obtain ⟨c1, rfl⟩ := Int.eq_ofNat_of_zero_le b1.1
  obtain ⟨c2, rfl⟩ := Int.eq_ofNat_of_zero_le b2.1
  obtain ⟨c3, rfl⟩ := Int.eq_ofNat_of_zero_le b3.1
  obtain ⟨c4, rfl⟩ := Int.eq_ofNat_of_zero_le b4.1
  obtain ⟨c5, rfl⟩ := Int.eq_ofNat_of_zero_le b5.1
  walk_at "rd"
  subst hk
  refine sq_i fun k hk => ?_
  walk_at "rd"
  rw [cut6]
  refine ⟨h3, n, c1, c2, c3, c4, c5, U, rfl, n1, n2, by omega, by omega, by omega, by omega, gU.isP, lpos, by omega, fun L0 m0 hL0 m01 m02 => ?_⟩
  walk_at "rd"
  subst hk
  refine sq_i fun k hk => for_in fun W hW => ?_
  walk_at "rd"
  refine ⟨Rng.of (by omega) (by omega), ?_⟩
  subst hW
  refine for_up (fun i σ => ∃ (qs : List (List (List Int) × Nat)) (y6 y8 : Option DV), σ = [some (.val (.list (ns.map .int))), some (.val (.int n)), some (.val (.list (gs.map tN))), some (.val (.list [.int r0, .int h1, .int h2, .int h3])), some (.val (.int (mo : Nat))), some (.val (.list (U.map tN))), y6, some (.own (qs.map aD)), y8, none, none, none, none] ∧ qs.length = i + 1 ∧ ∀ x ∈ qs, RwL x.1 ∧ 1 ≤ x.2 ∧ x.2 ≤ 64) 0 7 ⟨[(L0, m0)], _, none, rfl, rfl, fun x hx => by rw [List.mem_singleton.mp hx]; exact ⟨hL0, m01, m02⟩⟩ ?_ ?_
  rotate_left
  · rintro i _ hi ⟨qs, y6, y8, rfl, lq, hqs⟩ k1 hk1
    simp only [Int.zero_add]
    refine sq_i fun k2 hk2 => ?_
    walk_at "rd"
    refine ⟨ns, 9 + (i : Nat), rfl, by omega, hb, fun v hv => ?_⟩
    refine ⟨v, [20, 128, 128, 64, 64, 3], rfl, by decide, by decide, fun rs hrs => ?_⟩
    obtain ⟨d0, rs, rfl, b0, hrs⟩ := hrs.cons
    obtain ⟨r1, rs, rfl, b1, hrs⟩ := hrs.cons
    obtain ⟨r2, rs, rfl, b2, hrs⟩ := hrs.cons
    obtain ⟨r3, rs, rfl, b3, hrs⟩ := hrs.cons
    obtain ⟨r4, rs, rfl, b4, hrs⟩ := hrs.cons
    obtain ⟨r5, rs, rfl, b5, hrs⟩ := hrs.cons
    obtain rfl := hrs.nil
    obtain ⟨d0, rfl⟩ := Int.eq_ofNat_of_zero_le b0.1
    obtain ⟨d1, rfl⟩ := Int.eq_ofNat_of_zero_le b1.1
    obtain ⟨d2, rfl⟩ := Int.eq_ofNat_of_zero_le b2.1
    obtain ⟨d3, rfl⟩ := Int.eq_ofNat_of_zero_le b3.1
    obtain ⟨d4, rfl⟩ := Int.eq_ofNat_of_zero_le b4.1
    obtain ⟨d5, rfl⟩ := Int.eq_ofNat_of_zero_le b5.1
    walk_at "rd"
    subst hk2
    have add : ∀ (L1 : List (List Int)) (m1 : Nat) (y6 y8 : Option DV), RwL L1 → 1 ≤ m1 → m1 ≤ 64 → k1 [some (.val (.list (ns.map .int))), some (.val (.int n)), some (.val (.list (gs.map tN))), some (.val (.list [.int r0, .int h1, .int h2, .int h3])), some (.val (.int (mo : Nat))), some (.val (.list (U.map tN))), y6, some (.own (qs.map aD ++ [.list [.list (L1.map tI), .int m1]])), y8, none, none, none, none] := fun L1 m1 y6 y8 z1 z2 z3 => by
      rw [show qs.map aD ++ [PyData.list [.list (L1.map tI), .int m1]] = (qs ++ [(L1, m1)]).map aD by rw [List.map_append]; rfl]
      exact hk1 _ ⟨_, _, _, rfl, by rw [List.length_append, List.length_singleton]; omega, fun x hx => by
        rcases List.mem_append.mp hx with q | q
        · exact hqs x q
        · rw [List.mem_singleton.mp q]; exact ⟨z1, z2, z3⟩⟩
    refine if_in fun T1 T2 hT1 hT2 => ?_
    walk_at "rd"
    refine ⟨fun h => ?_, fun h => ?_⟩
    · subst hT1
      walk_at "rd"
      rw [cut6]
      refine ⟨fit_len (by rw [List.length_map]; omega), d0, n, d1, d2, d3, d4, d5, U, rfl, by omega, n1, n2, by omega, by omega, by omega, by omega, gU.isP, lpos, by omega, fun L1 hL1 => ?_⟩
      walk_at "rd"
      exact add L1 n _ _ hL1 n1 n2
    · subst hT2
      walk_at "rd"
      rw [cut6]
      refine ⟨fit_len (by rw [List.length_map]; omega), d0, n, d1, d2, d3, d4, d5, U, rfl, by omega, n1, n2, by omega, by omega, by omega, by omega, gU.isP, lpos, by omega, fun L1 m1 hL1 z1 z2 => ?_⟩
      walk_at "rd"
      exact add L1 m1 _ _ hL1 z1 z2
  rintro _ ⟨qs, y6, y8, rfl, lq, hqs⟩
  subst hk
  refine sq_i fun k hk => for_in fun W hW => ?_
  walk_at "rd"
  rw [List.length_map]
  refine ⟨Rng.of (by omega) (by omega), ?_⟩
  rw [Int.toNat_natCast]
  subst hW
  refine for_up (fun i σ => ∃ y9 y10 y11 y12 : Option DV, σ = [some (.val (.list (ns.map .int))), some (.val (.int n)), some (.val (.list (gs.map tN))), some (.val (.list [.int r0, .int h1, .int h2, .int h3])), some (.val (.int (mo : Nat))), some (.val (.list (U.map tN))), y6, some (.own (qs.map aD)), y8, y9, y10, y11, y12]) 0 qs.length ⟨_, _, _, _, rfl⟩ ?_ ?_
  · rintro _ ⟨y9, y10, y11, y12, rfl⟩
    subst hk
    walk_at "rd"
    refine handU _ _ ?_
    walk_at "rd"
    refine isT _ _ _ _ rU n2 fun b hb => ?_
    have eb : b = true := hb.mpr tU
    subst eb
    walk_at "rd"
    exact hq
  · rintro i _ hi ⟨y9, y10, y11, y12, rfl⟩ k1 hk1
    simp only [Int.zero_add]
    obtain ⟨⟨L1, z⟩, hx⟩ : ∃ x, qs[i]? = some x := ⟨_, List.getElem?_eq_getElem hi⟩
    obtain ⟨g1, g2, g3⟩ := hqs _ (List.mem_of_getElem? hx)
    have ixq : ∀ q : D → Prop, q (.list [.list (L1.map tI), .int z]) → gIx (.list (qs.map aD)) (.int (i : Nat)) q := fun q hq => gIx_N (by rw [List.getElem?_map, hx]; rfl) hq
    refine sq_i fun k2 hk2 => ?_
    walk_at "rd"
    rw [show ((h2 : Int) + (i : Int)) = ((h2 + i : Nat) : Int) from rfl, show (3 : Int) = ((3 : Nat) : Int) from rfl, fmodN]
    refine ⟨by omega, ?_⟩
    generalize (h2 + i) % 3 = w
    subst hk2
    refine sq_i fun k2 hk2 => ?_
    walk_at "rd"
    refine ixq _ ?_
    walk_at "rd"
    refine hand _ _ _ g1 ?_
    walk_at "rd"
    subst hk2
    refine sq_i fun k2 hk2 => ?_
    walk_at "rd"
    refine ixq _ ?_
    walk_at "rd"
    refine isT _ _ _ _ g1 g3 fun b hb1 => ?_
    walk_at "rd"
    subst hk2
    refine sq_i fun k2 hk2 => if_n fun T hT => ?_
    walk_at "rd"
    have go : k2 [some (.val (.list (ns.map .int))), some (.val (.int n)), some (.val (.list (gs.map tN))), some (.val (.list [.int r0, .int h1, .int h2, .int h3])), some (.val (.int (mo : Nat))), some (.val (.list (U.map tN))), y6, some (.own (qs.map aD)), y8, some (.val (.int (i : Nat))), some (.val (.int (w : Nat))), some (.val (hdD w L1)), some (.val (.bool b))] := by
      subst hk2
      refine if_n fun T hT => ?_
      walk_at "rd"
      refine ixq _ ?_
      walk_at "rd"
      refine ixq _ ?_
      walk_at "rd"
      refine jud _ _ _ g1 g2 g3 fun b2 hb2 => ?_
      have eb : b2 = b := by rw [Bool.eq_iff_iff, hb2, hb1]
      subst eb
      walk_at "rd"
      refine ixq _ ?_
      walk_at "rd"
      refine hand _ _ _ g1 ?_
      walk_at "rd"
      obtain ⟨s1, s2, s3, s4⟩ := hd_same w g1
      refine ⟨_, rfl, s1, s2, s3, s4, ?_⟩
      walk_at "rd"
      exact hk1 _ ⟨_, _, _, _, rfl⟩
    exact ⟨fun c => ⟨fun c' => absurd (by simpa using c) c', fun _ => go⟩, fun _ => go⟩
theorem law_call (ns : List Int) (_ : ns.length ≤ 63) (hb : ∀ i ∈ ns, intBits i ≤ 1048576) : f_law [.list (ns.map .int)] fun r => r = .val (.bool true) := ⟨ns, rfl, hb, rfl⟩

end
end K43

namespace K43
open PySem PySem.Spec PyProof.Rows L2 DL Builtin.Int
theorem all_mk {l : PySem.W.OpenLaw} {w : World} {K : Frag} {h : Heap} {mg : Str → Option Value} {fa : Addr} (X : K.In h) (G : h.Ns mainGlobals mg) (hfa : mg "law" = some (.ref fa))
    {f0 : Addr} {od0 an0 : Option Addr} {sl0 : Array (Option Value)} {oc0 kV0 dc0 pm0 cd0 ct0 : Value} {f1 : Addr} {od1 an1 : Option Addr} {sl1 : Array (Option Value)} {oc1 kV1 dc1 pm1 cd1 ct1 : Value} {f2 : Addr} {od2 an2 : Option Addr} {sl2 : Array (Option Value)} {oc2 kV2 dc2 pm2 cd2 ct2 : Value} {f3 : Addr} {od3 an3 : Option Addr} {sl3 : Array (Option Value)} {oc3 kV3 dc3 pm3 cd3 ct3 : Value} {f4 : Addr} {od4 an4 : Option Addr} {sl4 : Array (Option Value)} {oc4 kV4 dc4 pm4 cd4 ct4 : Value} {f5 : Addr} {od5 an5 : Option Addr} {sl5 : Array (Option Value)} {oc5 kV5 dc5 pm5 cd5 ct5 : Value} {f6 : Addr} {od6 an6 : Option Addr} {sl6 : Array (Option Value)} {oc6 kV6 dc6 pm6 cd6 ct6 : Value} {f7 : Addr} {od7 an7 : Option Addr} {sl7 : Array (Option Value)} {oc7 kV7 dc7 pm7 cd7 ct7 : Value} {f8 : Addr} {od8 an8 : Option Addr} {sl8 : Array (Option Value)} {oc8 kV8 dc8 pm8 cd8 ct8 : Value} {f9 : Addr} {od9 an9 : Option Addr} {sl9 : Array (Option Value)} {oc9 kV9 dc9 pm9 cd9 ct9 : Value} {f10 : Addr} {od10 an10 : Option Addr} {sl10 : Array (Option Value)} {oc10 kV10 dc10 pm10 cd10 ct10 : Value} {f11 : Addr} {od11 an11 : Option Addr} {sl11 : Array (Option Value)} {oc11 kV11 dc11 pm11 cd11 ct11 : Value} {f12 : Addr} {od12 an12 : Option Addr} {sl12 : Array (Option Value)} {oc12 kV12 dc12 pm12 cd12 ct12 : Value} {f13 : Addr} {od13 an13 : Option Addr} {sl13 : Array (Option Value)} {oc13 kV13 dc13 pm13 cd13 ct13 : Value} {f14 : Addr} {od14 an14 : Option Addr} {sl14 : Array (Option Value)} {oc14 kV14 dc14 pm14 cd14 ct14 : Value} {f15 : Addr} {od15 an15 : Option Addr} {sl15 : Array (Option Value)} {oc15 kV15 dc15 pm15 cd15 ct15 : Value} {f16 : Addr} {od16 an16 : Option Addr} {sl16 : Array (Option Value)} {oc16 kV16 dc16 pm16 cd16 ct16 : Value} {f17 : Addr} {od17 an17 : Option Addr} {sl17 : Array (Option Value)} {oc17 kV17 dc17 pm17 cd17 ct17 : Value} {f18 : Addr} {od18 an18 : Option Addr} {sl18 : Array (Option Value)} {oc18 kV18 dc18 pm18 cd18 ct18 : Value} {f19 : Addr} {od19 an19 : Option Addr} {sl19 : Array (Option Value)} {oc19 kV19 dc19 pm19 cd19 ct19 : Value} {f20 : Addr} {od20 an20 : Option Addr} {sl20 : Array (Option Value)} {oc20 kV20 dc20 pm20 cd20 ct20 : Value} {f21 : Addr} {od21 an21 : Option Addr} {sl21 : Array (Option Value)} {oc21 kV21 dc21 pm21 cd21 ct21 : Value} {f22 : Addr} {od22 an22 : Option Addr} {sl22 : Array (Option Value)} {oc22 kV22 dc22 pm22 cd22 ct22 : Value} {f23 : Addr} {od23 an23 : Option Addr} {sl23 : Array (Option Value)} {oc23 kV23 dc23 pm23 cd23 ct23 : Value} {f24 : Addr} {od24 an24 : Option Addr} {sl24 : Array (Option Value)} {oc24 kV24 dc24 pm24 cd24 ct24 : Value} {f25 : Addr} {od25 an25 : Option Addr} {sl25 : Array (Option Value)} {oc25 kV25 dc25 pm25 cd25 ct25 : Value} {f26 : Addr} {od26 an26 : Option Addr} {sl26 : Array (Option Value)} {oc26 kV26 dc26 pm26 cd26 ct26 : Value} {f27 : Addr} {od27 an27 : Option Addr} {sl27 : Array (Option Value)} {oc27 kV27 dc27 pm27 cd27 ct27 : Value} {f28 : Addr} {od28 an28 : Option Addr} {sl28 : Array (Option Value)} {oc28 kV28 dc28 pm28 cd28 ct28 : Value}
    (a0 : PySem.W.nsIn K mainGlobals "_law_cell" = some (some (.ref f0))) (l0 : K.lookup f0 = some ⟨oc0, od0, .func (PySem.W.fnOf "_law_cell" "_law_cell" (defArgs s__law_cell) (defBody s__law_cell) (defScope s__law_cell) .none kV0 dc0 pm0 an0 cd0 ct0), sl0⟩) (c0 : PySem.W.codeIn K cd0 "_law_cell" = true) (k0 : PySem.W.keepIn K (.ref f0) = true)
    (a1 : PySem.W.nsIn K mainGlobals "_law_digits" = some (some (.ref f1))) (l1 : K.lookup f1 = some ⟨oc1, od1, .func (PySem.W.fnOf "_law_digits" "_law_digits" (defArgs s__law_digits) (defBody s__law_digits) (defScope s__law_digits) .none kV1 dc1 pm1 an1 cd1 ct1), sl1⟩) (c1 : PySem.W.codeIn K cd1 "_law_digits" = true) (k1 : PySem.W.keepIn K (.ref f1) = true)
    (a2 : PySem.W.nsIn K mainGlobals "_law_gcd" = some (some (.ref f2))) (l2 : K.lookup f2 = some ⟨oc2, od2, .func (PySem.W.fnOf "_law_gcd" "_law_gcd" (defArgs s__law_gcd) (defBody s__law_gcd) (defScope s__law_gcd) .none kV2 dc2 pm2 an2 cd2 ct2), sl2⟩) (c2 : PySem.W.codeIn K cd2 "_law_gcd" = true) (k2 : PySem.W.keepIn K (.ref f2) = true)
    (a3 : PySem.W.nsIn K mainGlobals "compose" = some (some (.ref f3))) (l3 : K.lookup f3 = some ⟨oc3, od3, .func (PySem.W.fnOf "compose" "compose" (defArgs s_compose) (defBody s_compose) (defScope s_compose) .none kV3 dc3 pm3 an3 cd3 ct3), sl3⟩) (c3 : PySem.W.codeIn K cd3 "compose" = true) (k3 : PySem.W.keepIn K (.ref f3) = true)
    (a4 : PySem.W.nsIn K mainGlobals "_law_compose" = some (some (.ref f4))) (l4 : K.lookup f4 = some ⟨oc4, od4, .func (PySem.W.fnOf "_law_compose" "_law_compose" (defArgs s__law_compose) (defBody s__law_compose) (defScope s__law_compose) .none kV4 dc4 pm4 an4 cd4 ct4), sl4⟩) (c4 : PySem.W.codeIn K cd4 "_law_compose" = true) (k4 : PySem.W.keepIn K (.ref f4) = true)
    (a5 : PySem.W.nsIn K mainGlobals "_law_closed" = some (some (.ref f5))) (l5 : K.lookup f5 = some ⟨oc5, od5, .func (PySem.W.fnOf "_law_closed" "_law_closed" (defArgs s__law_closed) (defBody s__law_closed) (defScope s__law_closed) .none kV5 dc5 pm5 an5 cd5 ct5), sl5⟩) (c5 : PySem.W.codeIn K cd5 "_law_closed" = true) (k5 : PySem.W.keepIn K (.ref f5) = true)
    (a6 : PySem.W.nsIn K mainGlobals "_law_shuffled" = some (some (.ref f6))) (l6 : K.lookup f6 = some ⟨oc6, od6, .func (PySem.W.fnOf "_law_shuffled" "_law_shuffled" (defArgs s__law_shuffled) (defBody s__law_shuffled) (defScope s__law_shuffled) .none kV6 dc6 pm6 an6 cd6 ct6), sl6⟩) (c6 : PySem.W.codeIn K cd6 "_law_shuffled" = true) (k6 : PySem.W.keepIn K (.ref f6) = true)
    (a7 : PySem.W.nsIn K mainGlobals "_law_affine" = some (some (.ref f7))) (l7 : K.lookup f7 = some ⟨oc7, od7, .func (PySem.W.fnOf "_law_affine" "_law_affine" (defArgs s__law_affine) (defBody s__law_affine) (defScope s__law_affine) .none kV7 dc7 pm7 an7 cd7 ct7), sl7⟩) (c7 : PySem.W.codeIn K cd7 "_law_affine" = true) (k7 : PySem.W.keepIn K (.ref f7) = true)
    (a8 : PySem.W.nsIn K mainGlobals "_law_layers" = some (some (.ref f8))) (l8 : K.lookup f8 = some ⟨oc8, od8, .func (PySem.W.fnOf "_law_layers" "_law_layers" (defArgs s__law_layers) (defBody s__law_layers) (defScope s__law_layers) .none kV8 dc8 pm8 an8 cd8 ct8), sl8⟩) (c8 : PySem.W.codeIn K cd8 "_law_layers" = true) (k8 : PySem.W.keepIn K (.ref f8) = true)
    (a9 : PySem.W.nsIn K mainGlobals "_law_turns" = some (some (.ref f9))) (l9 : K.lookup f9 = some ⟨oc9, od9, .func (PySem.W.fnOf "_law_turns" "_law_turns" (defArgs s__law_turns) (defBody s__law_turns) (defScope s__law_turns) .none kV9 dc9 pm9 an9 cd9 ct9), sl9⟩) (c9 : PySem.W.codeIn K cd9 "_law_turns" = true) (k9 : PySem.W.keepIn K (.ref f9) = true)
    (a10 : PySem.W.nsIn K mainGlobals "_law_renumbered" = some (some (.ref f10))) (l10 : K.lookup f10 = some ⟨oc10, od10, .func (PySem.W.fnOf "_law_renumbered" "_law_renumbered" (defArgs s__law_renumbered) (defBody s__law_renumbered) (defScope s__law_renumbered) .none kV10 dc10 pm10 an10 cd10 ct10), sl10⟩) (c10 : PySem.W.codeIn K cd10 "_law_renumbered" = true) (k10 : PySem.W.keepIn K (.ref f10) = true)
    (a11 : PySem.W.nsIn K mainGlobals "_law_regular" = some (some (.ref f11))) (l11 : K.lookup f11 = some ⟨oc11, od11, .func (PySem.W.fnOf "_law_regular" "_law_regular" (defArgs s__law_regular) (defBody s__law_regular) (defScope s__law_regular) .none kV11 dc11 pm11 an11 cd11 ct11), sl11⟩) (c11 : PySem.W.codeIn K cd11 "_law_regular" = true) (k11 : PySem.W.keepIn K (.ref f11) = true)
    (a12 : PySem.W.nsIn K mainGlobals "_law_accepted" = some (some (.ref f12))) (l12 : K.lookup f12 = some ⟨oc12, od12, .func (PySem.W.fnOf "_law_accepted" "_law_accepted" (defArgs s__law_accepted) (defBody s__law_accepted) (defScope s__law_accepted) .none kV12 dc12 pm12 an12 cd12 ct12), sl12⟩) (c12 : PySem.W.codeIn K cd12 "_law_accepted" = true) (k12 : PySem.W.keepIn K (.ref f12) = true)
    (a13 : PySem.W.nsIn K mainGlobals "_law_three" = some (some (.ref f13))) (l13 : K.lookup f13 = some ⟨oc13, od13, .func (PySem.W.fnOf "_law_three" "_law_three" (defArgs s__law_three) (defBody s__law_three) (defScope s__law_three) .none kV13 dc13 pm13 an13 cd13 ct13), sl13⟩) (c13 : PySem.W.codeIn K cd13 "_law_three" = true) (k13 : PySem.W.keepIn K (.ref f13) = true)
    (a14 : PySem.W.nsIn K mainGlobals "_law_drawn" = some (some (.ref f14))) (l14 : K.lookup f14 = some ⟨oc14, od14, .func (PySem.W.fnOf "_law_drawn" "_law_drawn" (defArgs s__law_drawn) (defBody s__law_drawn) (defScope s__law_drawn) .none kV14 dc14 pm14 an14 cd14 ct14), sl14⟩) (c14 : PySem.W.codeIn K cd14 "_law_drawn" = true) (k14 : PySem.W.keepIn K (.ref f14) = true)
    (a15 : PySem.W.nsIn K mainGlobals "_law_same" = some (some (.ref f15))) (l15 : K.lookup f15 = some ⟨oc15, od15, .func (PySem.W.fnOf "_law_same" "_law_same" (defArgs s__law_same) (defBody s__law_same) (defScope s__law_same) .none kV15 dc15 pm15 an15 cd15 ct15), sl15⟩) (c15 : PySem.W.codeIn K cd15 "_law_same" = true) (k15 : PySem.W.keepIn K (.ref f15) = true)
    (a16 : PySem.W.nsIn K mainGlobals "is_whole" = some (some (.ref f16))) (l16 : K.lookup f16 = some ⟨oc16, od16, .func (PySem.W.fnOf "is_whole" "is_whole" (defArgs s_is_whole) (defBody s_is_whole) (defScope s_is_whole) .none kV16 dc16 pm16 an16 cd16 ct16), sl16⟩) (c16 : PySem.W.codeIn K cd16 "is_whole" = true) (k16 : PySem.W.keepIn K (.ref f16) = true)
    (a17 : PySem.W.nsIn K mainGlobals "is_sequence" = some (some (.ref f17))) (l17 : K.lookup f17 = some ⟨oc17, od17, .func (PySem.W.fnOf "is_sequence" "is_sequence" (defArgs s_is_sequence) (defBody s_is_sequence) (defScope s_is_sequence) .none kV17 dc17 pm17 an17 cd17 ct17), sl17⟩) (c17 : PySem.W.codeIn K cd17 "is_sequence" = true) (k17 : PySem.W.keepIn K (.ref f17) = true)
    (a18 : PySem.W.nsIn K mainGlobals "is_permutation" = some (some (.ref f18))) (l18 : K.lookup f18 = some ⟨oc18, od18, .func (PySem.W.fnOf "is_permutation" "is_permutation" (defArgs s_is_permutation) (defBody s_is_permutation) (defScope s_is_permutation) .none kV18 dc18 pm18 an18 cd18 ct18), sl18⟩) (c18 : PySem.W.codeIn K cd18 "is_permutation" = true) (k18 : PySem.W.keepIn K (.ref f18) = true)
    (a19 : PySem.W.nsIn K mainGlobals "is_table" = some (some (.ref f19))) (l19 : K.lookup f19 = some ⟨oc19, od19, .func (PySem.W.fnOf "is_table" "is_table" (defArgs s_is_table) (defBody s_is_table) (defScope s_is_table) .none kV19 dc19 pm19 an19 cd19 ct19), sl19⟩) (c19 : PySem.W.codeIn K cd19 "is_table" = true) (k19 : PySem.W.keepIn K (.ref f19) = true)
    (a20 : PySem.W.nsIn K mainGlobals "_law_judged" = some (some (.ref f20))) (l20 : K.lookup f20 = some ⟨oc20, od20, .func (PySem.W.fnOf "_law_judged" "_law_judged" (defArgs s__law_judged) (defBody s__law_judged) (defScope s__law_judged) .none kV20 dc20 pm20 an20 cd20 ct20), sl20⟩) (c20 : PySem.W.codeIn K cd20 "_law_judged" = true) (k20 : PySem.W.keepIn K (.ref f20) = true)
    (a21 : PySem.W.nsIn K mainGlobals "_law_handed" = some (some (.ref f21))) (l21 : K.lookup f21 = some ⟨oc21, od21, .func (PySem.W.fnOf "_law_handed" "_law_handed" (defArgs s__law_handed) (defBody s__law_handed) (defScope s__law_handed) .none kV21 dc21 pm21 an21 cd21 ct21), sl21⟩) (c21 : PySem.W.codeIn K cd21 "_law_handed" = true) (k21 : PySem.W.keepIn K (.ref f21) = true)
    (a22 : PySem.W.nsIn K mainGlobals "_law_powers" = some (some (.ref f22))) (l22 : K.lookup f22 = some ⟨oc22, od22, .func (PySem.W.fnOf "_law_powers" "_law_powers" (defArgs s__law_powers) (defBody s__law_powers) (defScope s__law_powers) .none kV22 dc22 pm22 an22 cd22 ct22), sl22⟩) (c22 : PySem.W.codeIn K cd22 "_law_powers" = true) (k22 : PySem.W.keepIn K (.ref f22) = true)
    (a23 : PySem.W.nsIn K mainGlobals "_law_once" = some (some (.ref f23))) (l23 : K.lookup f23 = some ⟨oc23, od23, .func (PySem.W.fnOf "_law_once" "_law_once" (defArgs s__law_once) (defBody s__law_once) (defScope s__law_once) .none kV23 dc23 pm23 an23 cd23 ct23), sl23⟩) (c23 : PySem.W.codeIn K cd23 "_law_once" = true) (k23 : PySem.W.keepIn K (.ref f23) = true)
    (a24 : PySem.W.nsIn K mainGlobals "_law_swapped" = some (some (.ref f24))) (l24 : K.lookup f24 = some ⟨oc24, od24, .func (PySem.W.fnOf "_law_swapped" "_law_swapped" (defArgs s__law_swapped) (defBody s__law_swapped) (defScope s__law_swapped) .none kV24 dc24 pm24 an24 cd24 ct24), sl24⟩) (c24 : PySem.W.codeIn K cd24 "_law_swapped" = true) (k24 : PySem.W.keepIn K (.ref f24) = true)
    (a25 : PySem.W.nsIn K mainGlobals "_law_spoilt" = some (some (.ref f25))) (l25 : K.lookup f25 = some ⟨oc25, od25, .func (PySem.W.fnOf "_law_spoilt" "_law_spoilt" (defArgs s__law_spoilt) (defBody s__law_spoilt) (defScope s__law_spoilt) .none kV25 dc25 pm25 an25 cd25 ct25), sl25⟩) (c25 : PySem.W.codeIn K cd25 "_law_spoilt" = true) (k25 : PySem.W.keepIn K (.ref f25) = true)
    (a26 : PySem.W.nsIn K mainGlobals "_law_spoilt_more" = some (some (.ref f26))) (l26 : K.lookup f26 = some ⟨oc26, od26, .func (PySem.W.fnOf "_law_spoilt_more" "_law_spoilt_more" (defArgs s__law_spoilt_more) (defBody s__law_spoilt_more) (defScope s__law_spoilt_more) .none kV26 dc26 pm26 an26 cd26 ct26), sl26⟩) (c26 : PySem.W.codeIn K cd26 "_law_spoilt_more" = true) (k26 : PySem.W.keepIn K (.ref f26) = true)
    (a27 : PySem.W.nsIn K mainGlobals "_law_right" = some (some (.ref f27))) (l27 : K.lookup f27 = some ⟨oc27, od27, .func (PySem.W.fnOf "_law_right" "_law_right" (defArgs s__law_right) (defBody s__law_right) (defScope s__law_right) .none kV27 dc27 pm27 an27 cd27 ct27), sl27⟩) (c27 : PySem.W.codeIn K cd27 "_law_right" = true) (k27 : PySem.W.keepIn K (.ref f27) = true)
    (a28 : PySem.W.nsIn K mainGlobals "law" = some (some (.ref f28))) (l28 : K.lookup f28 = some ⟨oc28, od28, .func (PySem.W.fnOf "law" "law" (defArgs s_law) (defBody s_law) (defScope s_law) .none kV28 dc28 pm28 an28 cd28 ct28), sl28⟩) (c28 : PySem.W.codeIn K cd28 "law" = true) (k28 : PySem.W.keepIn K (.ref f28) = true)
    (z0 : PySem.W.nsIn K mainGlobals "abs" = some none)
    (z1 : PySem.W.nsIn K mainGlobals "all" = some none)
    (z2 : PySem.W.nsIn K mainGlobals "bool" = some none)
    (z3 : PySem.W.nsIn K mainGlobals "int" = some none)
    (z4 : PySem.W.nsIn K mainGlobals "isinstance" = some none)
    (z5 : PySem.W.nsIn K mainGlobals "len" = some none)
    (z6 : PySem.W.nsIn K mainGlobals "list" = some none)
    (z7 : PySem.W.nsIn K mainGlobals "max" = some none)
    (z8 : PySem.W.nsIn K mainGlobals "min" = some none)
    (z9 : PySem.W.nsIn K mainGlobals "range" = some none)
    (z10 : PySem.W.nsIn K mainGlobals "repr" = some none)
    (z11 : PySem.W.nsIn K mainGlobals "sorted" = some none)
    (z12 : PySem.W.nsIn K mainGlobals "sum" = some none)
    (z13 : PySem.W.nsIn K mainGlobals "tuple" = some none)
    : ∃ fd : FuncData, (∀ (s : Shared) (v : Value), BindsTo s fd ⟨[v], []⟩ [("script", v)]) ∧ ∀ base : Heap, K.In base → base.Ns mainGlobals mg → base.NoDigits → FnG l.prog w K mg base 5 fa fd ["script"] (SpD K 1 f_law) := by
  have e := hfa.symm.trans (PySem.W.mg_of X G a28)
  cases e
  have F0 := fun_mk (st := s__law_cell) l0 c0 k0
  have F1 := fun_mk (st := s__law_digits) l1 c1 k1
  have F2 := fun_mk (st := s__law_gcd) l2 c2 k2
  have F3 := fun_mk (st := s_compose) l3 c3 k3
  have F4 := fun_mk (st := s__law_compose) l4 c4 k4
  have F5 := fun_mk (st := s__law_closed) l5 c5 k5
  have F6 := fun_mk (st := s__law_shuffled) l6 c6 k6
  have F7 := fun_mk (st := s__law_affine) l7 c7 k7
  have F8 := fun_mk (st := s__law_layers) l8 c8 k8
  have F9 := fun_mk (st := s__law_turns) l9 c9 k9
  have F10 := fun_mk (st := s__law_renumbered) l10 c10 k10
  have F11 := fun_mk (st := s__law_regular) l11 c11 k11
  have F12 := fun_mk (st := s__law_accepted) l12 c12 k12
  have F13 := fun_mk (st := s__law_three) l13 c13 k13
  have F14 := fun_mk (st := s__law_drawn) l14 c14 k14
  have F15 := fun_mk (st := s__law_same) l15 c15 k15
  have F16 := fun_mk (st := s_is_whole) l16 c16 k16
  have F17 := fun_mk (st := s_is_sequence) l17 c17 k17
  have F18 := fun_mk (st := s_is_permutation) l18 c18 k18
  have F19 := fun_mk (st := s_is_table) l19 c19 k19
  have F20 := fun_mk (st := s__law_judged) l20 c20 k20
  have F21 := fun_mk (st := s__law_handed) l21 c21 k21
  have F22 := fun_mk (st := s__law_powers) l22 c22 k22
  have F23 := fun_mk (st := s__law_once) l23 c23 k23
  have F24 := fun_mk (st := s__law_swapped) l24 c24 k24
  have F25 := fun_mk (st := s__law_spoilt) l25 c25 k25
  have F26 := fun_mk (st := s__law_spoilt_more) l26 c26 k26
  have F27 := fun_mk (st := s__law_right) l27 c27 k27
  have F28 := fun_mk (st := s_law) l28 c28 k28
  have m_abs := PySem.W.mg_none_of X G z0
  have m_all := PySem.W.mg_none_of X G z1
  have m_bool := PySem.W.mg_none_of X G z2
  have m_int := PySem.W.mg_none_of X G z3
  have m_isinstance := PySem.W.mg_none_of X G z4
  have m_len := PySem.W.mg_none_of X G z5
  have m_list := PySem.W.mg_none_of X G z6
  have m_max := PySem.W.mg_none_of X G z7
  have m_min := PySem.W.mg_none_of X G z8
  have m_range := PySem.W.mg_none_of X G z9
  have m_repr := PySem.W.mg_none_of X G z10
  have m_sorted := PySem.W.mg_none_of X G z11
  have m_sum := PySem.W.mg_none_of X G z12
  have m_tuple := PySem.W.mg_none_of X G z13
  have b0 := F0.binds (ps := ["script", "k"]) fun _ _ _ _ _ _ us hl => match us, hl with | [_, _], _ => rfl
  have b1 := F1.binds (ps := ["cell", "sizes"]) fun _ _ _ _ _ _ us hl => match us, hl with | [_, _], _ => rfl
  have b2 := F2.binds (ps := ["one", "two"]) fun _ _ _ _ _ _ us hl => match us, hl with | [_, _], _ => rfl
  have b3 := F3.binds (ps := ["one", "two"]) fun _ _ _ _ _ _ us hl => match us, hl with | [_, _], _ => rfl
  have b4 := F4.binds (ps := ["one", "two"]) fun _ _ _ _ _ _ us hl => match us, hl with | [_, _], _ => rfl
  have b5 := F5.binds (ps := ["size", "generators", "most"]) fun _ _ _ _ _ _ us hl => match us, hl with | [_, _, _], _ => rfl
  have b6 := F6.binds (ps := ["cell", "size"]) fun _ _ _ _ _ _ us hl => match us, hl with | [_, _], _ => rfl
  have b7 := F7.binds (ps := ["cell", "size"]) fun _ _ _ _ _ _ us hl => match us, hl with | [_, _], _ => rfl
  have b8 := F8.binds (ps := ["cell", "mask"]) fun _ _ _ _ _ _ us hl => match us, hl with | [_, _], _ => rfl
  have b9 := F9.binds (ps := ["cell", "blocks"]) fun _ _ _ _ _ _ us hl => match us, hl with | [_, _], _ => rfl
  have b10 := F10.binds (ps := ["one", "names"]) fun _ _ _ _ _ _ us hl => match us, hl with | [_, _], _ => rfl
  have b11 := F11.binds (ps := ["drawn"]) fun _ _ _ _ _ _ us hl => match us, hl with | [_], _ => rfl
  have b12 := F12.binds (ps := ["size", "drawn", "most"]) fun _ _ _ _ _ _ us hl => match us, hl with | [_, _, _], _ => rfl
  have b13 := F13.binds (ps := ["cell", "size"]) fun _ _ _ _ _ _ us hl => match us, hl with | [_, _], _ => rfl
  have b14 := F14.binds (ps := ["script"]) fun _ _ _ _ _ _ us hl => match us, hl with | [_], _ => rfl
  have b15 := F15.binds (ps := ["told", "due"]) fun _ _ _ _ _ _ us hl => match us, hl with | [_, _], _ => rfl
  have b16 := F16.binds (ps := ["value"]) fun _ _ _ _ _ _ us hl => match us, hl with | [_], _ => rfl
  have b17 := F17.binds (ps := ["value"]) fun _ _ _ _ _ _ us hl => match us, hl with | [_], _ => rfl
  have b18 := F18.binds (ps := ["value", "size"]) fun _ _ _ _ _ _ us hl => match us, hl with | [_, _], _ => rfl
  have b19 := F19.binds (ps := ["table", "size"]) fun _ _ _ _ _ _ us hl => match us, hl with | [_, _], _ => rfl
  have b20 := F20.binds (ps := ["rows", "size"]) fun _ _ _ _ _ _ us hl => match us, hl with | [_, _], _ => rfl
  have b21 := F21.binds (ps := ["table", "way"]) fun _ _ _ _ _ _ us hl => match us, hl with | [_, _], _ => rfl
  have b22 := F22.binds (ps := ["size", "one"]) fun _ _ _ _ _ _ us hl => match us, hl with | [_, _], _ => rfl
  have b23 := F23.binds (ps := ["rows"]) fun _ _ _ _ _ _ us hl => match us, hl with | [_], _ => rfl
  have b24 := F24.binds (ps := ["one", "first", "second"]) fun _ _ _ _ _ _ us hl => match us, hl with | [_, _, _], _ => rfl
  have b25 := F25.binds (ps := ["kind", "table", "size", "row"]) fun _ _ _ _ _ _ us hl => match us, hl with | [_, _, _, _], _ => rfl
  have b26 := F26.binds (ps := ["kind", "table", "size", "row"]) fun _ _ _ _ _ _ us hl => match us, hl with | [_, _, _, _], _ => rfl
  have b27 := F27.binds (ps := ["kind", "table", "size", "row"]) fun _ _ _ _ _ _ us hl => match us, hl with | [_, _, _, _], _ => rfl
  refine ⟨PySem.W.fnOf "law" "law" (defArgs s_law) (defBody s_law) (defScope s_law) .none kV28 dc28 pm28 an28 cd28 ct28, fun s v => .of_eq rfl, fun base _ _ hdg => ?_⟩
  have R__law_cell : Ready l.prog w K mg base "_law_cell" 2 1 f__law_cell := ⟨_, _, _, ok__law_cell (k := 0) F0 hdg m_int m_len, PySem.W.mg_of X G a0, k0, b0⟩
  have R__law_digits : Ready l.prog w K mg base "_law_digits" 2 1 f__law_digits := ⟨_, _, _, ok__law_digits (k := 0) F1 hdg m_int m_len m_range, PySem.W.mg_of X G a1, k1, b1⟩
  have R__law_gcd : Ready l.prog w K mg base "_law_gcd" 2 1 f__law_gcd := ⟨_, _, _, ok__law_gcd (k := 0) F2 hdg m_abs m_int, PySem.W.mg_of X G a2, k2, b2⟩
  have R_compose : Ready l.prog w K mg base "compose" 2 1 f_compose := ⟨_, _, _, ok_compose (k := 0) F3 hdg m_tuple, PySem.W.mg_of X G a3, k3, b3⟩
  have R__law_compose : Ready l.prog w K mg base "_law_compose" 2 1 f__law_compose := ⟨_, _, _, ok__law_compose (k := 0) F4 hdg m_tuple, PySem.W.mg_of X G a4, k4, b4⟩
  have R__law_closed : Ready l.prog w K mg base "_law_closed" 3 2 f__law_closed := ⟨_, _, _, ok__law_closed (k := 1) F5 hdg m_len m_range m_tuple (R__law_compose.mono (by decide)), PySem.W.mg_of X G a5, k5, b5⟩
  have R__law_shuffled : Ready l.prog w K mg base "_law_shuffled" 2 2 f__law_shuffled := ⟨_, _, _, ok__law_shuffled (k := 1) F6 hdg m_range m_tuple (R__law_digits.mono (by decide)), PySem.W.mg_of X G a6, k6, b6⟩
  have R__law_affine : Ready l.prog w K mg base "_law_affine" 2 2 f__law_affine := ⟨_, _, _, ok__law_affine (k := 1) F7 hdg m_int m_range m_tuple (R__law_digits.mono (by decide)) (R__law_gcd.mono (by decide)), PySem.W.mg_of X G a7, k7, b7⟩
  have R__law_layers : Ready l.prog w K mg base "_law_layers" 2 2 f__law_layers := ⟨_, _, _, ok__law_layers (k := 1) F8 hdg m_int m_len m_range m_tuple (R__law_digits.mono (by decide)), PySem.W.mg_of X G a8, k8, b8⟩
  have R__law_turns : Ready l.prog w K mg base "_law_turns" 2 2 f__law_turns := ⟨_, _, _, ok__law_turns (k := 1) F9 hdg m_int m_len m_range m_tuple (R__law_digits.mono (by decide)), PySem.W.mg_of X G a9, k9, b9⟩
  have R__law_renumbered : Ready l.prog w K mg base "_law_renumbered" 2 1 f__law_renumbered := ⟨_, _, _, ok__law_renumbered (k := 0) F10 hdg m_len m_range m_tuple, PySem.W.mg_of X G a10, k10, b10⟩
  have R__law_regular : Ready l.prog w K mg base "_law_regular" 1 3 f__law_regular := ⟨_, _, _, ok__law_regular (k := 2) F11 hdg m_len m_range m_sorted m_tuple (R__law_closed.mono (by decide)) (R__law_compose.mono (by decide)), PySem.W.mg_of X G a11, k11, b11⟩
  have R__law_accepted : Ready l.prog w K mg base "_law_accepted" 3 3 f__law_accepted := ⟨_, _, _, ok__law_accepted (k := 2) F12 hdg m_sorted (R__law_closed.mono (by decide)), PySem.W.mg_of X G a12, k12, b12⟩
  have R__law_three : Ready l.prog w K mg base "_law_three" 2 3 f__law_three := ⟨_, _, _, ok__law_three (k := 2) F13 hdg m_int m_min m_range m_tuple (R__law_shuffled.mono (by decide)), PySem.W.mg_of X G a13, k13, b13⟩
  have R__law_drawn : Ready l.prog w K mg base "_law_drawn" 1 4 f__law_drawn := ⟨_, _, _, ok__law_drawn (k := 3) F14 hdg m_int m_len m_min m_range m_sum m_tuple (R__law_digits.mono (by decide)) (R__law_cell.mono (by decide)) (R__law_shuffled.mono (by decide)) (R__law_layers.mono (by decide)) (R__law_turns.mono (by decide)) (R__law_affine.mono (by decide)) (R__law_regular.mono (by decide)) (R__law_three.mono (by decide)) (R__law_renumbered.mono (by decide)), PySem.W.mg_of X G a14, k14, b14⟩
  have R__law_same : Ready l.prog w K mg base "_law_same" 2 1 f__law_same := ⟨_, _, _, ok__law_same (k := 0) F15 hdg m_repr, PySem.W.mg_of X G a15, k15, b15⟩
  have R_is_whole : Ready l.prog w K mg base "is_whole" 1 1 f_is_whole := ⟨_, _, _, ok_is_whole (k := 0) F16 hdg m_bool m_int m_isinstance, PySem.W.mg_of X G a16, k16, b16⟩
  have R_is_sequence : Ready l.prog w K mg base "is_sequence" 1 1 f_is_sequence := ⟨_, _, _, ok_is_sequence (k := 0) F17 hdg m_isinstance m_list m_tuple, PySem.W.mg_of X G a17, k17, b17⟩
  have R_is_permutation : Ready l.prog w K mg base "is_permutation" 2 2 f_is_permutation := ⟨_, _, _, ok_is_permutation (k := 1) F18 hdg m_all m_len m_list m_range m_sorted (R_is_whole.mono (by decide)) (R_is_sequence.mono (by decide)), PySem.W.mg_of X G a18, k18, b18⟩
  have R_is_table : Ready l.prog w K mg base "is_table" 2 3 f_is_table := ⟨_, _, _, ok_is_table (k := 2) F19 hdg m_all m_len m_range m_tuple (R_is_permutation.mono (by decide)) (R_compose.mono (by decide)), PySem.W.mg_of X G a19, k19, b19⟩
  have R__law_judged : Ready l.prog w K mg base "_law_judged" 2 3 f__law_judged := ⟨_, _, _, ok__law_judged (k := 2) F20 hdg m_len m_range m_sorted (R__law_closed.mono (by decide)), PySem.W.mg_of X G a20, k20, b20⟩
  have R__law_handed : Ready l.prog w K mg base "_law_handed" 2 1 f__law_handed := ⟨_, _, _, ok__law_handed (k := 0) F21 hdg m_list m_tuple, PySem.W.mg_of X G a21, k21, b21⟩
  have R__law_powers : Ready l.prog w K mg base "_law_powers" 2 2 f__law_powers := ⟨_, _, _, ok__law_powers (k := 1) F22 hdg m_range m_sorted m_tuple (R__law_compose.mono (by decide)), PySem.W.mg_of X G a22, k22, b22⟩
  have R__law_once : Ready l.prog w K mg base "_law_once" 1 1 f__law_once := ⟨_, _, _, ok__law_once (k := 0) F23 hdg m_len m_sorted, PySem.W.mg_of X G a23, k23, b23⟩
  have R__law_swapped : Ready l.prog w K mg base "_law_swapped" 3 1 f__law_swapped := ⟨_, _, _, ok__law_swapped (k := 0) F24 hdg m_list m_tuple, PySem.W.mg_of X G a24, k24, b24⟩
  have R__law_spoilt : Ready l.prog w K mg base "_law_spoilt" 4 2 f__law_spoilt := ⟨_, _, _, ok__law_spoilt (k := 1) F25 hdg m_int m_len m_list m_range m_tuple (R__law_compose.mono (by decide)), PySem.W.mg_of X G a25, k25, b25⟩
  have R__law_spoilt_more : Ready l.prog w K mg base "_law_spoilt_more" 4 3 f__law_spoilt_more := ⟨_, _, _, ok__law_spoilt_more (k := 2) F26 hdg m_int m_len m_list m_max (R__law_swapped.mono (by decide)) (R__law_once.mono (by decide)) (R__law_compose.mono (by decide)) (R__law_powers.mono (by decide)), PySem.W.mg_of X G a26, k26, b26⟩
  have R__law_right : Ready l.prog w K mg base "_law_right" 4 3 f__law_right := ⟨_, _, _, ok__law_right (k := 2) F27 hdg m_int m_len m_range m_sorted m_tuple (R__law_powers.mono (by decide)) (R__law_swapped.mono (by decide)) (R__law_renumbered.mono (by decide)), PySem.W.mg_of X G a27, k27, b27⟩
  exact ok_law (k := 4) F28 hdg m_int m_len m_min m_range (R__law_drawn.mono (by decide)) (R__law_digits.mono (by decide)) (R__law_cell.mono (by decide)) (R__law_accepted.mono (by decide)) (R_is_table.mono (by decide)) (R__law_handed.mono (by decide)) (R__law_right.mono (by decide)) (R__law_spoilt.mono (by decide)) (R__law_spoilt_more.mono (by decide)) (R__law_same.mono (by decide)) (R__law_judged.mono (by decide))
end K43
open PySem PySem.W PyProof.Rows
set_option maxHeartbeats 0 in
theorem PySem.Challenge.cw_leastnest_k43_table_judge_holds : PySem.Challenge.rw_leastnest_k43_table_judge.Holds := by
  w_on; o_law; k_head; (case hw => w_witness2)
  k_fill
  refine DL.walk_G (l := PySem.Challenge.rw_leastnest_k43_table_judge) (n := 63) (k := 5) (x := "script") (g := K43.f_law) rfl (by decide) rfl ⟨rfl, by decide, by decide⟩ (fun w h Y => PySem.W.kIn_of Y) ?F K43.law_call
  case F =>
    intro w mg fa h KX G hmg
    refine' K43.all_mk KX G hmg ?a0 ?l0 ?c0 ?k0 ?a1 ?l1 ?c1 ?k1 ?a2 ?l2 ?c2 ?k2 ?a3 ?l3 ?c3 ?k3 ?a4 ?l4 ?c4 ?k4 ?a5 ?l5 ?c5 ?k5 ?a6 ?l6 ?c6 ?k6 ?a7 ?l7 ?c7 ?k7 ?a8 ?l8 ?c8 ?k8 ?a9 ?l9 ?c9 ?k9 ?a10 ?l10 ?c10 ?k10 ?a11 ?l11 ?c11 ?k11 ?a12 ?l12 ?c12 ?k12 ?a13 ?l13 ?c13 ?k13 ?a14 ?l14 ?c14 ?k14 ?a15 ?l15 ?c15 ?k15 ?a16 ?l16 ?c16 ?k16 ?a17 ?l17 ?c17 ?k17 ?a18 ?l18 ?c18 ?k18 ?a19 ?l19 ?c19 ?k19 ?a20 ?l20 ?c20 ?k20 ?a21 ?l21 ?c21 ?k21 ?a22 ?l22 ?c22 ?k22 ?a23 ?l23 ?c23 ?k23 ?a24 ?l24 ?c24 ?k24 ?a25 ?l25 ?c25 ?k25 ?a26 ?l26 ?c26 ?k26 ?a27 ?l27 ?c27 ?k27 ?a28 ?l28 ?c28 ?k28 ?z0 ?z1 ?z2 ?z3 ?z4 ?z5 ?z6 ?z7 ?z8 ?z9 ?z10 ?z11 ?z12 ?z13
    (case a0 => k_is)
    (case l0 => k_is)
    (case c0 => k_is)
    (case k0 => k_is)
    (case a1 => k_is)
    (case l1 => k_is)
    (case c1 => k_is)
    (case k1 => k_is)
    (case a2 => k_is)
    (case l2 => k_is)
    (case c2 => k_is)
    (case k2 => k_is)
    (case a3 => k_is)
    (case l3 => k_is)
    (case c3 => k_is)
    (case k3 => k_is)
    (case a4 => k_is)
    (case l4 => k_is)
    (case c4 => k_is)
    (case k4 => k_is)
    (case a5 => k_is)
    (case l5 => k_is)
    (case c5 => k_is)
    (case k5 => k_is)
    (case a6 => k_is)
    (case l6 => k_is)
    (case c6 => k_is)
    (case k6 => k_is)
    (case a7 => k_is)
    (case l7 => k_is)
    (case c7 => k_is)
    (case k7 => k_is)
    (case a8 => k_is)
    (case l8 => k_is)
    (case c8 => k_is)
    (case k8 => k_is)
    (case a9 => k_is)
    (case l9 => k_is)
    (case c9 => k_is)
    (case k9 => k_is)
    (case a10 => k_is)
    (case l10 => k_is)
    (case c10 => k_is)
    (case k10 => k_is)
    (case a11 => k_is)
    (case l11 => k_is)
    (case c11 => k_is)
    (case k11 => k_is)
    (case a12 => k_is)
    (case l12 => k_is)
    (case c12 => k_is)
    (case k12 => k_is)
    (case a13 => k_is)
    (case l13 => k_is)
    (case c13 => k_is)
    (case k13 => k_is)
    (case a14 => k_is)
    (case l14 => k_is)
    (case c14 => k_is)
    (case k14 => k_is)
    (case a15 => k_is)
    (case l15 => k_is)
    (case c15 => k_is)
    (case k15 => k_is)
    (case a16 => k_is)
    (case l16 => k_is)
    (case c16 => k_is)
    (case k16 => k_is)
    (case a17 => k_is)
    (case l17 => k_is)
    (case c17 => k_is)
    (case k17 => k_is)
    (case a18 => k_is)
    (case l18 => k_is)
    (case c18 => k_is)
    (case k18 => k_is)
    (case a19 => k_is)
    (case l19 => k_is)
    (case c19 => k_is)
    (case k19 => k_is)
    (case a20 => k_is)
    (case l20 => k_is)
    (case c20 => k_is)
    (case k20 => k_is)
    (case a21 => k_is)
    (case l21 => k_is)
    (case c21 => k_is)
    (case k21 => k_is)
    (case a22 => k_is)
    (case l22 => k_is)
    (case c22 => k_is)
    (case k22 => k_is)
    (case a23 => k_is)
    (case l23 => k_is)
    (case c23 => k_is)
    (case k23 => k_is)
    (case a24 => k_is)
    (case l24 => k_is)
    (case c24 => k_is)
    (case k24 => k_is)
    (case a25 => k_is)
    (case l25 => k_is)
    (case c25 => k_is)
    (case k25 => k_is)
    (case a26 => k_is)
    (case l26 => k_is)
    (case c26 => k_is)
    (case k26 => k_is)
    (case a27 => k_is)
    (case l27 => k_is)
    (case c27 => k_is)
    (case k27 => k_is)
    (case a28 => k_is)
    (case l28 => k_is)
    (case c28 => k_is)
    (case k28 => k_is)
    (case z0 => k_is)
    (case z1 => k_is)
    (case z2 => k_is)
    (case z3 => k_is)
    (case z4 => k_is)
    (case z5 => k_is)
    (case z6 => k_is)
    (case z7 => k_is)
    (case z8 => k_is)
    (case z9 => k_is)
    (case z10 => k_is)
    (case z11 => k_is)
    (case z12 => k_is)
    (case z13 => k_is)

