import PyProof.Rows.All
import Wide.All
import OpenK.AllK
import Wide.FinOn
import HandS.ForMost
import HandS.Property
import HandS.OwnEq
import HandS.DictComp
import HandS.IsInst
import HandS.ClsMeth
import HandS.TupAny
import HandS.SetKeys
import HandS.Set
import HandS.SetBool
import HandS.GenCall
import HandS.Codes
import HandS.Conv
import HandS.Defaults
import HandS.Walk
import KE.SortData
import KE.DataCmp
import HandS.Keys
import HandS.GenOver
import HandS.GenList
import PySem.Challenge.RW_extralink_k84_whole_witness_for_extra_li
set_option Elab.async false
set_option linter.all false
set_option maxRecDepth 100000
set_option maxHeartbeats 4000000
/-! Plain mathematics of the extra-link law: growth of a net, the cut property. No program in sight. -/
namespace XL

/-! ### raw nets: links by their place in a list -/
inductive IPath (L : List (Nat × Nat)) : Nat → List Nat → Nat → Prop
  | nil (p : Nat) : IPath L p [] p
  | cons {i t h : Nat} {w : List Nat} {e : Nat} : L[i]? = some (t, h) → IPath L h w e → IPath L t (i :: w) e

theorem IPath.append {L : List (Nat × Nat)} {p q r : Nat} {v w : List Nat} (a : IPath L p v q) (b : IPath L q w r) : IPath L p (v ++ w) r := by
  induction a with
  | nil p => exact b
  | cons h _ ih => exact .cons h (ih b)

theorem IPath.one {L : List (Nat × Nat)} {i t h : Nat} (e : L[i]? = some (t, h)) : IPath L t [i] h := .cons e (.nil h)

theorem IPath.mapI {L M : List (Nat × Nat)} {f : Nat → Nat} (hf : ∀ (i t h : Nat), L[i]? = some (t, h) → M[f i]? = some (t, h)) {p q : Nat} {w : List Nat} (a : IPath L p w q) : IPath M p (w.map f) q := by
  induction a with
  | nil p => exact .nil p
  | cons e _ ih => exact .cons (hf _ _ _ e) ih
theorem IPath.flatI {L M : List (Nat × Nat)} {f : Nat → List Nat} (hf : ∀ (i t h : Nat), L[i]? = some (t, h) → IPath M t (f i) h) {p q : Nat} {w : List Nat} (a : IPath L p w q) : IPath M p (w.flatMap f) q := by
  induction a with
  | nil p => exact .nil p
  | cons e _ ih =>
    rw [List.flatMap_cons]
    exact (hf _ _ _ e).append ih

/-- a net grown from one link; the places in an order along the links -/
inductive Grown : List (Nat × Nat) → List Nat → Prop
  | base : Grown [(0, 1)] [0, 1]
  | split {L : List (Nat × Nat)} {ord : List Nat} {j t h a : Nat} : Grown L ord → L[j]? = some (t, h) → ord[a]? = some t →
      Grown (L.set j (t, ord.length) ++ [(ord.length, h)]) (ord.insertIdx (a + 1) ord.length)
  | dup {L : List (Nat × Nat)} {ord : List Nat} {j t h : Nat} : Grown L ord → L[j]? = some (t, h) → Grown (L ++ [(t, h)]) ord

/-- a way of good links, or a cut closed under predecessors whose outgoing links are all bad -/
def ICut (L : List (Nat × Nat)) : Prop := ∀ good : Nat → Bool,
  (∃ w, IPath L 0 w 1 ∧ ∀ i ∈ w, good i = true) ∨
  ∃ S : Nat → Bool, S 0 = true ∧ S 1 = false ∧ (∀ (i t h : Nat), L[i]? = some (t, h) → S h = true → S t = true) ∧
    ∀ (i t h : Nat), L[i]? = some (t, h) → S t = true → S h = false → good i = false

theorem cut_base : ICut [(0, 1)] := by
  intro good
  cases hg : good 0 with
  | true =>
    refine .inl ⟨[0], IPath.one rfl, fun i hi => ?_⟩
    rw [List.mem_singleton.mp hi]
    exact hg
  | false =>
    refine .inr ⟨fun p => p == 0, rfl, rfl, fun i t h e hS => ?_, fun i t h e _ _ => ?_⟩
    · match i, e with
      | 0, e => cases e; cases hS
    · match i, e with
      | 0, e => exact hg

theorem get_append_left {α : Type} {L M : List α} {i : Nat} {x : α} (e : L[i]? = some x) : (L ++ M)[i]? = some x := by
  have h := (List.getElem?_eq_some_iff.mp e).1
  rw [List.getElem?_append_left h]
  exact e

theorem get_snoc_inv {α : Type} {L : List α} {y : α} {i : Nat} {x : α} (e : (L ++ [y])[i]? = some x) : L[i]? = some x ∨ (i = L.length ∧ x = y) := by
  by_cases h : i < L.length
  · rw [List.getElem?_append_left h] at e
    exact .inl e
  · have h' : L.length ≤ i := Nat.le_of_not_lt h
    rw [List.getElem?_append_right h'] at e
    by_cases z : i - L.length = 0
    · rw [z] at e
      refine .inr ⟨by omega, ?_⟩
      simpa using e.symm
    · obtain ⟨k, hk⟩ : ∃ k, i - L.length = k + 1 := ⟨i - L.length - 1, by omega⟩
      rw [hk] at e
      simp at e

theorem cut_dup {L : List (Nat × Nat)} {j t h : Nat} (c : ICut L) (ej : L[j]? = some (t, h)) : ICut (L ++ [(t, h)]) := by
  intro good
  rcases c (fun i => if i = j then good j || good L.length else good i) with ⟨w, pw, gw⟩ | ⟨S, s0, s1, cl, bad⟩
  · refine .inl ⟨w.map (fun i => if i = j then (if good j = true then j else L.length) else i), ?_, ?_⟩
    · refine pw.mapI fun i t' h' ei => ?_
      by_cases z : i = j
      · subst z
        rw [ej] at ei
        cases ei
        rw [if_pos rfl]
        by_cases g : good i = true
        · rw [if_pos g]
          exact get_append_left ej
        · rw [if_neg g]
          simp
      · rw [if_neg z]
        exact get_append_left ei
    · intro i hi
      obtain ⟨k, hk, rfl⟩ := List.mem_map.mp hi
      have q := gw k hk
      by_cases z : k = j
      · rw [if_pos z] at q ⊢
        by_cases g : good j = true
        · rw [if_pos g]
          exact g
        · rw [if_neg g]
          rcases Bool.or_eq_true_iff.mp q with q | q
          · exact absurd q g
          · exact q
      · rw [if_neg z] at q ⊢
        exact q
  · refine .inr ⟨S, s0, s1, fun i t' h' e hS => ?_, fun i t' h' e hS hN => ?_⟩
    · rcases get_snoc_inv e with e | ⟨_, e⟩
      · exact cl i t' h' e hS
      · cases e
        exact cl j t h ej hS
    · rcases get_snoc_inv e with e | ⟨k, e⟩
      · have q := bad i t' h' e hS hN
        by_cases z : i = j
        · rw [if_pos z] at q
          rw [z]
          exact (Bool.or_eq_false_iff.mp q).1
        · rw [if_neg z] at q
          exact q
      · cases e
        have q := bad j t h ej hS hN
        rw [if_pos rfl] at q
        rw [k]
        exact (Bool.or_eq_false_iff.mp q).2

theorem get_set_inv {α : Type} {L : List α} {j : Nat} {y : α} {i : Nat} {x : α} (e : (L.set j y)[i]? = some x) : (i = j ∧ x = y) ∨ (i ≠ j ∧ L[i]? = some x) := by
  by_cases z : i = j
  · subst z
    rw [List.getElem?_set] at e
    simp at e
    exact .inl ⟨rfl, e.2.symm⟩
  · rw [List.getElem?_set_ne (fun q => z q.symm)] at e
    exact .inr ⟨z, e⟩

theorem get_set_self {α : Type} {L : List α} {j : Nat} {y x : α} (e : L[j]? = some x) : (L.set j y)[j]? = some y := by
  have h := (List.getElem?_eq_some_iff.mp e).1
  rw [List.getElem?_set]
  simp [h]

theorem cut_split {L : List (Nat × Nat)} {j t h n : Nat} (c : ICut L) (ej : L[j]? = some (t, h)) (hn : ∀ (i a b : Nat), L[i]? = some (a, b) → a ≠ n ∧ b ≠ n) (hn0 : n ≠ 0) (hn1 : n ≠ 1) :
    ICut (L.set j (t, n) ++ [(n, h)]) := by
  intro good
  have ej' : (L.set j (t, n) ++ [(n, h)])[j]? = some (t, n) := get_append_left (get_set_self ej)
  have em' : (L.set j (t, n) ++ [(n, h)])[L.length]? = some (n, h) := by simp
  obtain ⟨ht, hh⟩ := hn j t h ej
  rcases c (fun i => if i = j then good j && good L.length else good i) with ⟨w, pw, gw⟩ | ⟨S, s0, s1, cl, bad⟩
  · refine .inl ⟨w.flatMap (fun i => if i = j then [j, L.length] else [i]), ?_, ?_⟩
    · refine pw.flatI fun i t' h' ei => ?_
      by_cases z : i = j
      · subst z
        rw [ej] at ei
        cases ei
        rw [if_pos rfl]
        exact .cons ej' (IPath.one em')
      · rw [if_neg z]
        refine IPath.one (get_append_left ?_)
        rw [List.getElem?_set_ne (fun q => z q.symm)]
        exact ei
    · intro i hi
      obtain ⟨k, hk, q⟩ := List.mem_flatMap.mp hi
      have g := gw k hk
      by_cases z : k = j
      · rw [if_pos z] at q g
        obtain ⟨g1, g2⟩ := Bool.and_eq_true_iff.mp g
        rcases List.mem_cons.mp q with q | q
        · rw [q]; exact g1
        · rw [List.mem_singleton.mp q]; exact g2
      · rw [if_neg z] at q g
        rw [List.mem_singleton.mp q]
        exact g
  · refine .inr ⟨fun p => if p = n then S t && (S h || good j) else S p, ?_, ?_, ?_, ?_⟩
    · show (if 0 = n then _ else S 0) = true
      rw [if_neg (fun q => hn0 q.symm)]
      exact s0
    · show (if 1 = n then _ else S 1) = false
      rw [if_neg (fun q => hn1 q.symm)]
      exact s1
    · intro i a b e hS
      dsimp only at hS ⊢
      rcases get_snoc_inv e with e | ⟨_, e⟩
      · rcases get_set_inv e with ⟨_, e⟩ | ⟨_, e⟩
        · cases e
          rw [if_pos rfl] at hS
          rw [if_neg ht]
          exact (Bool.and_eq_true_iff.mp hS).1
        · obtain ⟨ha, hb⟩ := hn i a b e
          rw [if_neg hb] at hS
          rw [if_neg ha]
          exact cl i a b e hS
      · cases e
        rw [if_neg hh] at hS
        rw [if_pos rfl, hS, cl j t _ ej hS]
        rfl
    · intro i a b e hS hN
      dsimp only at hS hN
      rcases get_snoc_inv e with e | ⟨k, e⟩
      · rcases get_set_inv e with ⟨z, e⟩ | ⟨z, e⟩
        · cases e
          rw [if_neg ht] at hS
          rw [if_pos rfl, hS] at hN
          rw [z]
          exact (Bool.or_eq_false_iff.mp (by simpa using hN)).2
        · obtain ⟨ha, hb⟩ := hn i a b e
          rw [if_neg ha] at hS
          rw [if_neg hb] at hN
          have q := bad i a b e hS hN
          rw [if_neg z] at q
          exact q
      · cases e
        rw [if_neg hh] at hN
        rw [if_pos rfl, hN] at hS
        obtain ⟨q1, q2⟩ := Bool.and_eq_true_iff.mp hS
        have q2 : good j = true := by simpa using q2
        have q := bad j t _ ej q1 hN
        rw [if_pos rfl, q2] at q
        rw [k, List.length_set]
        simpa using q

/-! ### what growth keeps -/
structure GOk (L : List (Nat × Nat)) (ord : List Nat) : Prop where
  nd : ord.Nodup
  mem : ∀ p, p ∈ ord ↔ p < ord.length
  two : 2 ≤ ord.length
  dir : ∀ (i t h : Nat), L[i]? = some (t, h) → ∃ a b : Nat, ord[a]? = some t ∧ ord[b]? = some h ∧ a < b
  frm : ∀ p, p ∈ ord → ∃ w, IPath L 0 w p
  to : ∀ p, p ∈ ord → ∃ w, IPath L p w 1
  last : ∃ r, ord = r ++ [1]
  cut : ICut L

theorem GOk.ends {L : List (Nat × Nat)} {ord : List Nat} (g : GOk L ord) {i t h : Nat} (e : L[i]? = some (t, h)) : t ∈ ord ∧ h ∈ ord := by
  obtain ⟨a, b, ha, hb, _⟩ := g.dir i t h e
  exact ⟨List.mem_of_getElem? ha, List.mem_of_getElem? hb⟩
theorem GOk.lt {L : List (Nat × Nat)} {ord : List Nat} (g : GOk L ord) {i t h : Nat} (e : L[i]? = some (t, h)) : t < ord.length ∧ h < ord.length := by
  obtain ⟨a, b⟩ := g.ends e
  exact ⟨(g.mem t).mp a, (g.mem h).mp b⟩

theorem IPath.mono {L M : List (Nat × Nat)} (hm : ∀ (i t h : Nat), L[i]? = some (t, h) → ∃ w, IPath M t w h) {p q : Nat} {w : List Nat} (a : IPath L p w q) : ∃ v, IPath M p v q := by
  induction a with
  | nil p => exact ⟨[], .nil p⟩
  | cons e _ ih =>
    obtain ⟨v, hv⟩ := hm _ _ _ e
    obtain ⟨u, hu⟩ := ih
    exact ⟨v ++ u, hv.append hu⟩

theorem gok_base : GOk [(0, 1)] [0, 1] where
  nd := by decide
  mem := fun p => by simp; omega
  two := by decide
  dir := fun i t h e => by
    match i, e with
    | 0, e => cases e; exact ⟨0, 1, rfl, rfl, by decide⟩
  frm := fun p hp => by
    rcases List.mem_cons.mp hp with rfl | hp
    · exact ⟨[], .nil 0⟩
    · rw [List.mem_singleton.mp hp]
      exact ⟨[0], IPath.one rfl⟩
  to := fun p hp => by
    rcases List.mem_cons.mp hp with rfl | hp
    · exact ⟨[0], IPath.one rfl⟩
    · rw [List.mem_singleton.mp hp]
      exact ⟨[], .nil 1⟩
  last := ⟨[0], rfl⟩
  cut := cut_base

theorem gok_dup {L : List (Nat × Nat)} {ord : List Nat} {j t h : Nat} (g : GOk L ord) (ej : L[j]? = some (t, h)) : GOk (L ++ [(t, h)]) ord where
  nd := g.nd
  mem := g.mem
  two := g.two
  dir := fun i a b e => by
    rcases get_snoc_inv e with e | ⟨_, e⟩
    · exact g.dir i a b e
    · cases e
      exact g.dir j t h ej
  frm := fun p hp => by
    obtain ⟨w, hw⟩ := g.frm p hp
    exact hw.mono fun i a b e => ⟨[i], IPath.one (get_append_left e)⟩
  to := fun p hp => by
    obtain ⟨w, hw⟩ := g.to p hp
    exact hw.mono fun i a b e => ⟨[i], IPath.one (get_append_left e)⟩
  last := g.last
  cut := cut_dup g.cut ej

theorem insert_get_lt {α : Type} {l : List α} {a i : Nat} {x y : α} (h : i < a) (e : l[i]? = some y) : (l.insertIdx a x)[i]? = some y := by
  rw [List.getElem?_insertIdx_of_lt h]
  exact e
theorem insert_get_ge {α : Type} {l : List α} {a i : Nat} {x y : α} (h : a ≤ i) (e : l[i]? = some y) : (l.insertIdx a x)[i + 1]? = some y := by
  rw [List.getElem?_insertIdx_of_gt (by omega)]
  exact e

theorem insert_snoc {α : Type} {x y : α} : ∀ (r : List α) (k : Nat), k ≤ r.length → (r ++ [y]).insertIdx k x = r.insertIdx k x ++ [y]
  | r, 0, _ => by simp
  | [], k + 1, h => by simp at h
  | z :: r, k + 1, h => by
    have ih := insert_snoc (x := x) (y := y) r k (by simpa using h)
    simp [List.insertIdx_succ_cons, ih]

theorem gok_split {L : List (Nat × Nat)} {ord : List Nat} {j t h a : Nat} (g : GOk L ord) (ej : L[j]? = some (t, h)) (ea : ord[a]? = some t) :
    GOk (L.set j (t, ord.length) ++ [(ord.length, h)]) (ord.insertIdx (a + 1) ord.length) := by
  have ha : a < ord.length := (List.getElem?_eq_some_iff.mp ea).1
  have hle : a + 1 ≤ ord.length := ha
  have hlen : (ord.insertIdx (a + 1) ord.length).length = ord.length + 1 := List.length_insertIdx_of_le_length hle _
  have hfresh : ord.length ∉ ord := fun hm => Nat.lt_irrefl _ ((g.mem _).mp hm)
  have hmem : ∀ p, p ∈ ord.insertIdx (a + 1) ord.length ↔ p = ord.length ∨ p ∈ ord := fun p => List.mem_insertIdx hle
  have ej' : (L.set j (t, ord.length) ++ [(ord.length, h)])[j]? = some (t, ord.length) := get_append_left (get_set_self ej)
  have em' : (L.set j (t, ord.length) ++ [(ord.length, h)])[L.length]? = some (ord.length, h) := by simp
  have en : (ord.insertIdx (a + 1) ord.length)[a + 1]? = some ord.length := by
    rw [List.getElem?_insertIdx_self]
    simp [hle]
  have old : ∀ (i u v : Nat), L[i]? = some (u, v) → ∃ w, IPath (L.set j (t, ord.length) ++ [(ord.length, h)]) u w v := fun i u v e => by
    by_cases z : i = j
    · subst z
      rw [ej] at e
      cases e
      exact ⟨[i, L.length], .cons ej' (IPath.one em')⟩
    · refine ⟨[i], IPath.one (get_append_left ?_)⟩
      rw [List.getElem?_set_ne (fun q => z q.symm)]
      exact e
  have up : ∀ {i : Nat} {y : Nat}, ord[i]? = some y → ∃ k, (ord.insertIdx (a + 1) ord.length)[k]? = some y ∧ (i ≤ a → k = i) ∧ (a < i → k = i + 1) := fun {i y} e => by
    by_cases z : i ≤ a
    · exact ⟨i, insert_get_lt (by omega) e, fun _ => rfl, fun q => by omega⟩
    · exact ⟨i + 1, insert_get_ge (by omega) e, fun q => by omega, fun _ => rfl⟩
  refine ⟨?_, fun p => ?_, by rw [hlen]; have := g.two; omega, fun i u v e => ?_, fun p hp => ?_, fun p hp => ?_, ?_, ?_⟩
  · have hp := List.perm_insertIdx ord.length ord hle
    exact hp.nodup_iff.mpr (List.nodup_cons.mpr ⟨hfresh, g.nd⟩)
  · rw [hmem, g.mem, hlen]
    omega
  · rcases get_snoc_inv e with e | ⟨_, e⟩
    · rcases get_set_inv e with ⟨_, e⟩ | ⟨_, e⟩
      · cases e
        obtain ⟨k, hk, hk1, hk2⟩ := up ea
        exact ⟨k, a + 1, hk, en, by rw [hk1 (Nat.le_refl _)]; omega⟩
      · obtain ⟨x, y, hx, hy, hxy⟩ := g.dir i u v e
        obtain ⟨k, hk, hk1, hk2⟩ := up hx
        obtain ⟨m, hm, hm1, hm2⟩ := up hy
        refine ⟨k, m, hk, hm, ?_⟩
        by_cases z : x ≤ a
        · by_cases z2 : y ≤ a
          · rw [hk1 z, hm1 z2]; exact hxy
          · rw [hk1 z, hm2 (by omega)]; omega
        · rw [hk2 (by omega), hm2 (by omega)]; omega
    · cases e
      obtain ⟨x, y, hx, hy, hxy⟩ := g.dir j t _ ej
      have hxa : x = a := by
        have h1 := (List.getElem?_eq_some_iff.mp hx)
        have h2 := (List.getElem?_eq_some_iff.mp ea)
        exact (List.getElem_inj g.nd).mp (h1.2.trans h2.2.symm)
      obtain ⟨m, hm, hm1, hm2⟩ := up hy
      exact ⟨a + 1, m, en, hm, by rw [hm2 (by omega)]; omega⟩
  · rcases (hmem p).mp hp with rfl | hp
    · obtain ⟨w, hw⟩ := g.frm t (g.ends ej).1
      obtain ⟨v, hv⟩ := hw.mono old
      exact ⟨_, hv.append (IPath.one ej')⟩
    · obtain ⟨w, hw⟩ := g.frm p hp
      exact hw.mono old
  · rcases (hmem p).mp hp with rfl | hp
    · obtain ⟨w, hw⟩ := g.to h (g.ends ej).2
      obtain ⟨v, hv⟩ := hw.mono old
      exact ⟨_, IPath.cons em' hv⟩
    · obtain ⟨w, hw⟩ := g.to p hp
      exact hw.mono old
  · obtain ⟨r, hr⟩ := g.last
    have hta : a < r.length := by
      obtain ⟨x, y, hx, hy, hxy⟩ := g.dir j t h ej
      have hxa : x = a := by
        have h1 := (List.getElem?_eq_some_iff.mp hx)
        have h2 := (List.getElem?_eq_some_iff.mp ea)
        exact (List.getElem_inj g.nd).mp (h1.2.trans h2.2.symm)
      have hyl := (List.getElem?_eq_some_iff.mp hy).1
      rw [hr, List.length_append, List.length_singleton] at hyl
      omega
    refine ⟨r.insertIdx (a + 1) ord.length, ?_⟩
    have e2 : ord.insertIdx (a + 1) ord.length = (r ++ [1]).insertIdx (a + 1) ord.length := by rw [← hr]
    rw [e2, insert_snoc r (a + 1) hta]
  · refine cut_split g.cut ej (fun i u v e => ?_) (by have := g.two; omega) (by have := g.two; omega)
    obtain ⟨q1, q2⟩ := g.lt e
    exact ⟨by omega, by omega⟩

theorem Grown.ok {L : List (Nat × Nat)} {ord : List Nat} (g : Grown L ord) : GOk L ord := by
  induction g with
  | base => exact gok_base
  | split _ e1 e2 ih => exact gok_split ih e1 e2
  | dup _ e ih => exact gok_dup ih e
end XL

/-! Named nets: ways, what leads to what, sums over cuts, the witness. -/
namespace XL
variable {N P : Type}

/-- links as (name, tail, head) -/
inductive Path (L : List (N × P × P)) : P → List N → P → Prop
  | nil (p : P) : Path L p [] p
  | cons {n : N} {t h : P} {w : List N} {e : P} : (n, t, h) ∈ L → Path L h w e → Path L t (n :: w) e

theorem Path.append {L : List (N × P × P)} {p q r : P} {v w : List N} (a : Path L p v q) (b : Path L q w r) : Path L p (v ++ w) r := by
  induction a with
  | nil p => exact b
  | cons h _ ih => exact .cons h (ih b)
theorem Path.one {L : List (N × P × P)} {n : N} {t h : P} (e : (n, t, h) ∈ L) : Path L t [n] h := .cons e (.nil h)
theorem Path.sub {L M : List (N × P × P)} (hm : ∀ l ∈ L, l ∈ M) {p q : P} {w : List N} (a : Path L p w q) : Path M p w q := by
  induction a with
  | nil p => exact .nil p
  | cons h _ ih => exact .cons (hm _ h) ih
theorem Path.snoc_inv {L : List (N × P × P)} {p q : P} {w : List N} (a : Path L p w q) : w = [] ∧ p = q ∨ ∃ v n t, w = v ++ [n] ∧ Path L p v t ∧ (n, t, q) ∈ L := by
  induction a with
  | nil p => exact .inl ⟨rfl, rfl⟩
  | @cons n t h w e hm a ih =>
    rcases ih with ⟨rfl, rfl⟩ | ⟨v, m, u, rfl, pv, hu⟩
    · exact .inr ⟨[], n, t, rfl, .nil t, hm⟩
    · exact .inr ⟨n :: v, m, u, rfl, .cons hm pv, hu⟩

theorem Path.first {L : List (N × P × P)} {p q : P} {w : List N} (a : Path L p w q) (h : w ≠ []) : ∃ m h, (m, p, h) ∈ L := by
  cases a with
  | nil => exact absurd rfl h
  | cons h1 _ => exact ⟨_, _, h1⟩

def Ranked (L : List (N × P × P)) (rk : P → Nat) : Prop := ∀ l ∈ L, rk l.2.1 < rk l.2.2
theorem Path.rank {L : List (N × P × P)} {rk : P → Nat} (hr : Ranked L rk) {p q : P} {w : List N} (a : Path L p w q) : rk p + w.length ≤ rk q := by
  induction a with
  | nil p => simp
  | cons h _ ih =>
    have q := hr _ h
    rw [List.length_cons]
    dsimp only at q
    omega

/-- one place leads to another -/
def Leads (L : List (N × P × P)) (a b : P) : Prop := ∃ w, w ≠ [] ∧ Path L a w b
theorem Leads.ne {L : List (N × P × P)} {rk : P → Nat} (hr : Ranked L rk) {a b : P} (h : Leads L a b) : rk a < rk b := by
  obtain ⟨w, hw, a⟩ := h
  have := a.rank hr
  have : 0 < w.length := List.length_pos_iff.mpr hw
  omega
/-- closed under predecessors -/
def Closed (L : List (N × P × P)) (S : P → Bool) : Prop := ∀ l ∈ L, S l.2.2 = true → S l.2.1 = true
theorem Closed.path {L : List (N × P × P)} {S : P → Bool} (c : Closed L S) {p q : P} {w : List N} (a : Path L p w q) : S q = true → S p = true := by
  induction a with
  | nil p => exact id
  | cons h _ ih => exact fun q => c _ h (ih q)

/-! ### what is asked of a net -/
structure Net (L : List (N × P × P)) (s e : P) (rk : P → Nat) : Prop where
  pos : 1 ≤ L.length
  len : L.length ≤ 10
  nd : (L.map (·.1)).Nodup
  ranked : Ranked L rk
  low : ∀ p, rk p < 8
  se : s ≠ e
  frm : ∀ l ∈ L, ∃ w, Path L s w l.2.1
  to : ∀ l ∈ L, ∃ w, Path L l.2.2 w e
def Cut (L : List (N × P × P)) (s e : P) : Prop := ∀ good : N → Bool,
  (∃ w, Path L s w e ∧ ∀ n ∈ w, good n = true) ∨
  ∃ S : P → Bool, S s = true ∧ S e = false ∧ Closed L S ∧ ∀ l ∈ L, S l.2.1 = true → S l.2.2 = false → good l.1 = false

theorem Net.tail_ne {L : List (N × P × P)} {s e : P} {rk : P → Nat} (n : Net L s e rk) : ∀ l ∈ L, l.2.1 ≠ e := fun l hl q => by
  obtain ⟨w, hw⟩ := n.to l hl
  have h1 := hw.rank n.ranked
  have h2 := n.ranked l hl
  rw [q] at h2
  omega
theorem Net.perm {L M : List (N × P × P)} {s e : P} {rk : P → Nat} (n : Net L s e rk) (h : L.Perm M) : Net M s e rk where
  pos := by rw [← h.length_eq]; exact n.pos
  len := by rw [← h.length_eq]; exact n.len
  nd := (h.map _).nodup_iff.mp n.nd
  ranked := fun l hl => n.ranked l (h.mem_iff.mpr hl)
  low := n.low
  se := n.se
  frm := fun l hl => let ⟨w, hw⟩ := n.frm l (h.mem_iff.mpr hl); ⟨w, hw.sub fun _ q => h.mem_iff.mp q⟩
  to := fun l hl => let ⟨w, hw⟩ := n.to l (h.mem_iff.mpr hl); ⟨w, hw.sub fun _ q => h.mem_iff.mp q⟩
theorem Cut.perm {L M : List (N × P × P)} {s e : P} (c : Cut L s e) (h : L.Perm M) : Cut M s e := fun good => by
  rcases c good with ⟨w, hw, g⟩ | ⟨S, s0, s1, cl, bad⟩
  · exact .inl ⟨w, hw.sub fun _ q => h.mem_iff.mp q, g⟩
  · exact .inr ⟨S, s0, s1, fun l hl => cl l (h.mem_iff.mpr hl), fun l hl => bad l (h.mem_iff.mpr hl)⟩

/-- links more, each between places that lead to each other -/
theorem Net.more {L X : List (N × P × P)} {s e : P} {rk : P → Nat} (n : Net L s e rk) (hl : (L ++ X).length ≤ 10) (hn : ((L ++ X).map (·.1)).Nodup) (hx : ∀ x ∈ X, Leads L x.2.1 x.2.2) : Net (L ++ X) s e rk where
  pos := by have := n.pos; rw [List.length_append]; omega
  len := hl
  nd := hn
  ranked := fun l hm => by
    rcases List.mem_append.mp hm with hm | hm
    · exact n.ranked l hm
    · exact (hx l hm).ne n.ranked
  low := n.low
  se := n.se
  frm := fun l hm => by
    rcases List.mem_append.mp hm with hm | hm
    · obtain ⟨w, hw⟩ := n.frm l hm
      exact ⟨w, hw.sub fun _ q => List.mem_append_left _ q⟩
    · obtain ⟨w, hw, pw⟩ := hx l hm
      obtain ⟨m, h, h1⟩ := pw.first hw
      obtain ⟨v, hv⟩ := n.frm _ h1
      exact ⟨v, hv.sub fun _ q => List.mem_append_left _ q⟩
  to := fun l hm => by
    rcases List.mem_append.mp hm with hm | hm
    · obtain ⟨w, hw⟩ := n.to l hm
      exact ⟨w, hw.sub fun _ q => List.mem_append_left _ q⟩
    · obtain ⟨w, hw, pw⟩ := hx l hm
      rcases pw.snoc_inv with ⟨q, _⟩ | ⟨v, m, t, _, _, h1⟩
      · exact absurd q hw
      · obtain ⟨v, hv⟩ := n.to _ h1
        exact ⟨v, hv.sub fun _ q => List.mem_append_left _ q⟩
theorem Closed.more {L X : List (N × P × P)} {S : P → Bool} (c : Closed L S) (hx : ∀ x ∈ X, Leads L x.2.1 x.2.2) : Closed (L ++ X) S := fun l hm => by
  rcases List.mem_append.mp hm with hm | hm
  · exact c l hm
  · obtain ⟨w, _, pw⟩ := hx l hm
    exact c.path pw

/-! ### all ways from a place, by depth -/
theorem flat_congr {α β : Type} {l : List α} {f g : α → List β} (h : ∀ a ∈ l, f a = g a) : l.flatMap f = l.flatMap g := by
  induction l with
  | nil => rfl
  | cons a l ih =>
    rw [List.flatMap_cons, List.flatMap_cons, h a List.mem_cons_self, ih fun b hb => h b (List.mem_cons_of_mem _ hb)]
theorem flat_perm {α β : Type} {l : List α} {f g : α → List β} (h : ∀ a ∈ l, (f a).Perm (g a)) : (l.flatMap f).Perm (l.flatMap g) := by
  induction l with
  | nil => exact .refl _
  | cons a l ih =>
    rw [List.flatMap_cons, List.flatMap_cons]
    exact (h a List.mem_cons_self).append (ih fun b hb => h b (List.mem_cons_of_mem _ hb))
section
variable [DecidableEq P]
def pf (L : List (N × P × P)) (e : P) : Nat → P → List (List N)
  | 0, _ => []
  | k + 1, p => (if p = e then [[]] else []) ++ (L.filter (fun l => decide (l.2.1 = p))).flatMap fun l => (pf L e k l.2.2).map (l.1 :: ·)

theorem pf_path {L : List (N × P × P)} {e : P} : ∀ (k : Nat) (p : P) (w : List N), w ∈ pf L e k p → Path L p w e
  | 0, _, _, h => by simp [pf] at h
  | k + 1, p, w, h => by
    rw [pf] at h
    rcases List.mem_append.mp h with h | h
    · by_cases z : p = e
      · rw [if_pos z] at h
        rw [List.mem_singleton.mp h, z]
        exact .nil e
      · rw [if_neg z] at h
        simp at h
    · obtain ⟨⟨n, t, hd⟩, hl, hw⟩ := List.mem_flatMap.mp h
      obtain ⟨hl, ht⟩ := List.mem_filter.mp hl
      have ht : t = p := of_decide_eq_true ht
      obtain ⟨v, hv, rfl⟩ := List.mem_map.mp hw
      rw [← ht]
      exact .cons hl (pf_path k _ v hv)
theorem path_pf {L : List (N × P × P)} {p e : P} {w : List N} (a : Path L p w e) : ∀ k, w.length < k → w ∈ pf L e k p := by
  induction a with
  | nil p =>
    intro k hk
    obtain ⟨k, rfl⟩ : ∃ j, k = j + 1 := ⟨k - 1, by simp at hk; omega⟩
    rw [pf, if_pos rfl]
    simp
  | @cons n t h w e hm _ ih =>
    intro k hk
    obtain ⟨k, rfl⟩ : ∃ j, k = j + 1 := ⟨k - 1, by simp at hk; omega⟩
    rw [pf]
    refine List.mem_append_right _ (List.mem_flatMap.mpr ⟨(n, t, h), List.mem_filter.mpr ⟨hm, by simp⟩, ?_⟩)
    exact List.mem_map.mpr ⟨w, ih k (by simp at hk; omega), rfl⟩
/-- the depth suffices from some on -/
theorem pf_stable {L : List (N × P × P)} {e : P} {rk : P → Nat} (hr : Ranked L rk) (hb : ∀ p, rk p < 8) : ∀ (k : Nat) (p : P), 8 ≤ rk p + k → pf L e (k + 1) p = pf L e k p
  | 0, p, h => by have := hb p; omega
  | k + 1, p, h => by
    rw [pf, pf]
    congr 1
    refine flat_congr fun l hl => ?_
    obtain ⟨hl, ht⟩ := List.mem_filter.mp hl
    have ht : l.2.1 = p := of_decide_eq_true ht
    have q := hr l hl
    rw [ht] at q
    rw [pf_stable hr hb k l.2.2 (by omega)]
theorem pf_perm {L M : List (N × P × P)} {e : P} (h : L.Perm M) : ∀ (k : Nat) (p : P), (pf L e k p).Perm (pf M e k p)
  | 0, _ => .refl _
  | k + 1, p => by
    rw [pf, pf]
    refine List.Perm.append_left _ ?_
    refine ((h.filter _).flatMap_right _).trans ?_
    exact flat_perm fun l _ => (pf_perm h k l.2.2).map _
end

/-! ### what leads: the rounds of the search -/
section
variable [DecidableEq P]
/-- one round over the links -/
def turnF (f : List P) (l : N × P × P) : List P := if l.2.1 ∈ f ∧ l.2.2 ∉ f then f ++ [l.2.2] else f
def roundF (L : List (N × P × P)) (f : List P) : List P := L.foldl turnF f
def roundsF (L : List (N × P × P)) : Nat → List P → List P
  | 0, f => f
  | k + 1, f => roundF L (roundsF L k f)
theorem turnF_sub {f : List P} {l : N × P × P} {p : P} (h : p ∈ f) : p ∈ turnF f l := by
  unfold turnF
  split
  · exact List.mem_append_left _ h
  · exact h
theorem foldF_sub {L : List (N × P × P)} : ∀ {f : List P} {p : P}, p ∈ f → p ∈ L.foldl turnF f := by
  induction L with
  | nil => exact id
  | cons l L ih => exact fun h => ih (turnF_sub h)
theorem foldF_step {L : List (N × P × P)} : ∀ {f : List P} {l : N × P × P}, l ∈ L → l.2.1 ∈ f → l.2.2 ∈ L.foldl turnF f := by
  induction L with
  | nil => exact fun h _ => absurd h List.not_mem_nil
  | cons m L ih =>
    intro f l hl ht
    rw [List.foldl_cons]
    rcases List.mem_cons.mp hl with rfl | hl
    · refine foldF_sub ?_
      unfold turnF
      split
      · exact List.mem_append_right _ (List.mem_singleton.mpr rfl)
      · rename_i q
        exact Decidable.byContradiction fun z => q ⟨ht, z⟩
    · exact ih hl (turnF_sub ht)
theorem rounds_reach {L : List (N × P × P)} {a b : P} {w : List N} (h : Path L a w b) : ∀ k, w.length ≤ k → b ∈ roundsF L k [a] := by
  have grow : ∀ (k : Nat) (p : P), p ∈ roundsF L k [a] → p ∈ roundsF L (k + 1) [a] := fun k p q => foldF_sub q
  have main : ∀ (k : Nat) (w : List N) (b : P), Path L a w b → w.length ≤ k → b ∈ roundsF L k [a] := by
    intro k
    induction k with
    | zero =>
      intro w b h hk
      have hw : w = [] := List.length_eq_zero_iff.mp (by omega)
      subst hw
      cases h
      exact List.mem_singleton.mpr rfl
    | succ k ih =>
      intro w b h hk
      rcases h.snoc_inv with ⟨_, rfl⟩ | ⟨v, n, t, rfl, hv, hl⟩
      · exact grow k _ (ih [] a (.nil a) (Nat.zero_le _))
      · rw [List.length_append, List.length_singleton] at hk
        exact foldF_step hl (ih v t hv (by omega))
  exact fun k hk => main k w b h hk
/-- found: a list that begins with the place itself; behind it what it leads to, not the place -/
structure FOk (L : List (N × P × P)) (a : P) (f : List P) : Prop where
  head : ∃ r, f = a :: r
  lead : ∀ p ∈ f, p = a ∨ Leads L a p
  nd : f.Nodup
theorem fok_one {L : List (N × P × P)} {a : P} : FOk L a [a] := ⟨⟨[], rfl⟩, fun p h => .inl (List.mem_singleton.mp h), List.nodup_cons.mpr ⟨List.not_mem_nil, List.nodup_nil⟩⟩
theorem fok_turn {L : List (N × P × P)} {a : P} {f : List P} {l : N × P × P} (o : FOk L a f) (hl : l ∈ L) : FOk L a (turnF f l) := by
  unfold turnF
  split
  · rename_i h
    obtain ⟨h1, h2⟩ := h
    obtain ⟨r, hr⟩ := o.head
    refine ⟨⟨r ++ [l.2.2], by rw [hr]; rfl⟩, fun p hp => ?_, ?_⟩
    · rcases List.mem_append.mp hp with hp | hp
      · exact o.lead p hp
      · rw [List.mem_singleton.mp hp]
        rcases o.lead _ h1 with e | ⟨w, hw, pw⟩
        · refine .inr ⟨[l.1], by simp, ?_⟩
          rw [← e]
          exact Path.one hl
        · exact .inr ⟨w ++ [l.1], by simp, pw.append (Path.one hl)⟩
    · refine List.nodup_append.mpr ⟨o.nd, List.nodup_cons.mpr ⟨List.not_mem_nil, List.nodup_nil⟩, fun x hx y hy => ?_⟩
      rw [List.mem_singleton.mp hy]
      exact fun z => h2 (z ▸ hx)
  · exact o
theorem fok_round {L M : List (N × P × P)} {a : P} (hm : ∀ l ∈ M, l ∈ L) : ∀ {f : List P}, FOk L a f → FOk L a (M.foldl turnF f) := by
  induction M with
  | nil => exact id
  | cons l M ih => exact fun o => ih (fun x hx => hm x (List.mem_cons_of_mem _ hx)) (fok_turn o (hm l List.mem_cons_self))
theorem fok_rounds {L : List (N × P × P)} {a : P} : ∀ k, FOk L a (roundsF L k [a])
  | 0 => fok_one
  | k + 1 => fok_round (fun _ h => h) (fok_rounds k)
/-- the search's answer -/
theorem rounds_leads {L : List (N × P × P)} {rk : P → Nat} (hr : Ranked L rk) (hb : ∀ p, rk p < 8) {a b : P} : b ∈ (roundsF L 10 [a]).drop 1 ↔ Leads L a b := by
  have o := fok_rounds (L := L) (a := a) 10
  obtain ⟨r, hr'⟩ := o.head
  constructor
  · intro h
    rw [hr'] at h
    have h : b ∈ r := h
    have nd := o.nd
    rw [hr'] at nd
    have hne : b ≠ a := fun z => (List.nodup_cons.mp nd).1 (z ▸ h)
    rcases o.lead b (by rw [hr']; exact List.mem_cons_of_mem _ h) with e | e
    · exact absurd e hne
    · exact e
  · rintro ⟨w, hw, pw⟩
    have h1 := pw.rank hr
    have h2 := hb b
    have h3 : 0 < w.length := List.length_pos_iff.mpr hw
    have q := rounds_reach pw 10 (by omega)
    rw [hr'] at q ⊢
    rcases List.mem_cons.mp q with e | q
    · rw [e] at h1
      omega
    · exact q
end

/-! ### sums -/
def sumI (xs : List Int) : Int := xs.foldr (· + ·) 0
theorem sumI_cons (x : Int) (xs : List Int) : sumI (x :: xs) = x + sumI xs := rfl
theorem sumI_append (xs ys : List Int) : sumI (xs ++ ys) = sumI xs + sumI ys := by
  induction xs with
  | nil => simp [sumI]
  | cons x xs ih => rw [List.cons_append, sumI_cons, sumI_cons, ih]; omega
theorem sumI_add {α : Type} (f g : α → Int) (l : List α) : sumI (l.map fun a => f a + g a) = sumI (l.map f) + sumI (l.map g) := by
  induction l with
  | nil => rfl
  | cons a l ih => simp only [List.map_cons, sumI_cons, ih]; omega
theorem sumI_zero {α : Type} (l : List α) : sumI (l.map fun _ => (0 : Int)) = 0 := by
  induction l with
  | nil => rfl
  | cons a l ih => simp only [List.map_cons, sumI_cons, ih]; omega
theorem sumI_swap {α β : Type} (f : α → β → Int) (l : List α) (m : List β) : sumI (l.map fun a => sumI (m.map fun b => f a b)) = sumI (m.map fun b => sumI (l.map fun a => f a b)) := by
  induction l with
  | nil => exact (sumI_zero m).symm
  | cons a l ih =>
    simp only [List.map_cons, sumI_cons]
    rw [ih, sumI_add]
theorem sumI_le {α : Type} {f g : α → Int} {l : List α} (h : ∀ a ∈ l, f a ≤ g a) : sumI (l.map f) ≤ sumI (l.map g) := by
  induction l with
  | nil => exact Int.le_refl _
  | cons a l ih =>
    simp only [List.map_cons, sumI_cons]
    have h1 := h a List.mem_cons_self
    have h2 := ih fun b hb => h b (List.mem_cons_of_mem _ hb)
    omega
theorem sumI_lt {α : Type} {f g : α → Int} {l : List α} (h : ∀ a ∈ l, f a ≤ g a) {a : α} (ha : a ∈ l) (hlt : f a < g a) : sumI (l.map f) < sumI (l.map g) := by
  induction l with
  | nil => exact absurd ha List.not_mem_nil
  | cons b l ih =>
    simp only [List.map_cons, sumI_cons]
    have h1 := h b List.mem_cons_self
    rcases List.mem_cons.mp ha with rfl | ha
    · have h2 := sumI_le fun c hc => h c (List.mem_cons_of_mem _ hc)
      omega
    · have h2 := ih (fun c hc => h c (List.mem_cons_of_mem _ hc)) ha
      omega
theorem sumI_congr {α : Type} {f g : α → Int} {l : List α} (h : ∀ a ∈ l, f a = g a) : sumI (l.map f) = sumI (l.map g) := by
  rw [List.map_congr_left h]

section
variable [DecidableEq N]
/-- the wload of a name: the amounts of the ways that hold it -/
def wload (ws : List (List N × Int)) (n : N) : Int := sumI (ws.map fun w => if n ∈ w.1 then w.2 else 0)
def cross (S : P → Bool) (l : N × P × P) : Bool := S l.2.1 && !S l.2.2
theorem path_at {L : List (N × P × P)} {q e : P} {v : List N} (b : Path L q v e) {n : N} (hn : n ∈ v) : ∃ u t h, (n, t, h) ∈ L ∧ Path L q u t := by
  induction b with
  | nil => exact absurd hn List.not_mem_nil
  | @cons m t1 h1 v e hm1 _ ih =>
    rcases List.mem_cons.mp hn with rfl | z
    · exact ⟨[], t1, h1, hm1, .nil _⟩
    · obtain ⟨u, t', h', q1, q2⟩ := ih z
      exact ⟨m :: u, t', h', q1, .cons hm1 q2⟩
theorem name_one {L : List (N × P × P)} (nd : (L.map (·.1)).Nodup) {n : N} {t h t' h' : P} (a : (n, t, h) ∈ L) (b : (n, t', h') ∈ L) : t = t' ∧ h = h' := by
  induction L with
  | nil => exact absurd a List.not_mem_nil
  | cons l L ih =>
    rw [List.map_cons, List.nodup_cons] at nd
    rcases List.mem_cons.mp a with a | a
    · rcases List.mem_cons.mp b with b | b
      · rw [← a] at b
        cases b
        exact ⟨rfl, rfl⟩
      · exact absurd (List.mem_map.mpr ⟨_, b, by rw [← a]⟩) nd.1
    · rcases List.mem_cons.mp b with b | b
      · exact absurd (List.mem_map.mpr ⟨_, a, by rw [← b]⟩) nd.1
      · exact ih nd.2 a b
theorem path_fresh {L : List (N × P × P)} (nd : (L.map (·.1)).Nodup) {rk : P → Nat} (hr : Ranked L rk) {n : N} {t h e : P} {w : List N} (hm : (n, t, h) ∈ L) (a : Path L h w e) : n ∉ w := fun hn => by
  obtain ⟨u, t', h', q1, q2⟩ := path_at a hn
  obtain ⟨rfl, rfl⟩ := name_one nd hm q1
  have h1 := q2.rank hr
  have h2 := hr _ hm
  dsimp only at h2
  omega
/-- the sum over the links with one name -/
theorem sum_name {L : List (N × P × P)} (nd : (L.map (·.1)).Nodup) {n : N} {t h : P} (hm : (n, t, h) ∈ L) (f : N × P × P → Int) : sumI (L.map fun l => if l.1 = n then f l else 0) = f (n, t, h) := by
  induction L with
  | nil => exact absurd hm List.not_mem_nil
  | cons l L ih =>
    rw [List.map_cons, List.nodup_cons] at nd
    rw [List.map_cons, sumI_cons]
    rcases List.mem_cons.mp hm with hm | hm
    · rw [← hm, if_pos rfl]
      have z : sumI (L.map fun l => if l.1 = n then f l else 0) = sumI (L.map fun _ => (0 : Int)) := sumI_congr fun a ha => by
        rw [if_neg]
        intro q
        exact nd.1 (List.mem_map.mpr ⟨a, ha, by rw [q, ← hm]⟩)
      rw [z, sumI_zero]
      omega
    · rw [ih nd.2 hm, if_neg]
      · omega
      · intro q
        exact nd.1 (List.mem_map.mpr ⟨_, hm, q.symm⟩)
/-- how often a way crosses out -/
theorem path_cross {L : List (N × P × P)} {S : P → Bool} (nd : (L.map (·.1)).Nodup) {rk : P → Nat} (hr : Ranked L rk) (c : Closed L S) {p e : P} {w : List N} (a : Path L p w e) (he : S e = false) :
    sumI (L.map fun l => if cross S l = true ∧ l.1 ∈ w then 1 else 0) = if S p = true then 1 else 0 := by
  induction a with
  | nil p =>
    rw [he]
    simp only [List.not_mem_nil, and_false, if_false]
    exact sumI_zero L
  | @cons n t h w e hm a ih =>
    have ih := ih he
    have hn := path_fresh nd hr hm a
    have split : sumI (L.map fun l => if cross S l = true ∧ l.1 ∈ n :: w then 1 else 0) =
        sumI (L.map fun l => (if l.1 = n then (if cross S l = true then 1 else 0) else 0) + if cross S l = true ∧ l.1 ∈ w then 1 else 0) := sumI_congr fun l _ => by
      by_cases z : l.1 = n
      · rw [if_pos z, z]
        by_cases y : cross S l = true <;> simp [y, hn]
      · rw [if_neg z]
        by_cases y : cross S l = true <;> simp [y, z]
    rw [split, sumI_add, ih, sum_name nd hm]
    have hc := c _ hm
    dsimp only at hc
    unfold cross
    dsimp only
    cases h1 : S t with
    | false =>
      cases h2 : S h with
      | true => rw [hc h2] at h1; cases h1
      | false => simp
    | true =>
      cases h2 : S h with
      | true => simp
      | false => simp
/-- CONSERVATION: over a closed set with the start and not the end the loads that leave are the total -/
theorem cut_total {L : List (N × P × P)} {S : P → Bool} {s e : P} (nd : (L.map (·.1)).Nodup) {rk : P → Nat} (hr : Ranked L rk) (c : Closed L S) (hs : S s = true) (he : S e = false) (ws : List (List N × Int)) (hw : ∀ w ∈ ws, Path L s w.1 e) :
    sumI (L.map fun l => if cross S l = true then wload ws l.1 else 0) = sumI (ws.map (·.2)) := by
  have h1 : sumI (L.map fun l => if cross S l = true then wload ws l.1 else 0) = sumI (L.map fun l => sumI (ws.map fun w => w.2 * if cross S l = true ∧ l.1 ∈ w.1 then 1 else 0)) := sumI_congr fun l _ => by
    unfold wload
    by_cases y : cross S l = true
    · rw [if_pos y]
      refine sumI_congr fun w _ => ?_
      by_cases z : l.1 ∈ w.1 <;> simp [y, z]
    · rw [if_neg y]
      refine (sumI_zero ws).symm.trans (sumI_congr fun w _ => ?_)
      simp [y]
  rw [h1, sumI_swap]
  refine sumI_congr fun w hm => ?_
  have h2 : sumI (L.map fun l => w.2 * if cross S l = true ∧ l.1 ∈ w.1 then 1 else 0) = w.2 * sumI (L.map fun l => if cross S l = true ∧ l.1 ∈ w.1 then 1 else 0) := by
    clear h1 nd hr c hw
    induction L with
    | nil => simp [sumI]
    | cons l L ih => simp only [List.map_cons, sumI_cons, ih, Int.mul_add]
  rw [h2, path_cross nd hr c (hw w hm) he, if_pos hs, Int.mul_one]
theorem load_nonneg {ws : List (List N × Int)} (h : ∀ w ∈ ws, 0 ≤ w.2) (n : N) : 0 ≤ wload ws n := by
  unfold wload
  refine Int.le_trans (Int.le_of_eq (sumI_zero ws).symm) (sumI_le fun w hw => ?_)
  split
  · exact h w hw
  · exact Int.le_refl _
theorem load_le {ws : List (List N × Int)} (h : ∀ w ∈ ws, 0 ≤ w.2) (n : N) : wload ws n ≤ sumI (ws.map (·.2)) := by
  unfold wload
  refine sumI_le fun w hw => ?_
  split
  · exact Int.le_refl _
  · exact h w hw
/-- THE WITNESS -/
theorem witness_is {L X : List (N × P × P)} {s e : P} {rk : P → Nat} (n : Net L s e rk) (c : Cut L s e) (nb : Net (L ++ X) s e rk) (hx : ∀ x ∈ X, Leads L x.2.1 x.2.2) (bs as : List (List N × Int))
    (hb : ∀ w ∈ bs, Path (L ++ X) s w.1 e) (ha : ∀ w ∈ as, Path L s w.1 e) (b0 : ∀ w ∈ bs, 0 ≤ w.2) (a0 : ∀ w ∈ as, 0 ≤ w.2) (apos : 0 < sumI (as.map (·.2))) (hle : sumI (bs.map (·.2)) ≤ sumI (as.map (·.2))) :
    ∃ w, Path L s w e ∧ ∀ m ∈ w, 0 < wload as m ∧ wload bs m ≤ wload as m := by
  rcases c (fun m => decide (0 < wload as m ∧ wload bs m ≤ wload as m)) with ⟨w, pw, g⟩ | ⟨S, s0, s1, cl, bad⟩
  · exact ⟨w, pw, fun m hm => of_decide_eq_true (g m hm)⟩
  · exfalso
    have ta := cut_total n.nd n.ranked cl s0 s1 as ha
    have tb := cut_total nb.nd nb.ranked (cl.more hx) s0 s1 bs hb
    rw [List.map_append, sumI_append] at tb
    have xb : 0 ≤ sumI (X.map fun l => if cross S l = true then wload bs l.1 else 0) := by
      refine Int.le_trans (Int.le_of_eq (sumI_zero X).symm) (sumI_le fun l _ => ?_)
      split
      · exact load_nonneg b0 _
      · exact Int.le_refl _
    have each : ∀ l ∈ L, (if cross S l = true then wload as l.1 else 0) ≤ (if cross S l = true then wload bs l.1 else 0) := fun l hl => by
      by_cases y : cross S l = true
      · rw [if_pos y, if_pos y]
        obtain ⟨y1, y2⟩ := Bool.and_eq_true_iff.mp y
        have q := of_decide_eq_false (bad l hl y1 (by simpa using y2))
        have q0 := load_nonneg a0 l.1
        have q1 := load_nonneg b0 l.1
        omega
      · rw [if_neg y, if_neg y]
        exact Int.le_refl _
    have hlt : ∃ l ∈ L, (if cross S l = true then wload as l.1 else 0) < (if cross S l = true then wload bs l.1 else 0) := by
      refine Decidable.byContradiction fun hno => ?_
      have z : sumI (L.map fun l => if cross S l = true then wload as l.1 else 0) = sumI (L.map fun _ => (0 : Int)) := sumI_congr fun l hl => by
        by_cases y : cross S l = true
        · rw [if_pos y]
          obtain ⟨y1, y2⟩ := Bool.and_eq_true_iff.mp y
          have q := of_decide_eq_false (bad l hl y1 (by simpa using y2))
          have q0 := load_nonneg a0 l.1
          have q1 := load_nonneg b0 l.1
          have q2 : ¬ (wload as l.1 < wload bs l.1) := fun h => hno ⟨l, hl, by rw [if_pos y, if_pos y]; exact h⟩
          omega
        · rw [if_neg y]
      rw [z, sumI_zero] at ta
      omega
    obtain ⟨l, hl, hlt⟩ := hlt
    have := sumI_lt each hl hlt
    omega
end

/-! ### bounds -/
section
variable [DecidableEq P]
def weight (b : Nat) (rk : P → Nat) (ps : List P) : Nat := (ps.map fun p => b ^ (7 - rk p)).sum
theorem weight_append (b : Nat) (rk : P → Nat) (xs ys : List P) : weight b rk (xs ++ ys) = weight b rk xs + weight b rk ys := by
  unfold weight
  rw [List.map_append, List.sum_append]
theorem weight_len {b : Nat} (hb : 0 < b) (rk : P → Nat) (ps : List P) : ps.length ≤ weight b rk ps := by
  unfold weight
  induction ps with
  | nil => exact Nat.le_refl _
  | cons p ps ih =>
    rw [List.map_cons, List.sum_cons, List.length_cons]
    have := Nat.pow_pos (n := 7 - rk p) hb
    omega
/-- the places behind one place -/
theorem weight_out {L : List (N × P × P)} {s e : P} {rk : P → Nat} (n : Net L s e rk) {b : Nat} (hb : 10 ≤ b) (p : P) : b * weight b rk ((L.filter fun l => decide (l.2.1 = p)).map (·.2.2)) ≤ 10 * b ^ (7 - rk p) := by
  have each : ∀ (M : List (N × P × P)), (∀ l ∈ M, l ∈ L) → b * weight b rk ((M.filter fun l => decide (l.2.1 = p)).map (·.2.2)) ≤ M.length * b ^ (7 - rk p) := by
    intro M
    induction M with
    | nil => intro _; simp [weight]
    | cons l M ih =>
      intro hM
      have ih := ih fun x hx => hM x (List.mem_cons_of_mem _ hx)
      rw [List.filter_cons, List.length_cons, Nat.succ_mul]
      by_cases z : l.2.1 = p
      · rw [if_pos (decide_eq_true z), List.map_cons]
        show b * weight b rk ([l.2.2] ++ _) ≤ _
        rw [weight_append, Nat.mul_add]
        have q : b * weight b rk [l.2.2] ≤ b ^ (7 - rk p) := by
          have h1 := n.ranked l (hM l List.mem_cons_self)
          have h2 := n.low l.2.2
          rw [z] at h1
          unfold weight
          simp only [List.map_cons, List.map_nil, List.sum_cons, List.sum_nil, Nat.add_zero]
          rw [Nat.mul_comm, ← Nat.pow_succ]
          exact Nat.pow_le_pow_right (by omega) (by omega)
        omega
      · rw [if_neg (by simpa using z)]
        omega
  exact Nat.le_trans (each L fun _ h => h) (Nat.mul_le_mul_right _ n.len)
end
end XL

/-! Names for a grown net; the searches of the program. -/
namespace XL
variable {N P : Type}

theorem get_inj {α : Type} {l : List α} (nd : l.Nodup) {i j : Nat} {x : α} (a : l[i]? = some x) (b : l[j]? = some x) : i = j := by
  obtain ⟨h1, e1⟩ := List.getElem?_eq_some_iff.mp a
  obtain ⟨h2, e2⟩ := List.getElem?_eq_some_iff.mp b
  exact (List.getElem_inj nd).mp (e1.trans e2.symm)
theorem get_lt {α : Type} {l : List α} {i : Nat} {x : α} (a : l[i]? = some x) : i < l.length := (List.getElem?_eq_some_iff.mp a).1
theorem get_some {α : Type} {l : List α} {i : Nat} (h : i < l.length) : ∃ x, l[i]? = some x := ⟨l[i], List.getElem?_eq_getElem h⟩

/-- the links with their names -/
structure Named (L : List (Nat × Nat)) (names : List N) (places : List P) (M : List (N × P × P)) : Prop where
  len : M.length = L.length
  at_ : ∀ (k t h : Nat), L[k]? = some (t, h) → ∃ n a b, names[k]? = some n ∧ places[t]? = some a ∧ places[h]? = some b ∧ M[k]? = some (n, a, b)

theorem Named.inv {L : List (Nat × Nat)} {names : List N} {places : List P} {M : List (N × P × P)} (m : Named L names places M) {k : Nat} {n : N} {a b : P} (e : M[k]? = some (n, a, b)) :
    ∃ t h, L[k]? = some (t, h) ∧ names[k]? = some n ∧ places[t]? = some a ∧ places[h]? = some b := by
  have hk : k < L.length := by rw [← m.len]; exact get_lt e
  obtain ⟨⟨t, h⟩, hL⟩ := get_some hk
  obtain ⟨n', a', b', h1, h2, h3, h4⟩ := m.at_ k t h hL
  rw [e] at h4
  cases h4
  exact ⟨t, h, hL, h1, h2, h3⟩

section
variable [DecidableEq P]
def rkOf (ord : List Nat) (places : List P) (p : P) : Nat := min 7 (ord.idxOf (places.idxOf p))
theorem idx_at {α : Type} [DecidableEq α] {l : List α} (nd : l.Nodup) {i : Nat} {x : α} (e : l[i]? = some x) : l.idxOf x = i := by
  have hm : x ∈ l := List.mem_of_getElem? e
  have h1 : l.idxOf x < l.length := List.idxOf_lt_length_iff.mpr hm
  have h2 : l[l.idxOf x]? = some x := by
    rw [List.getElem?_eq_getElem h1, List.getElem_idxOf h1]
  exact get_inj nd h2 e
theorem named_net {L : List (Nat × Nat)} {ord : List Nat} {names : List N} {places : List P} {M : List (N × P × P)} {s e : P} (g : GOk L ord) (hpos : 1 ≤ L.length) (hlen : L.length ≤ 10) (h8 : ord.length ≤ 8)
    (nn : names.Nodup) (pn : places.Nodup) (m : Named L names places M) (h0 : places[0]? = some s) (h1 : places[1]? = some e) :
    Net M s e (rkOf ord places) ∧ Cut M s e := by
  have walk : ∀ (good : N → Bool) {p q : Nat} {w : List Nat}, IPath L p w q → (∀ (i : Nat) (n : N), i ∈ w → names[i]? = some n → good n = true) → ∀ a, places[p]? = some a → ∃ v b, places[q]? = some b ∧ Path M a v b ∧ ∀ n ∈ v, good n = true := by
    intro good p q w a
    induction a with
    | nil p => exact fun _ a ha => ⟨[], a, ha, .nil a, fun n hn => absurd hn List.not_mem_nil⟩
    | @cons i t h w e ei _ ih =>
      intro hg a ha
      obtain ⟨n, a', b, q1, q2, q3, q4⟩ := m.at_ i t h ei
      rw [ha] at q2
      cases q2
      obtain ⟨v, c, hc, pv, gv⟩ := ih (fun j n hj => hg j n (List.mem_cons_of_mem _ hj)) b q3
      refine ⟨n :: v, c, hc, .cons (List.mem_of_getElem? q4) pv, fun x hx => ?_⟩
      rcases List.mem_cons.mp hx with rfl | hx
      · exact hg i _ List.mem_cons_self q1
      · exact gv x hx
  have mem : ∀ l ∈ M, ∃ (k t h : Nat), L[k]? = some (t, h) ∧ names[k]? = some l.1 ∧ places[t]? = some l.2.1 ∧ places[h]? = some l.2.2 := fun l hl => by
    obtain ⟨k, hk⟩ := List.mem_iff_getElem?.mp hl
    obtain ⟨n, a, b⟩ := l
    obtain ⟨t, h, q1, q2, q3, q4⟩ := m.inv hk
    exact ⟨k, t, h, q1, q2, q3, q4⟩
  have h01 : (0 : Nat) ∈ ord := (g.mem 0).mpr (by have := g.two; omega)
  have h11 : (1 : Nat) ∈ ord := (g.mem 1).mpr (by have := g.two; omega)
  refine ⟨⟨by rw [m.len]; exact hpos, by rw [m.len]; exact hlen, ?_, fun l hl => ?_, fun p => ?_, fun z => ?_, fun l hl => ?_, fun l hl => ?_⟩, ?_⟩
  · rw [List.nodup_iff_pairwise_ne, List.pairwise_iff_getElem]
    intro i j hi hj hij z0
    have hj' : j < M.length := by rw [List.length_map] at hj; exact hj
    have z : (M.map (·.1))[i]? = (M.map (·.1))[j]? := by rw [List.getElem?_eq_getElem hi, List.getElem?_eq_getElem hj, z0]
    obtain ⟨⟨n, a, b⟩, e1⟩ := get_some (show i < M.length by omega)
    obtain ⟨⟨n', a', b'⟩, e2⟩ := get_some hj'
    rw [List.getElem?_map, List.getElem?_map, e1, e2] at z
    have z : n = n' := by simpa using z
    obtain ⟨_, _, _, q1, _⟩ := m.inv e1
    obtain ⟨_, _, _, q2, _⟩ := m.inv e2
    rw [z] at q1
    have := get_inj nn q1 q2
    omega
  · obtain ⟨k, t, h, q1, _, q3, q4⟩ := mem l hl
    obtain ⟨x, y, hx, hy, hxy⟩ := g.dir k t h q1
    unfold rkOf
    rw [idx_at pn q3, idx_at pn q4, idx_at g.nd hx, idx_at g.nd hy]
    have := get_lt hy
    omega
  · unfold rkOf
    omega
  · rw [← z] at h1
    have := get_inj pn h0 h1
    omega
  · obtain ⟨k, t, h, q1, _, q3, q4⟩ := mem l hl
    obtain ⟨w, hw⟩ := g.frm t (g.ends q1).1
    obtain ⟨v, b, hb, pv, _⟩ := walk (fun _ => true) hw (fun _ _ _ _ => rfl) s h0
    rw [q3] at hb
    cases hb
    exact ⟨v, pv⟩
  · obtain ⟨k, t, h, q1, _, q3, q4⟩ := mem l hl
    obtain ⟨w, hw⟩ := g.to h (g.ends q1).2
    obtain ⟨v, b, hb, pv, _⟩ := walk (fun _ => true) hw (fun _ _ _ _ => rfl) _ q4
    rw [h1] at hb
    cases hb
    exact ⟨v, pv⟩
  · intro good
    rcases g.cut (fun i => match names[i]? with | some n => good n | none => false) with ⟨w, hw, gw⟩ | ⟨S, s0, s1, cl, bad⟩
    · obtain ⟨v, b, hb, pv, gv⟩ := walk good hw (fun i n hi en => by
        have q := gw i hi
        rw [en] at q
        exact q) s h0
      rw [h1] at hb
      cases hb
      exact .inl ⟨v, pv, gv⟩
    · have at' : ∀ (i : Nat) (a : P), places[i]? = some a → (S (places.idxOf a) = S i) := fun i a ea => by rw [idx_at pn ea]
      refine .inr ⟨fun a => S (places.idxOf a), ?_, ?_, fun l hl => ?_, fun l hl => ?_⟩
      · show S (places.idxOf s) = true
        rw [at' 0 s h0]; exact s0
      · show S (places.idxOf e) = false
        rw [at' 1 e h1]; exact s1
      · obtain ⟨k, t, h, q1, _, q3, q4⟩ := mem l hl
        show S (places.idxOf l.2.2) = true → S (places.idxOf l.2.1) = true
        rw [at' t _ q3, at' h _ q4]
        exact cl k t h q1
      · obtain ⟨k, t, h, q1, q2, q3, q4⟩ := mem l hl
        show S (places.idxOf l.2.1) = true → S (places.idxOf l.2.2) = false → good l.1 = false
        rw [at' t _ q3, at' h _ q4]
        intro a b
        have q := bad k t h q1 a b
        rw [q2] at q
        exact q
end

/-! ### the worklist search: followed -/
section
variable [DecidableEq P]
/-- found and waiting while the search runs -/
structure Wl (L : List (N × P × P)) (a : P) (found waiting : List P) : Prop where
  lead : ∀ p ∈ found, Leads L a p
  wait : ∀ p ∈ waiting, p = a ∨ p ∈ found
  done : ∀ p, (p = a ∨ p ∈ found) → p ∉ waiting → ∀ l ∈ L, l.2.1 = p → l.2.2 ∈ found
  nd : found.Nodup
  sub : ∀ p ∈ found, p ∈ L.map (·.2.2)
theorem wl_start {L : List (N × P × P)} {a : P} : Wl L a [] [a] where
  lead := fun p h => absurd h List.not_mem_nil
  wait := fun p h => .inl (List.mem_singleton.mp h)
  done := fun p h hn => by
    rcases h with rfl | h
    · exact absurd (List.mem_singleton.mpr rfl) hn
    · exact absurd h List.not_mem_nil
  nd := List.nodup_nil
  sub := fun p h => absurd h List.not_mem_nil
/-- amid the turn at the place b: the links of M are through -/
structure Wm (L M : List (N × P × P)) (a b : P) (found waiting : List P) : Prop where
  lead : ∀ p ∈ found, Leads L a p
  here : b = a ∨ b ∈ found
  wait : ∀ p ∈ waiting, p = a ∨ p ∈ found
  done : ∀ p, (p = a ∨ p ∈ found) → p ∉ waiting → p ≠ b → ∀ l ∈ L, l.2.1 = p → l.2.2 ∈ found
  part : ∀ l ∈ M, l.2.1 = b → l.2.2 ∈ found
  nd : found.Nodup
  sub : ∀ p ∈ found, p ∈ L.map (·.2.2)
theorem Wl.pop {L : List (N × P × P)} {a b : P} {found r : List P} (w : Wl L a found (r ++ [b])) : Wm L [] a b found r where
  lead := w.lead
  here := w.wait b (List.mem_append_right _ (List.mem_singleton.mpr rfl))
  wait := fun p h => w.wait p (List.mem_append_left _ h)
  done := fun p h hn hb => w.done p h fun hm => by
    rcases List.mem_append.mp hm with hm | hm
    · exact hn hm
    · exact hb (List.mem_singleton.mp hm)
  part := fun l h => absurd h List.not_mem_nil
  nd := w.nd
  sub := w.sub
theorem Wm.close {L : List (N × P × P)} {a b : P} {found r : List P} (w : Wm L L a b found r) : Wl L a found r where
  lead := w.lead
  wait := w.wait
  done := fun p h hn l hl e => by
    by_cases z : p = b
    · exact w.part l hl (e.trans z)
    · exact w.done p h hn z l hl e
  nd := w.nd
  sub := w.sub
theorem Wm.skip {L M : List (N × P × P)} {a b : P} {found r : List P} (w : Wm L M a b found r) {l : N × P × P} (h : l.2.1 = b → l.2.2 ∈ found) : Wm L (M ++ [l]) a b found r where
  lead := w.lead
  here := w.here
  wait := w.wait
  done := w.done
  part := fun x hx e => by
    rcases List.mem_append.mp hx with hx | hx
    · exact w.part x hx e
    · rw [List.mem_singleton.mp hx] at e ⊢
      exact h e
  nd := w.nd
  sub := w.sub
theorem Wm.push {L M : List (N × P × P)} {a b : P} {found r : List P} (w : Wm L M a b found r) {l : N × P × P} (hl : l ∈ L) (ht : l.2.1 = b) (hn : l.2.2 ∉ found) : Wm L (M ++ [l]) a b (found ++ [l.2.2]) (r ++ [l.2.2]) where
  lead := fun p hp => by
    rcases List.mem_append.mp hp with hp | hp
    · exact w.lead p hp
    · rw [List.mem_singleton.mp hp]
      rcases w.here with e | e
      · exact ⟨[l.1], by simp, by rw [← e, ← ht]; exact Path.one hl⟩
      · obtain ⟨v, _, pv⟩ := w.lead b e
        rw [← ht] at pv
        exact ⟨v ++ [l.1], by simp, pv.append (Path.one hl)⟩
  here := w.here.elim .inl fun h => .inr (List.mem_append_left _ h)
  wait := fun p hp => by
    rcases List.mem_append.mp hp with hp | hp
    · exact (w.wait p hp).elim .inl fun h => .inr (List.mem_append_left _ h)
    · exact .inr (List.mem_append_right _ hp)
  done := fun p h hn' hb x hx e => by
    have hne : p ≠ l.2.2 := fun z => hn' (List.mem_append_right _ (List.mem_singleton.mpr z))
    refine List.mem_append_left _ (w.done p (h.elim .inl fun h => ?_) (fun z => hn' (List.mem_append_left _ z)) hb x hx e)
    rcases List.mem_append.mp h with h | h
    · exact .inr h
    · exact absurd (List.mem_singleton.mp h) hne
  part := fun x hx e => by
    rcases List.mem_append.mp hx with hx | hx
    · exact List.mem_append_left _ (w.part x hx e)
    · rw [List.mem_singleton.mp hx]
      exact List.mem_append_right _ (List.mem_singleton.mpr rfl)
  nd := List.nodup_append.mpr ⟨w.nd, List.nodup_cons.mpr ⟨List.not_mem_nil, List.nodup_nil⟩, fun x hx y hy z => hn (by rw [← List.mem_singleton.mp hy, ← z]; exact hx)⟩
  sub := fun p hp => by
    rcases List.mem_append.mp hp with hp | hp
    · exact w.sub p hp
    · rw [List.mem_singleton.mp hp]
      exact List.mem_map.mpr ⟨l, hl, rfl⟩
theorem nodup_sub_len {α : Type} [DecidableEq α] : ∀ {l m : List α}, l.Nodup → (∀ x ∈ l, x ∈ m) → l.length ≤ m.length
  | [], _, _, _ => Nat.zero_le _
  | x :: l, m, nd, h => by
    obtain ⟨h1, h2⟩ := List.nodup_cons.mp nd
    have ih := nodup_sub_len (l := l) (m := m.erase x) h2 fun y hy => by
      have hne : y ≠ x := fun z => h1 (z ▸ hy)
      exact (List.mem_erase_of_ne hne).mpr (h y (List.mem_cons_of_mem _ hy))
    have hx := h x List.mem_cons_self
    rw [List.length_erase_of_mem hx] at ih
    have := List.length_pos_of_mem hx
    rw [List.length_cons]
    omega
theorem Wl.small {L : List (N × P × P)} {a : P} {found waiting : List P} (w : Wl L a found waiting) : found.length ≤ L.length := by
  have := nodup_sub_len w.nd w.sub
  rwa [List.length_map] at this
theorem Wm.small {L M : List (N × P × P)} {a b : P} {found waiting : List P} (w : Wm L M a b found waiting) : found.length ≤ L.length := by
  have := nodup_sub_len w.nd w.sub
  rwa [List.length_map] at this
/-- at its end -/
theorem Wl.all {L : List (N × P × P)} {a : P} {found : List P} (w : Wl L a found []) (p : P) : p ∈ found ↔ Leads L a p := by
  refine ⟨w.lead p, ?_⟩
  rintro ⟨v, hv, pv⟩
  have reach : ∀ {q p : P} {v : List N}, Path L q v p → (q = a ∨ q ∈ found) → v ≠ [] → p ∈ found := by
    intro q p v b
    induction b with
    | nil => exact fun _ z => absurd rfl z
    | @cons n t h w' e hm b ih =>
      intro hq _
      have hh := w.done t hq List.not_mem_nil _ hm rfl
      by_cases z : w' = []
      · subst z
        cases b
        exact hh
      · exact ih (.inr hh) z
  exact reach pv (.inl rfl) hv
/-- links turned about -/
def turned (L : List (N × P × P)) : List (N × P × P) := L.map fun l => (l.1, l.2.2, l.2.1)
theorem turned_mem {L : List (N × P × P)} {n : N} {t h : P} : (n, t, h) ∈ turned L ↔ (n, h, t) ∈ L := by
  unfold turned
  constructor
  · intro q
    obtain ⟨⟨n', a, b⟩, h1, h2⟩ := List.mem_map.mp q
    cases h2
    exact h1
  · exact fun q => List.mem_map.mpr ⟨_, q, rfl⟩
theorem turned_path {L : List (N × P × P)} {a b : P} {w : List N} (h : Path L a w b) : Path (turned L) b w.reverse a := by
  induction h with
  | nil p => exact .nil p
  | cons hm _ ih =>
    rw [List.reverse_cons]
    exact ih.append (Path.one (turned_mem.mpr hm))
theorem turned_leads {L : List (N × P × P)} {a b : P} (h : Leads L a b) : Leads (turned L) b a := by
  obtain ⟨w, hw, pw⟩ := h
  exact ⟨w.reverse, by simpa using hw, turned_path pw⟩
end

/-! ### a closed set for each place -/
section
variable [DecidableEq P]
/-- a place, the start, and all that leads to it: closed -/
theorem spots_closed {L : List (N × P × P)} {s e : P} {rk : P → Nat} (n : Net L s e rk) {p : P} {S : P → Bool} (hS : ∀ q, S q = true ↔ q = s ∨ q = p ∨ Leads L q p) (hpe : p ≠ e) : S s = true ∧ S e = false ∧ Closed L S := by
  have noIn : ∀ l ∈ L, l.2.2 ≠ s := fun l hl z => by
    obtain ⟨w, hw⟩ := n.frm l hl
    have h1 := hw.rank n.ranked
    have h2 := n.ranked l hl
    rw [z] at h2
    omega
  refine ⟨(hS s).mpr (.inl rfl), ?_, fun l hl h => ?_⟩
  · cases q : S e with
    | false => rfl
    | true =>
      exfalso
      rcases (hS e).mp q with z | z | z
      · exact n.se z.symm
      · exact hpe z.symm
      · obtain ⟨w, hw, pw⟩ := z
        obtain ⟨m, h, hm⟩ := pw.first hw
        exact n.tail_ne _ hm rfl
  · rcases (hS _).mp h with z | z | ⟨w, hw, pw⟩
    · exact absurd z (noIn l hl)
    · exact (hS _).mpr (.inr (.inr ⟨[l.1], by simp, by rw [← z]; exact Path.one hl⟩))
    · exact (hS _).mpr (.inr (.inr ⟨l.1 :: w, by simp, .cons hl pw⟩))
end
end XL

/-! Fractions by three in lowest terms. -/
namespace XL
def nrm (t b : Int) : Int × Int := (t.fdiv (Int.gcd t b), b.fdiv (Int.gcd t b))
def R3 (n : Int) : Int × Int := nrm n 3
theorem gcd3 (n : Int) : Int.gcd n 3 = if n % 3 = 0 then 3 else 1 := by
  show Nat.gcd n.natAbs 3 = _
  rw [Nat.gcd_comm, Nat.gcd_rec]
  have h : n.natAbs % 3 < 3 := Nat.mod_lt _ (by decide)
  by_cases z : n % 3 = 0
  · rw [if_pos z]
    have e : n.natAbs % 3 = 0 := by omega
    rw [e]
    decide
  · rw [if_neg z]
    have e : n.natAbs % 3 = 1 ∨ n.natAbs % 3 = 2 := by omega
    rcases e with e | e <;> rw [e] <;> decide
theorem fdiv_one (n : Int) : n.fdiv 1 = n := Int.fdiv_one n
theorem R3_eq (n : Int) : R3 n = if n % 3 = 0 then (n / 3, 1) else (n, 3) := by
  unfold R3 nrm
  rw [gcd3]
  by_cases z : n % 3 = 0
  · rw [if_pos z, if_pos z]
    show (n.fdiv 3, (3 : Int).fdiv 3) = _
    rw [Int.fdiv_eq_ediv_of_nonneg n (by decide)]
    rfl
  · rw [if_neg z, if_neg z]
    show (n.fdiv 1, (3 : Int).fdiv 1) = _
    rw [fdiv_one]
    rfl
theorem R3_bot (n : Int) : (R3 n).2 = 1 ∨ (R3 n).2 = 3 := by
  rw [R3_eq]
  split
  · exact .inl rfl
  · exact .inr rfl
theorem R3_inj {a b : Int} : R3 a = R3 b ↔ a = b := by
  refine ⟨fun h => ?_, fun h => by rw [h]⟩
  rw [R3_eq, R3_eq] at h
  split at h <;> split at h <;> simp only [Prod.mk.injEq] at h <;> omega
theorem R3_lt (a b : Int) : (R3 a).1 * (R3 b).2 < (R3 b).1 * (R3 a).2 ↔ a < b := by
  rw [R3_eq, R3_eq]
  split <;> split <;> dsimp only <;> omega
theorem R3_zero (a : Int) : (R3 a).1 = 0 ↔ a = 0 := by
  rw [R3_eq]
  split <;> dsimp only <;> omega
theorem R3_pos (a : Int) : 0 < (R3 a).1 ↔ 0 < a := by
  rw [R3_eq]
  split <;> dsimp only <;> omega
theorem nrm_one (x : Int) : nrm x 1 = (x, 1) := by
  unfold nrm
  have e : Int.gcd x 1 = 1 := by
    show Nat.gcd x.natAbs 1 = 1
    exact Nat.gcd_one_right _
  rw [e]
  show (x.fdiv 1, (1 : Int).fdiv 1) = _
  rw [fdiv_one]
  rfl
theorem nrm_nine (m : Int) : nrm (m * 3) 9 = R3 m := by
  unfold R3 nrm
  have e : Int.gcd (m * 3) 9 = Int.gcd m 3 * 3 := by
    show Nat.gcd (m * 3).natAbs 9 = Nat.gcd m.natAbs 3 * 3
    rw [Int.natAbs_mul]
    exact Nat.gcd_mul_right m.natAbs 3 3
  rw [e]
  have g : 0 < Int.gcd m 3 := by
    rw [gcd3]
    split <;> decide
  have e2 : ((Int.gcd m 3 * 3 : Nat) : Int) = (Int.gcd m 3 : Int) * 3 := by push_cast; rfl
  rw [e2, Int.mul_fdiv_mul_of_pos_left m _ (by decide), show (9 : Int) = 3 * 3 by decide, Int.mul_fdiv_mul_of_pos_left 3 _ (by decide)]
theorem R3_add (a b : Int) : nrm ((R3 a).1 * (R3 b).2 + (R3 b).1 * (R3 a).2) ((R3 a).2 * (R3 b).2) = R3 (a + b) := by
  rw [R3_eq a, R3_eq b]
  by_cases z : a % 3 = 0
  · rw [if_pos z]
    by_cases y : b % 3 = 0
    · rw [if_pos y]
      dsimp only
      rw [show (1 : Int) * 1 = 1 by decide, nrm_one, R3_eq, if_pos (by omega)]
      rw [show a / 3 * 1 + b / 3 * 1 = (a + b) / 3 by omega]
    · rw [if_neg y]
      dsimp only
      rw [show (1 : Int) * 3 = 3 by decide, show a / 3 * 3 + b * 1 = a + b by omega]
      rfl
  · rw [if_neg z]
    by_cases y : b % 3 = 0
    · rw [if_pos y]
      dsimp only
      rw [show (3 : Int) * 1 = 3 by decide, show a * 1 + b / 3 * 3 = a + b by omega]
      rfl
    · rw [if_neg y]
      dsimp only
      rw [show (3 : Int) * 3 = 9 by decide, show a * 3 + b * 3 = (a + b) * 3 by omega]
      exact nrm_nine _
theorem R3_zero_is : nrm 0 1 = R3 0 := by
  rw [nrm_one, R3_eq]
  rfl
theorem R3_small {a : Int} (h0 : 0 ≤ a) : 0 ≤ (R3 a).1 ∧ (R3 a).1 ≤ a := by
  rw [R3_eq]
  split <;> dsimp only <;> omega
end XL

/-! The walk of the extra-link law: the text by places, heaps. -/
namespace XW
open PySem L2
def topS (i : Nat) : Stmt := PySem.Challenge.pw_extralink_k84_whole_witness_for_extra_li.main.body.getD i (.Pass ⟨0, 0, 0, 0⟩)
abbrev sValid : Stmt := topS 17
abbrev sDivisor : Stmt := topS 20
abbrev sRInit : Stmt := inClass (topS 21) 0
abbrev sRSign : Stmt := inClass (topS 21) 4
abbrev sRBelow : Stmt := inClass (topS 21) 6
abbrev sRAdd : Stmt := inClass (topS 21) 8
abbrev sREq : Stmt := inClass (topS 21) 14
abbrev sAsRatio : Stmt := topS 23
abbrev sCheckLoads : Stmt := topS 25
abbrev sBears : Stmt := topS 26
abbrev sWitness : Stmt := topS 27
abbrev sCutLoad : Stmt := topS 28
abbrev sFollowed : Stmt := topS 30
abbrev sUseful : Stmt := topS 31
abbrev sCheckNames : Stmt := topS 32
abbrev sNInit : Stmt := inClass (topS 35) 2
abbrev sNStart : Stmt := inClass (topS 35) 4
abbrev sNEnd : Stmt := inClass (topS 35) 5
abbrev sNNames : Stmt := inClass (topS 35) 6
abbrev sNPlaces : Stmt := inClass (topS 35) 7
abbrev sNWays : Stmt := inClass (topS 35) 10
abbrev sNGet : Stmt := inClass (topS 35) 13
abbrev sOpened : Stmt := topS 37
abbrev sLStart : Stmt := topS 39
abbrev sLTake : Stmt := topS 40
abbrev sLShuffled : Stmt := topS 41
abbrev sLGrown : Stmt := topS 42
abbrev sLNamed : Stmt := topS 43
abbrev sLNetwork : Stmt := topS 44
abbrev sLWays : Stmt := topS 45
abbrev sLLeads : Stmt := topS 46
abbrev sLExtra : Stmt := topS 47
abbrev sLLoads : Stmt := topS 48
abbrev sLAmounts : Stmt := topS 49
abbrev sLRatios : Stmt := topS 50
abbrev sLaw : Stmt := topS 51

/-! ### heaps -/
theorem same_upd {H : Hp} {p : Addr} {o : HO} (h : H p = none) : Same H (upd H p o) := fun b x e => (upd_ne (ne_of_none e h)).trans e
theorem _root_.L2.Same.upd {H H1 : Hp} {p : Addr} {o : HO} (s : Same H H1) (h : H1 p = none) : Same H (upd H1 p o) := s.trans (same_upd h)
theorem _root_.L2.Same.seqT {K : PySem.W.Frag} {H H' : Hp} {a : Addr} {xs : List V} (e : Same H H') (h : SqT K H a xs) : SqT K H' a xs := L2.SqT.ext h e
theorem iteKT {c : Bool} {A B : Prop} (h : c = true) (a : A) : if c = true then A else B := (if_pos h).mpr a
theorem iteKF {c : Bool} {A B : Prop} (h : c = false) (b : B) : if c = true then A else B := (if_neg (by rw [h]; exact Bool.false_ne_true)).mpr b
theorem iteB {c : Bool} {A B : Prop} (h1 : c = true → A) (h2 : c = false → B) : if c = true then A else B := by
  cases c with
  | true => exact iteT (h1 rfl)
  | false => exact iteF (h2 rfl)
theorem decV {i j : Int} (h : i = j) : decide (V.int i = V.int j) = true := decide_eq_true (by rw [h])
theorem decVn {i j : Int} (h : ¬ i = j) : decide (V.int i = V.int j) = false := decide_eq_false fun q => h (V.int.inj q)
theorem seqIx {v : Int} {n : Nat} (h : 0 ≤ v) (h2 : v < n) : seqIndex? v n = some v.toNat := by
  have h0 : ¬ v < 0 := by omega
  simp [seqIndex?, h0, h, h2]
theorem ixNat {n : Nat} {v : Int} (h : 0 ≤ v) (h2 : v < n) : ixN n v = some v.toNat := by
  unfold ixN
  rw [if_pos h, if_pos h2]
theorem perm_erase {α : Type} {l : List α} {k : Nat} {y : α} (e : l[k]? = some y) : (y :: l.eraseIdx k).Perm l := by
  induction l generalizing k with
  | nil => simp at e
  | cons a l ih =>
    cases k with
    | zero =>
      have e : a = y := by simpa using e
      rw [e]
      exact .refl _
    | succ k =>
      have e : l[k]? = some y := by simpa using e
      rw [List.eraseIdx_cons_succ]
      exact (List.Perm.swap a y _).trans ((ih e).cons a)
theorem same_unlock {H H' : Hp} {d : Addr} {o : Obj} {u : HO} (s : Same (L2.upd H d (.frz o u)) H') (h : H d = some u) : Same H (L2.upd H' d u) := fun b x e => by
  by_cases z : b = d
  · subst z
    rw [h] at e
    rw [upd_same]
    exact e
  · rw [upd_ne z]
    exact s b x (by rw [upd_ne z]; exact e)
/-- two lists item by item -/
inductive A2 {α β : Type} (R : α → β → Prop) : List α → List β → Prop
  | nil : A2 R [] []
  | cons {a : α} {b : β} {l : List α} {m : List β} : R a b → A2 R l m → A2 R (a :: l) (b :: m)
section
variable {α β : Type} {R R' : α → β → Prop}
theorem A2.len {l : List α} {m : List β} (h : A2 R l m) : l.length = m.length := by
  induction h with
  | nil => rfl
  | cons _ _ ih => simp [ih]
theorem A2.mono {l : List α} {m : List β} (h : A2 R l m) (f : ∀ a b, R a b → R' a b) : A2 R' l m := by
  induction h with
  | nil => exact .nil
  | cons r _ ih => exact .cons (f _ _ r) ih
theorem A2.app {l l' : List α} {m m' : List β} (h : A2 R l m) (h' : A2 R l' m') : A2 R (l ++ l') (m ++ m') := by
  induction h with
  | nil => exact h'
  | cons r _ ih => exact .cons r ih
theorem A2.snoc {l : List α} {m : List β} {a : α} {b : β} (h : A2 R l m) (r : R a b) : A2 R (l ++ [a]) (m ++ [b]) := h.app (.cons r .nil)
theorem A2.get {l : List α} {m : List β} (h : A2 R l m) : ∀ {i : Nat} {b : β}, m[i]? = some b → ∃ a, l[i]? = some a ∧ R a b := by
  induction h with
  | nil => intro i b e; simp at e
  | cons r _ ih =>
    intro i b e
    cases i with
    | zero =>
      simp at e
      subst e
      exact ⟨_, rfl, r⟩
    | succ i => exact ih (by simpa using e)
theorem A2.getL {l : List α} {m : List β} (h : A2 R l m) : ∀ {i : Nat} {a : α}, l[i]? = some a → ∃ b, m[i]? = some b ∧ R a b := by
  induction h with
  | nil => intro i b e; simp at e
  | cons r _ ih =>
    intro i b e
    cases i with
    | zero =>
      simp at e
      subst e
      exact ⟨_, rfl, r⟩
    | succ i => exact ih (by simpa using e)
theorem A2.set {l : List α} {m : List β} (h : A2 R l m) {a : α} {b : β} (r : R a b) : ∀ i, A2 R (l.set i a) (m.set i b) := by
  induction h with
  | nil => intro i; exact .nil
  | cons r' t ih =>
    intro i
    cases i with
    | zero => exact .cons r t
    | succ i => exact .cons r' (ih i)
theorem A2.take {l : List α} {m : List β} (h : A2 R l m) : ∀ i, A2 R (l.take i) (m.take i) := by
  induction h with
  | nil => intro i; simp; exact .nil
  | cons r t ih =>
    intro i
    cases i with
    | zero => exact .nil
    | succ i => exact .cons r (ih i)
theorem A2.perm {l l' : List α} {m : List β} (h : A2 R l m) (p : l'.Perm l) : ∃ m', m'.Perm m ∧ A2 R l' m' := by
  have main : ∀ {l l' : List α}, l.Perm l' → ∀ {m : List β}, A2 R l m → ∃ m', m'.Perm m ∧ A2 R l' m' := by
    intro l l' p
    induction p with
    | nil => intro m h; exact ⟨m, .refl _, h⟩
    | cons x _ ih =>
      intro m h
      cases h with
      | cons r t =>
        obtain ⟨m', pm, h'⟩ := ih t
        exact ⟨_ :: m', pm.cons _, .cons r h'⟩
    | swap x y l =>
      intro m h
      cases h with
      | cons r t =>
        cases t with
        | cons r2 t2 => exact ⟨_, List.Perm.swap _ _ _, .cons r2 (.cons r t2)⟩
    | trans _ _ ih1 ih2 =>
      intro m h
      obtain ⟨m1, p1, h1⟩ := ih1 h
      obtain ⟨m2, p2, h2⟩ := ih2 h1
      exact ⟨m2, p2.trans p1, h2⟩
  exact main p.symm h
theorem A2.map {γ δ : Type} {S : γ → δ → Prop} {f : γ → α} {g : δ → β} {l : List γ} {m : List δ} (h : A2 S l m) (k : ∀ a b, S a b → R (f a) (g b)) : A2 R (l.map f) (m.map g) := by
  induction h with
  | nil => exact .nil
  | cons r _ ih => exact .cons (k _ _ r) ih
end
/-- a def of the module with its name -/
structure Df (K : PySem.W.Frag) (mg : Str → Option Value) (x : Str) (st : Stmt) (ps : List Str) (f : Addr) (fd : FuncData) : Prop where
  F : Fun K x x st f fd
  b : Binds K fd ps []
  g : mg x = some (.ref f)
end XW

namespace XW
open PySem L2
section
variable {P : Program} {w : World} {K : PySem.W.Frag} {mg : Str → Option Value} {base : Heap}
/-! ### common_divisor -/
theorem scDivisor : FnScope ["first", "second"] ["first", "second"] (defScope sDivisor) := ⟨rfl, rfl, rfl, by decide +kernel, rfl, by decide +kernel, by decide +kernel⟩
def spDivisor : Sp := fun vs H Q _ => ∃ a b : Int, vs = [.int a, .int b] ∧ Q (.int (Int.gcd a b)) H
theorem gcd_step {x y : Int} (hx : 0 ≤ x) (hy : 0 ≤ y) : Int.gcd y (x.fmod y) = Int.gcd x y := by
  rw [Int.fmod_eq_emod_of_nonneg x hy]
  obtain ⟨n, rfl⟩ := Int.eq_ofNat_of_zero_le hx
  obtain ⟨m, rfl⟩ := Int.eq_ofNat_of_zero_le hy
  show Nat.gcd m ((n : Int) % (m : Int)).natAbs = Nat.gcd n m
  have e : ((n : Int) % (m : Int)).natAbs = n % m := by omega
  rw [e, Nat.gcd_comm m, ← Nat.gcd_rec, Nat.gcd_comm]
theorem gcd_abs (a b : Int) : Int.gcd (if a < 0 then -a else a) (if b < 0 then -b else b) = Int.gcd a b := by
  have e : ∀ x : Int, (if x < 0 then -x else x).natAbs = x.natAbs := fun x => by split <;> omega
  show Nat.gcd _ _ = Nat.gcd _ _
  rw [e, e]
theorem ok_divisor {f : Addr} {fd : FuncData} (F : Fun K "common_divisor" "common_divisor" sDivisor f fd) (mA : mg "abs" = none) : FnOk P w K mg base CX0 1 f fd ["first", "second"] spDivisor := by
  refine F.ok scDivisor (fun vs H Q E h => ?_) (fun cdv A outer s H vs Q E hr h => ?_)
  · obtain ⟨a, b, rfl, _⟩ := h
    rfl
  · obtain ⟨a, b, rfl, k⟩ := h
    have nd := scDivisor.nd
    refine ⟨_, pss_cons (ps_set (i := 0) nd rfl (.inl rfl) (pe_callB call_abs (by rfl) mA (by decide +kernel) (pa_cons (pv 0) pa_nil)))
      (pss_cons (ps_set (i := 1) nd rfl (.inl rfl) (pe_callB call_abs (by rfl) mA (by decide +kernel) (pa_cons (pv 1) pa_nil)))
      (pss_cons (ps_while PassesOwn.never (pt_cmpR op_ne (pv 1) pe_int (nomark _))
        (pss_one (ps_par (i := 0) (j := 1) (by rfl) nd rfl rfl (by decide) rfl rfl (pa_cons (pv 1) (pa_cons (pe_op op_modN (pv 0) (pv 1)) pa_nil)) (by rfl))))
      (pss_one (ps_ret (pv 0))))), ?_⟩
    refine ⟨_, rfl, _, rfl, _, rfl, _, rfl, ?_⟩
    refine ⟨fun m σ H' => ∃ x y : Int, σ = [some (.int x), some (.int y)] ∧ H' = H ∧ 0 ≤ x ∧ 0 ≤ y ∧ Int.gcd x y = Int.gcd a b ∧ m = y.toNat, ⟨_, _, _, rfl, rfl, ?_, ?_, gcd_abs a b, rfl⟩, fun m σ H' hW => ?_⟩
    · split <;> omega
    · split <;> omega
    · obtain ⟨x, y, rfl, rfl, hx, hy, hg, rfl⟩ := hW
      refine ⟨_, rfl, rfl, _, rfl, ite2 (fun h => ?_) (fun h => ?_)⟩
      · have hy0 : y ≠ 0 := fun z => by
          rw [z] at h
          cases h
        have hm : (x.fmod y) < y := by
          rw [Int.fmod_eq_emod_of_nonneg x hy]
          exact Int.emod_lt_of_pos x (by omega)
        have hm0 : 0 ≤ x.fmod y := by
          rw [Int.fmod_eq_emod_of_nonneg x hy]
          exact Int.emod_nonneg x hy0
        refine ⟨fun σ' H'' => σ' = [some (.int y), some (.int (x.fmod y))] ∧ H'' = H', fun σ' H'' q => ?_, ?_⟩
        · obtain ⟨rfl, rfl⟩ := q
          exact ⟨(x.fmod y).toNat, by omega, y, x.fmod y, rfl, rfl, hy, hm0, (gcd_step hx hy).trans hg, rfl⟩
        · exact ⟨_, rfl, _, rfl, _, rfl, x, y, rfl, rfl, hy0, _, _, rfl, rfl, rfl⟩
      · have hy0 : y = 0 := by
          by_cases z : y = 0
          · exact z
          · exfalso
            apply h
            show (!decide (V.int y = V.int 0)) = true
            simp [z]
        subst hy0
        refine ⟨_, rfl, ?_⟩
        rw [← hg] at k
        have e : ((Int.gcd x 0 : Nat) : Int) = x := by
          show ((Nat.gcd x.natAbs 0 : Nat) : Int) = x
          rw [Nat.gcd_zero_right]
          omega
        rw [e] at k
        exact k
end
end XW

/-! Own operators of own classes: a + b, o[k], a != b by the class's own defs. -/
namespace XW
open PySem L2 PyProof.Rows
section
variable {X : Cx} {CX : CXT} {k : Nat} {C f : Addr} {sp : Sp} {E : XK}
/-- what an own operator's def has promised, of two values -/
def rOwn (C : Addr) (sp : Sp) (E : XK) : R2 := fun x y H Q => ∃ a b dx dy fs gs, x = .ref a ∧ y = .ref b ∧ H a = some (.ins C dx fs) ∧ H b = some (.ins C dy gs) ∧ sp [.ref a, .ref b] H Q E
theorem rel_ni {v : V} {u : Value} (r : RelV v u) : u ≠ .notImplemented := fun z => by
  subst z
  cases v with
  | non => exact nomatch r
  | bl b => exact nomatch r
  | int i => obtain ⟨t, q⟩ := r; exact nomatch q
  | str x => obtain ⟨t, q⟩ := r; exact nomatch q
  | byt b => obtain ⟨t, q⟩ := r; exact nomatch q
  | flt b => obtain ⟨t, q⟩ := r; exact nomatch q
  | ref a => exact nomatch r
  | ty n => exact nomatch r
theorem cmpBack_of {Q : Value → Shared → Prop} {u : Value} {s : Shared} (h : u ≠ .notImplemented) (q : Q u s) : PySem.W.CmpBack Q u s := by
  cases u <;> first | exact absurd rfl h | exact q
theorem call_ownR {pins : List (Addr × Obj)} {σ : L2.St} {H : Hp} {s : Shared} {Q : VK} {us : List Value} {vs : List V} (F : FnR X.prog X.w X.K X.mg X.base CX k f sp) (hr : Room k X.A) (hx : Passes CX X E) (I : Inv X pins σ H s) (r : Vals vs us) (h : sp vs H Q E) :
    wpAny (model X.prog X.w) X.A (call (.ref f) us) (EP X pins σ Q) X.xe s :=
  wpAny_call (codeAny_mono (run_fnR F hr hx I r h) fun r s' q => by
    cases r with
    | error e => exact q
    | ok fl =>
      cases fl with
      | ret v => exact q
      | next => exact False.elim q
      | brk => exact False.elim q
      | cont => exact False.elim q)
/-- a op b by the left one's own def -/
theorem op_own {op : Operator} (F : FnR X.prog X.w X.K X.mg X.base CX k f sp) (hr : Room k X.A) (hx : Passes CX X E) (hc : PySem.W.selfFirst X.K C = true)
    (hs : PySem.W.findIn X.K (.ref C) (PySem.dunder op.info.2) = some (some (.ref f))) (hf : PySem.W.isFn X.K (.ref f) = true) : OpR X (binaryOp op) (rOwn C sp E) := by
  intro pins s σ H x y v u Q I rx ry hq
  obtain ⟨a, b, dx, dy, fs, gs, rfl, rfl, ha, hb, h⟩ := hq
  obtain rfl : v = Value.ref a := rx
  obtain rfl : u = Value.ref b := ry
  obtain ⟨mA, J, _⟩ := ins_get I.hok ha
  obtain ⟨mB, J', _⟩ := ins_get I.hok hb
  obtain ⟨od, J, _⟩ := J.look
  obtain ⟨od', J', _⟩ := J'.look
  obtain ⟨m, hF⟩ := I.fr
  refine PySem.W.binop_K hF I.ok.mod.kin J J'.type hc hs hf ?_
  exact thn (call_ownR F hr hx I (vs := [.ref a, .ref b]) (.cons rfl (.cons rfl .nil)) h) fun r s' ⟨z, H', I', rz, q⟩ => cmpBack_of (rel_ni rz) ⟨z, H', I', rz, q⟩
/-- a == b, a != b where the class has a def for it -/
theorem cmp_own {op : CmpOp} (hop : compareOp op = richCompare op) (F : FnR X.prog X.w X.K X.mg X.base CX k f sp) (hr : Room k X.A) (hx : Passes CX X E)
    (hs : PySem.W.findIn X.K (.ref C) (cmpInfo op).2.1 = some (some (.ref f))) (hf : PySem.W.isFn X.K (.ref f) = true) : OpR X (compareOp op) (rOwn C sp E) := by
  intro pins s σ H x y v u Q I rx ry hq
  obtain ⟨a, b, dx, dy, fs, gs, rfl, rfl, ha, hb, h⟩ := hq
  obtain rfl : v = Value.ref a := rx
  obtain rfl : u = Value.ref b := ry
  obtain ⟨mA, J, _⟩ := ins_get I.hok ha
  obtain ⟨mB, J', _⟩ := ins_get I.hok hb
  obtain ⟨od, J, _⟩ := J.look
  obtain ⟨od', J', _⟩ := J'.look
  obtain ⟨m, hF⟩ := I.fr
  rw [hop]
  refine PySem.W.cmp_K (tb := .ref C) hr.units0 hF I.ok.mod.kin J J'.type (by simp [PySem.W.notFirst]) hs hf ?_
  exact thn (call_ownR F hr hx I (vs := [.ref a, .ref b]) (.cons rfl (.cons rfl .nil)) h) fun r s' ⟨z, H', I', rz, q⟩ => cmpBack_of (rel_ni rz) ⟨z, H', I', rz, q⟩
/-- o[k] by an own __getitem__ -/
def tOwnIx (C : Addr) (sp : Sp) (E : XK) (ta tb : TE) : TE := fun σ H Q => ta σ H fun x H1 => tb σ H1 fun y H2 => ∃ a dx fs, x = .ref a ∧ H2 a = some (.ins C dx fs) ∧ sp [.ref a, y] H2 Q E
theorem Room.in1' {k : Nat} {A : Around} (r : Room (k + 1) A) : Room k A.in1 := r.in1
theorem pe_ownix {a b : Expr} {pos : Pos} {ta tb : TE} (F : FnR X.prog X.w X.K X.mg X.base CX k f sp) (hr : Room (k + 1) X.A) (hx : ∀ (pins : List (Addr × Obj)) (σ : L2.St) (H : Hp) (s : Shared) (e : Value) (s' : Shared), Inv X pins σ H s → CX X.stack H s E e s' → X.xe e s')
    (hs : PySem.W.findIn X.K (.ref C) "__getitem__" = some (some (.ref f))) (hfn : PySem.W.fnIn X.K f = true) (hf : PySem.W.isFn X.K (.ref f) = true) (ha : PE X a ta) (hb : PE X b tb)
    (hsl : ∀ (x : Addr) (i : Value), subscripted b true (.ref x) i = runValue (.builtin "lifetime.subscript" ⟨[.ref x, i], []⟩)) : PE X (.Subscript a b pos) (tOwnIx C sp E ta tb) := by
  refine ⟨fun pins s σ H Q I h => ?_⟩
  refine Subscript_ (binT ha hb I h fun v u s2 x y H2 I2 rx ry q => ?_)
  obtain ⟨a', dx, fs, rfl, hA, hsp⟩ := q
  obtain rfl : v = Value.ref a' := rx
  obtain ⟨mA, J, _⟩ := ins_get I2.hok hA
  obtain ⟨od, J, _⟩ := J.look
  obtain ⟨m, hF⟩ := I2.fr
  refine PySem.W.sub_K hF I2.ok.mod.kin J hs hfn hf ?_ (hsl a' u)
  refine wpAny_call (codeAny_mono (F X.A.in1 X.stack s2 H2 [.ref a', u] [.ref a', y] Q E hr.in1 I2.env0.in1 (.cons rfl (.cons ry .nil)) hsp) fun r s' hq => ?_)
  cases r with
  | error e => exact hx pins σ H2 s2 e s' I2 hq
  | ok fl =>
    cases fl with
    | ret u => exact I2.after hq
    | next => exact False.elim hq
    | brk => exact False.elim hq
    | cont => exact False.elim hq
end
end XW
namespace XW
open PySem L2 PyProof.Rows
section
variable {prog : Program} {w : World} {A : Around} {E : Value → Shared → Prop} {s : Shared} {K : PySem.W.Frag} {x C L f : Addr} {h₀ : Heap} {m : Str → Option Value} {ox : Obj} {od : Option Obj} {b : Value}
theorem check_ne {M : Model} {Q : Unit → Shared → Prop} (X : K.In s.heap) (I : PySem.W.InstAt s.heap x ox C od) (sb : PySem.W.subIn K (.ref C) (.type "object") = some true) (hq : Q () s) :
    wpAny M A (checkBuiltinCall "object.__ne__" ⟨[.ref x, b], []⟩) Q E s := by
  have ha := F.cmpArgs_ne (.ref x) b
  simp only [checkBuiltinCall, F.cmpKind_ne, F.cmpSplit_ne]
  refine wpAny_bind ?_
  unfold isInstance
  refine wpAny_bind (I.type.here ((PySem.W.looks_subIn X sb).here ?_))
  cases hsig : Manifest.signature? "object.__ne__" with
  | none => exact wpAny_pure hq
  | some sig =>
    simp only [argsOk, hsig] at ha
    have h2 : Bind.checkArgs "object.__ne__" sig ⟨[.ref x, b], []⟩ = pure () := ha
    show wpAny M A (Bind.checkArgs "object.__ne__" sig ⟨[.ref x, b], []⟩) Q E _
    rw [h2]
    exact wpAny_pure hq
end
end XW
namespace XW
open PySem L2 PyProof.Rows
section
variable {prog : Program} {w : World} {A : Around} {E : Value → Shared → Prop} {s : Shared} {K : PySem.W.Frag} {x y C L f : Addr} {h₀ : Heap} {m : Str → Option Value} {ox oy : Obj} {od od' : Option Obj}
theorem objNe_run (X : K.In s.heap) (I : PySem.W.InstAt s.heap x ox C od) (hu : A.units < cLine) (hs : PySem.W.findIn K (.ref C) "__eq__" = some (some (.ref f))) (hf : PySem.W.isFn K (.ref f) = true) {Q : Fin → Shared → Prop}
    (hcall : wpAny (model prog w) A (call (.ref f) [.ref x, .ref y]) (fun v s' => ∃ b, v = .bool b ∧ Q (.done (.ret (.bool (!b)))) s') E s) :
    wpAny (model prog w) A (Builtin.«object.__ne__» ⟨[.ref x, .ref y], []⟩) Q E s := by
  unfold Builtin.«object.__ne__»
  repeat (first
    | with_reducible refine wpAny_cRoomFor hu ?_
    | (refine wpAny_bind (m := callSpecialIfBound? (.ref x) (Str.ofString "__eq__") [.ref y])
        (PySem.W.ifBound_K X I hs hf (wpAny_mono hcall (fun v s' hv => by
          obtain ⟨b, rfl, hq⟩ := hv
          repeat (first | exact hq | exact wpAny_pure hq | exact wpAny_truthy_bool hq | (refine wpAny_bind (m := truthy (.bool _)) (wpAny_truthy_bool ?_)) | wp_step)) fun _ _ e => e)))
    | wp_step)
theorem tryNe_own (X : K.In s.heap) (I : PySem.W.InstAt s.heap x ox C od) (hu' : A.units + 1 < cLine) (hn : PySem.W.findIn K (.ref C) "__ne__" = some (some (.builtin "object.__ne__"))) (sb : PySem.W.subIn K (.ref C) (.type "object") = some true)
    (hs : PySem.W.findIn K (.ref C) "__eq__" = some (some (.ref f))) (hf : PySem.W.isFn K (.ref f) = true) {Q : Option Value → Shared → Prop}
    (hcall : wpAny (model prog w) A.in1 (call (.ref f) [.ref x, .ref y]) (fun v s' => ∃ b, v = .bool b ∧ Q (some (.bool (!b))) s') E s) : wpAny (model prog w) A (tryCompare (.ref x) "__ne__" (.ref y)) Q E s := by
  have S := F.cmp_object.ne
  have run : wpAny (model prog w) A (call (.builtin "object.__ne__") ([.ref x] ++ [.ref y])) (fun v s' => ∃ b, v = .bool (!b) ∧ Q (some (.bool (!b))) s') E s :=
    wpAny_call (codeAny_call_builtin S.plain F.cmpEntry_ne (check_ne X I sb (objNe_run (A := A.in1) X I hu' hs hf (wpAny_mono hcall (fun v s' hv => by
      obtain ⟨b, rfl, hq⟩ := hv
      exact ⟨b, rfl, b, rfl, hq⟩) fun _ _ e => e))))
  have fin : wpAny (model prog w) A (call (.builtin "object.__ne__") ([.ref x] ++ [.ref y]) >>= fun v => pure (some v)) (fun r s' => ∃ b, r = some (.bool (!b)) ∧ Q (some (.bool (!b))) s') E s :=
    wpAny_bind (wpAny_mono run (fun v s' hv => by
      obtain ⟨b, rfl, hq⟩ := hv
      exact wpAny_pure ⟨b, rfl, hq⟩) fun _ _ e => e)
  have one : wpAny (model prog w) A (callSpecialIfBound? (.ref x) "__ne__" [.ref y]) (fun r s' => ∃ b, r = some (.bool (!b)) ∧ Q (some (.bool (!b))) s') E s := by
    simp only [callSpecialIfBound?, bindSpecialIfBound?]
    refine wpAny_holding (wpAny_bind (wpAny_bind (wpAny_bind (I.type.here ((PySem.W.looks_findIn X hn).here ?_)))))
    simp only [S.bind]
    refine wpAny_bind (wpAny_askSetting (wpAny_ite ?_))
    split
    · exact wpAny_bind (wpAny_pure (wpAny_pure fin))
    · exact wpAny_tryCatch (wpAny_bind (wpAny_pure (wpAny_pure fin)))
  simp only [tryCompare]
  refine wpAny_bind (wpAny_mono one (fun r s' hv => ?_) fun _ _ e => e)
  obtain ⟨b, rfl, hq⟩ := hv
  exact wpAny_pure hq
end
section
variable {X : Cx} {CX : CXT} {k : Nat} {C f : Addr} {sp : Sp} {E : XK}
/-- a != b where the class has == alone -/
def rOwnNe (C : Addr) (sp : Sp) (E : XK) : R2 := fun x y H Q => ∃ a b dx dy fs gs, x = .ref a ∧ y = .ref b ∧ H a = some (.ins C dx fs) ∧ H b = some (.ins C dy gs) ∧ sp [.ref a, .ref b] H (fun v H' => ∃ c, v = .bl c ∧ Q (.bl (!c)) H') E
theorem ne_own (F : FnR X.prog X.w X.K X.mg X.base CX k f sp) (hr : Room (k + 1) X.A) (hx : ∀ (pins : List (Addr × Obj)) (σ : L2.St) (H : Hp) (s : Shared) (e : Value) (s' : Shared), Inv X pins σ H s → CX X.stack H s E e s' → X.xe e s')
    (hn : PySem.W.findIn X.K (.ref C) "__ne__" = some (some (.builtin "object.__ne__"))) (sb : PySem.W.subIn X.K (.ref C) (.type "object") = some true)
    (hs : PySem.W.findIn X.K (.ref C) "__eq__" = some (some (.ref f))) (hf : PySem.W.isFn X.K (.ref f) = true) : OpR X (compareOp .NotEq) (rOwnNe C sp E) := by
  intro pins s σ H x y v u Q I rx ry hq
  obtain ⟨a, b, dx, dy, fs, gs, rfl, rfl, ha, hb, h⟩ := hq
  obtain rfl : v = Value.ref a := rx
  obtain rfl : u = Value.ref b := ry
  obtain ⟨mA, J, _⟩ := ins_get I.hok ha
  obtain ⟨mB, J', _⟩ := ins_get I.hok hb
  obtain ⟨od, J, _⟩ := J.look
  obtain ⟨od', J', _⟩ := J'.look
  have hu : X.A.units + 1 < cLine := hu_of hr
  have hcall : wpAny (model X.prog X.w) X.A.in1 (call (.ref f) [.ref a, .ref b]) (fun r s' => ∃ c, r = .bool c ∧ EP X pins σ Q (.bool (!c)) s') X.xe s := by
    refine wpAny_call (codeAny_mono (F X.A.in1 X.stack s H [.ref a, .ref b] [.ref a, .ref b] _ E hr.in1 I.env0.in1 (.cons rfl (.cons rfl .nil)) h) fun r s' hq => ?_)
    cases r with
    | error e => exact hx pins σ H s e s' I hq
    | ok fl =>
      cases fl with
      | ret u =>
        obtain ⟨z, H', I', rz, c, rfl, q⟩ := I.after hq
        obtain rfl : u = Value.bool c := rz
        exact ⟨c, rfl, .bl (!c), H', I', rfl, q⟩
      | next => exact False.elim hq
      | brk => exact False.elim hq
      | cont => exact False.elim hq
  have tr := tryNe_own (Q := fun r s' => ∃ c, r = some (.bool (!c)) ∧ EP X pins σ Q (.bool (!c)) s') I.kIn J hu hn sb hs hf (thn hcall fun r s' hv => by
    obtain ⟨c, rfl, q⟩ := hv
    exact ⟨c, rfl, c, rfl, q⟩)
  show wpAny (model X.prog X.w) X.A (richCompare .NotEq (.ref a) (.ref b)) (EP X pins σ Q) X.xe s
  unfold richCompare
  simp only [oneThing_ref]
  refine wpAny_holding (wpAny_bind (wpAny_cRoomFor (Nat.lt_of_succ_lt hu) ?_))
  rw [cmpInfo_NotEq]
  dsimp only
  refine wpAny_bind (J.type.here (wpAny_bind (J'.type.here ?_)))
  rw [show (Value.ref C != Value.ref C) = false from by simp]
  simp only [Bool.false_eq_true, if_false]
  refine wpAny_bind (wpAny_pure ?_)
  simp only [Bool.false_eq_true, if_false]
  refine wpAny_bind (thn tr fun r s' hv => ?_)
  obtain ⟨c, rfl, q⟩ := hv
  exact wpAny_pure q
end
end XW

namespace XW
open PySem L2 XL
/-! ### the class Ratio -/
theorem ul_ : ¬ (("upper" : Str) = "lower") := by decide +kernel
theorem lu_ : ¬ (("lower" : Str) = "upper") := by decide +kernel
def rf (q : Int × Int) : List (Str × V) := putF "lower" (.int q.2) (putF "upper" (.int q.1) [])
theorem rf_up (q : Int × Int) : (rf q).lookup ("upper" : Str) = some (.int q.1) := by
  unfold rf
  rw [lookup_putF, if_neg ul_, lookup_putF, if_pos rfl]
theorem rf_lo (q : Int × Int) : (rf q).lookup ("lower" : Str) = some (.int q.2) := by
  unfold rf
  rw [lookup_putF, if_pos rfl]
theorem rf_no (q : Int × Int) {m : Str} (h1 : ¬ m = "lower") (h2 : ¬ m = "upper") : (rf q).lookup m = none := by
  unfold rf
  rw [lookup_putF, if_neg h1, lookup_putF, if_neg h2]
  rfl
/-- a ratio stands at p -/
def RatAt (C : Addr) (H : Hp) (p : Addr) (q : Int × Int) : Prop := ∃ dx, H p = some (.ins C dx (rf q))
theorem RatAt.same {C : Addr} {H H' : Hp} {p : Addr} {q : Int × Int} (r : RatAt C H p q) (s : Same H H') : RatAt C H' p q := let ⟨dx, e⟩ := r; ⟨dx, s _ _ e⟩
/-- facts of the class -/
structure RTx (K : PySem.W.Frag) (mg : Str → Option Value) (C : Addr) : Prop where
  cl : Cls K C
  nU : NoAttr K C "upper"
  nL : NoAttr K C "lower"
  mgC : mg "Ratio" = some (.ref C)
  isC : C8.InsC K C
section
variable {P : Program} {w : World} {K : PySem.W.Frag} {mg : Str → Option Value} {base : Heap}
/-! ### __init__ -/
theorem scRInit : FnScope ["self", "top", "bottom", "divisor"] ["self", "top", "bottom"] (defScope sRInit) := ⟨rfl, rfl, rfl, by decide +kernel, rfl, by decide +kernel, by decide +kernel⟩
def spRInit (C : Addr) : Sp := fun vs H Q _ => ∃ (p dx : Addr) (t b : Int), vs = [.ref p, .int t, .int b] ∧ H p = some (.ins C dx []) ∧ 0 < b ∧ b < 1000000 ∧
  ∀ H', (∀ a o, a ≠ p → H a = some o → H' a = some o) → H' p = some (.ins C dx (rf (nrm t b))) → Q .non H'
theorem gcd_small {t b : Int} (h : 0 < b) (h2 : b < 1000000) : (Int.gcd t b : Int) ≠ 0 ∧ (Int.gcd t b : Int).natAbs < 1073741824 := by
  have h1 : Int.gcd t b ≤ b.natAbs := Nat.le_of_dvd (by omega) (Nat.gcd_dvd_right _ _)
  have h3 : 0 < Int.gcd t b := Nat.gcd_pos_of_pos_right _ (by omega)
  omega
theorem ok_rinit {f fD C : Addr} {fd fdD : FuncData} (F : FunD K "__init__" "Ratio.__init__" (defArgs sRInit) (defBody sRInit) (defScope sRInit) [.int 1] [] f fd) (T : RTx K mg C)
    (D : Df K mg "common_divisor" sDivisor ["first", "second"] fD fdD) (mA : mg "abs" = none) : FnOk P w K mg base CX0 2 f fd ["self", "top", "bottom"] (spRInit C) := by
  have GD : FnOk P w K mg base CX0 1 fD fdD ["first", "second"] spDivisor := ok_divisor D.F mA
  refine F.ok scRInit (fun vs H Q E h => ?_) (fun cdv A outer s H vs Q E hr h => ?_)
  · obtain ⟨p, dx, t, b, rfl, _⟩ := h
    rfl
  · obtain ⟨p, dx, t, b, rfl, hp, hb, hb2, k⟩ := h
    have nd := scRInit.nd
    refine ⟨_, PSs.nox (pss_cons (ps_if (pt_cmpR op_eq (pv 2) pe_int (nomark _)) (pss_one ps_never) pss_nil)
      (pss_cons (ps_set (i := 3) nd rfl (.inl rfl) (pe_call GD hr (by rfl) D.g D.F.kp D.b .nil pass0 (pa_cons (pv 1) (pa_cons (pv 2) pa_nil))))
      (pss_cons (ps_if (pt_cmpR op_lt (pv 2) pe_int (nomark _)) (pss_one (ps_set (i := 3) nd rfl (.inl rfl) (pe_un un_neg (pv 3)))) pss_nil)
      (pss_cons (ps_fld (pv 0) (pe_op op_fdivN (pv 1) (pv 3)) rfl)
      (pss_one (ps_fld (pv 0) (pe_op op_fdivN (pv 2) (pv 3)) rfl)))))), ?_⟩
    refine ⟨_, rfl, rfl, _, rfl, iteKF (decVn (by omega)) ?_⟩
    refine ⟨_, rfl, _, rfl, t, b, rfl, ?_⟩
    refine ⟨_, rfl, _, _, rfl, rfl, _, rfl, iteKF (decide_eq_false (by omega)) ?_⟩
    refine ⟨_, rfl, _, rfl, _, _, rfl, rfl, gcd_small hb hb2, _, rfl, p, C, dx, _, rfl, hp, T.cl, T.nU, (by show 0 < 1000; decide), ?_⟩
    refine ⟨_, rfl, _, rfl, _, _, rfl, rfl, gcd_small hb hb2, _, rfl, p, C, dx, _, rfl, upd_same, T.cl, T.nL, (by show 1 < 1000; decide), ?_⟩
    refine k _ (fun a o ne e => ?_) upd_same
    rw [upd_ne ne, upd_ne ne]
    exact e
/-- a new ratio -/
theorem rat_made {C : Addr} {H : Hp} {Q : VK} {E : XK} {t b : Int} (hb : 0 < b) (hb2 : b < 1000000) (h : ∀ p H', Same H H' → H p = none → RatAt C H' p (nrm t b) → Q (.ref p) H') :
    ∀ x dx, H x = none → H dx = none → dx ≠ x → spRInit C (.ref x :: [.int t, .int b]) (upd (upd H dx (.own x)) x (.ins C dx [])) (fun v H2 => v = .non ∧ Q (.ref x) H2) E := fun x dx nx nd ne => by
  refine ⟨x, dx, t, b, rfl, upd_same, hb, hb2, fun H' s e => ⟨rfl, h x H' (fun a o ea => s a o (ne_of_none ea nx) ?_) nx ⟨dx, e⟩⟩⟩
  rw [upd_ne (ne_of_none ea nx), upd_ne (ne_of_none ea nd)]
  exact ea
theorem rat_facts {C : Addr} {H H' : Hp} {x dx : Addr} {t b : Int} (nx : H x = none) (nd : H dx = none) (s : ∀ a o, a ≠ x → (upd (upd H dx (.own x)) x (.ins C dx [])) a = some o → H' a = some o) (e : H' x = some (.ins C dx (rf (nrm t b)))) :
    Same H H' ∧ RatAt C H' x (nrm t b) := by
  refine ⟨fun a o ea => s a o (ne_of_none ea nx) ?_, dx, e⟩
  rw [upd_ne (ne_of_none ea nx), upd_ne (ne_of_none ea nd)]
  exact ea
/-! ### as_ratio -/
theorem scAsRatio : FnScope ["value"] ["value"] (defScope sAsRatio) := ⟨rfl, rfl, rfl, by decide +kernel, rfl, by decide +kernel, by decide +kernel⟩
def spAsRatio (C : Addr) : Sp := fun vs H Q _ => ∃ (p : Addr) (q : Int × Int), vs = [.ref p] ∧ RatAt C H p q ∧ Q (.ref p) H
theorem ok_asratio {f C : Addr} {fd : FuncData} (F : Fun K "as_ratio" "as_ratio" sAsRatio f fd) (T : RTx K mg C) (mI : mg "isinstance" = none) : FnOk P w K mg base CX0 1 f fd ["value"] (spAsRatio C) := by
  refine F.ok scAsRatio (fun vs H Q E h => ?_) (fun cdv A outer s H vs Q E hr h => ?_)
  · obtain ⟨p, q, rfl, _⟩ := h
    rfl
  · obtain ⟨p, q, rfl, ⟨dx, hp⟩, k⟩ := h
    refine ⟨_, pss_cons (ps_if (pt_val (pe_callB (C8.call_isC T.isC) (by rfl) mI (by decide +kernel) (pa_cons (pv 0) (pa_cons (pe_glob (v := .ref C) (by rfl) T.mgC rfl) pa_nil)))) (pss_one (ps_ret (pv 0))) pss_nil) (pss_one ps_never), ?_⟩
    exact ⟨_, rfl, p, dx, _, rfl, hp, true, rfl, iteT ⟨_, rfl, k⟩⟩
/-! ### sign -/
theorem scRSign : FnScope ["self"] ["self"] (defScope sRSign) := ⟨rfl, rfl, rfl, by decide +kernel, rfl, by decide +kernel, by decide +kernel⟩
def spRSign (C : Addr) : Sp := fun vs H Q _ => ∃ (p : Addr) (a : Int), vs = [.ref p] ∧ RatAt C H p (R3 a) ∧ Q (.int (if a = 0 then 0 else if 0 < a then 1 else -1)) H
theorem ok_rsign {f C : Addr} {fd : FuncData} (F : Fun K "sign" "Ratio.sign" sRSign f fd) (T : RTx K mg C) : FnOk P w K mg base CX0 1 f fd ["self"] (spRSign C) := by
  refine F.ok scRSign (fun vs H Q E h => ?_) (fun cdv A outer s H vs Q E hr h => ?_)
  · obtain ⟨p, q, rfl, _⟩ := h
    rfl
  · obtain ⟨p, a, rfl, ⟨dx, hp⟩, k⟩ := h
    refine ⟨_, pss_cons (ps_if (pt_cmpR op_eq (pe_fld (pv 0) rfl) pe_int (nomark _)) (pss_one (ps_ret pe_int)) pss_nil)
      (pss_one (ps_ret (pe_ifExp (pt_cmpR op_gt (pe_fld (pv 0) rfl) pe_int (nomark _)) pe_int (pe_un un_neg pe_int)))), ?_⟩
    refine ⟨_, rfl, p, C, dx, _, _, rfl, hp, T.cl, T.nU, rf_up _, rfl, _, rfl, ?_⟩
    by_cases z : a = 0
    · refine iteKT (decV ((R3_zero a).mpr z)) ?_
      rw [if_pos z] at k
      exact k
    · refine iteKF (decVn fun q => z ((R3_zero a).mp q)) ?_
      rw [if_neg z] at k
      refine ⟨_, rfl, p, C, dx, _, _, rfl, hp, T.cl, T.nU, rf_up _, _, _, rfl, rfl, _, rfl, ?_⟩
      by_cases y : 0 < a
      · refine iteKT (decide_eq_true ((R3_pos a).mpr y)) ?_
        rw [if_pos y] at k
        exact k
      · refine iteKF (decide_eq_false fun q => y ((R3_pos a).mp q)) ?_
        rw [if_neg y] at k
        exact ⟨_, rfl, k⟩
/-! ### below -/
theorem scRBelow : FnScope ["self", "value", "other"] ["self", "value"] (defScope sRBelow) := ⟨rfl, rfl, rfl, by decide +kernel, rfl, by decide +kernel, by decide +kernel⟩
def spRBelow (C : Addr) : Sp := fun vs H Q _ => ∃ (p r : Addr) (a b : Int), vs = [.ref p, .ref r] ∧ RatAt C H p (R3 a) ∧ RatAt C H r (R3 b) ∧ Q (.bl (decide (a < b))) H
theorem R3_one (n : Int) : -(2 ^ 64) < (R3 n).2 ∧ (R3 n).2 < 2 ^ 64 := by
  rcases R3_bot n with e | e <;> rw [e] <;> decide
theorem ok_rbelow {f fA C : Addr} {fd fdA : FuncData} (F : Fun K "below" "Ratio.below" sRBelow f fd) (T : RTx K mg C) (D : Df K mg "as_ratio" sAsRatio ["value"] fA fdA) (mI : mg "isinstance" = none) : FnOk P w K mg base CX0 2 f fd ["self", "value"] (spRBelow C) := by
  have GA : FnOk P w K mg base CX0 1 fA fdA ["value"] (spAsRatio C) := ok_asratio D.F T mI
  refine F.ok scRBelow (fun vs H Q E h => ?_) (fun cdv A outer s H vs Q E hr h => ?_)
  · obtain ⟨p, r, a, b, rfl, _⟩ := h
    rfl
  · obtain ⟨p, r, a, b, rfl, ⟨dx, hp⟩, ⟨dy, hq⟩, k⟩ := h
    have nd := scRBelow.nd
    refine ⟨_, pss_cons (ps_set (i := 2) nd rfl (.inl rfl) (pe_call GA hr (by rfl) D.g D.F.kp D.b .nil pass0 (pa_cons (pv 1) pa_nil)))
      (pss_one (ps_ret (pe_cmpR op_lt (pe_op op_mul (pe_fld (pv 0) rfl) (pe_fld (pv 2) rfl)) (pe_op op_mul (pe_fld (pv 2) rfl) (pe_fld (pv 0) rfl)) (nomark _)))), ?_⟩
    refine ⟨_, rfl, r, _, rfl, ⟨dy, hq⟩, ?_⟩
    refine ⟨_, rfl, p, C, dx, _, _, rfl, hp, T.cl, T.nU, rf_up _, _, rfl, r, C, dy, _, _, rfl, hq, T.cl, T.nL, rf_lo _, _, _, rfl, rfl, .inr (R3_one _), ?_⟩
    refine ⟨_, rfl, r, C, dy, _, _, rfl, hq, T.cl, T.nU, rf_up _, _, rfl, p, C, dx, _, _, rfl, hp, T.cl, T.nL, rf_lo _, _, _, rfl, rfl, .inr (R3_one _), ?_⟩
    refine ⟨_, _, rfl, rfl, ?_⟩
    have e : decide ((R3 a).1 * (R3 b).2 < (R3 b).1 * (R3 a).2) = decide (a < b) := decide_eq_decide.mpr (R3_lt a b)
    rw [← e] at k
    exact k
/-! ### == -/
theorem scREq : FnScope ["self", "other"] ["self", "other"] (defScope sREq) := ⟨rfl, rfl, rfl, by decide +kernel, rfl, by decide +kernel, by decide +kernel⟩
def spREq (C : Addr) : Sp := fun vs H Q _ => ∃ (p r : Addr) (a b : Int), vs = [.ref p, .ref r] ∧ RatAt C H p (R3 a) ∧ RatAt C H r (R3 b) ∧ Q (.bl (decide (a = b))) H
theorem ok_req {f C : Addr} {fd : FuncData} (F : Fun K "__eq__" "Ratio.__eq__" sREq f fd) (T : RTx K mg C) (mI : mg "isinstance" = none) : FnOk P w K mg base CX0 1 f fd ["self", "other"] (spREq C) := by
  refine F.ok scREq (fun vs H Q E h => ?_) (fun cdv A outer s H vs Q E hr h => ?_)
  · obtain ⟨p, r, a, b, rfl, _⟩ := h
    rfl
  · obtain ⟨p, r, a, b, rfl, ⟨dx, hp⟩, ⟨dy, hq⟩, k⟩ := h
    refine ⟨_, pss_one (ps_ret (pe_and (pe_callB (C8.call_isC T.isC) (by rfl) mI (by decide +kernel) (pa_cons (pv 1) (pa_cons (pe_glob (v := .ref C) (by rfl) T.mgC rfl) pa_nil)))
      (pe_and (pe_cmpR op_eq (pe_fld (pv 0) rfl) (pe_fld (pv 1) rfl) (nomark _)) (pe_one (pe_cmpR op_eq (pe_fld (pv 0) rfl) (pe_fld (pv 1) rfl) (nomark _)))))), ?_⟩
    refine ⟨_, rfl, r, dy, _, rfl, hq, true, rfl, iteT ?_⟩
    refine ⟨_, rfl, p, C, dx, _, _, rfl, hp, T.cl, T.nU, rf_up _, _, rfl, r, C, dy, _, _, rfl, hq, T.cl, T.nU, rf_up _, rfl, _, rfl, ?_⟩
    by_cases z : (R3 a).1 = (R3 b).1
    · refine iteKT (decV z) ?_
      refine ⟨_, rfl, p, C, dx, _, _, rfl, hp, T.cl, T.nL, rf_lo _, _, rfl, r, C, dy, _, _, rfl, hq, T.cl, T.nL, rf_lo _, rfl, ?_⟩
      by_cases y : (R3 a).2 = (R3 b).2
      · rw [decide_eq_true (R3_inj.mp (Prod.ext z y))] at k
        show Q (V.bl (decide (V.int (R3 a).2 = V.int (R3 b).2))) H
        rw [decide_eq_true (by rw [y])]
        exact k
      · rw [decide_eq_false (fun q => y (by rw [q]))] at k
        show Q (V.bl (decide (V.int (R3 a).2 = V.int (R3 b).2))) H
        rw [decide_eq_false (fun q => y (V.int.inj q))]
        exact k
    · refine iteKF (decVn z) ?_
      rw [decide_eq_false (fun q => z (by rw [q]))] at k
      exact k
/-! ### + -/
theorem scRAdd : FnScope ["self", "other", "term"] ["self", "other"] (defScope sRAdd) := ⟨rfl, rfl, rfl, by decide +kernel, rfl, by decide +kernel, by decide +kernel⟩
def spRAdd (C : Addr) : Sp := fun vs H Q _ => ∃ (p r : Addr) (a b : Int), vs = [.ref p, .ref r] ∧ RatAt C H p (R3 a) ∧ RatAt C H r (R3 b) ∧ ∀ x H', Same H H' → H x = none → RatAt C H' x (R3 (a + b)) → Q (.ref x) H'
theorem R3_prod (a b : Int) : 0 < (R3 a).2 * (R3 b).2 ∧ (R3 a).2 * (R3 b).2 < 1000000 := by
  rcases R3_bot a with e | e <;> rcases R3_bot b with g | g <;> rw [e, g] <;> decide
theorem ok_radd {f fA fI C : Addr} {fd fdA fdI : FuncData} (F : Fun K "__add__" "Ratio.__add__" sRAdd f fd) (T : RTx K mg C) (D : Df K mg "as_ratio" sAsRatio ["value"] fA fdA) (mI : mg "isinstance" = none)
    (M : Mk K C fI) (GI : FnOk P w K mg base CX0 2 fI fdI ["self", "top", "bottom"] (spRInit C)) (bI : Binds K fdI ["self", "top", "bottom"] []) : FnOk P w K mg base CX0 4 f fd ["self", "other"] (spRAdd C) := by
  have GA : FnOk P w K mg base CX0 1 fA fdA ["value"] (spAsRatio C) := ok_asratio D.F T mI
  refine F.ok scRAdd (fun vs H Q E h => ?_) (fun cdv A outer s H vs Q E hr h => ?_)
  · obtain ⟨p, r, a, b, rfl, _⟩ := h
    rfl
  · obtain ⟨p, r, a, b, rfl, ⟨dx, hp⟩, ⟨dy, hq⟩, k⟩ := h
    have nd := scRAdd.nd
    refine ⟨_, pss_cons (ps_set (i := 2) nd rfl (.inl rfl) (pe_call GA (hr.mono (by decide)) (by rfl) D.g D.F.kp D.b .nil pass0 (pa_cons (pv 1) pa_nil)))
      (pss_one (ps_ret (pe_make M GI hr (by rfl) T.mgC bI .nil pass0 (pa_cons (pe_op op_add (pe_op op_mul (pe_fld (pv 0) rfl) (pe_fld (pv 2) rfl)) (pe_op op_mul (pe_fld (pv 2) rfl) (pe_fld (pv 0) rfl)))
        (pa_cons (pe_op op_mul (pe_fld (pv 0) rfl) (pe_fld (pv 2) rfl)) pa_nil))))), ?_⟩
    refine ⟨_, rfl, r, _, rfl, ⟨dy, hq⟩, ?_⟩
    refine ⟨_, rfl, p, C, dx, _, _, rfl, hp, T.cl, T.nU, rf_up _, _, rfl, r, C, dy, _, _, rfl, hq, T.cl, T.nL, rf_lo _, _, _, rfl, rfl, .inr (R3_one _), ?_⟩
    refine ⟨_, rfl, r, C, dy, _, _, rfl, hq, T.cl, T.nU, rf_up _, _, rfl, p, C, dx, _, _, rfl, hp, T.cl, T.nL, rf_lo _, _, _, rfl, rfl, .inr (R3_one _), ?_⟩
    refine ⟨_, _, rfl, rfl, ?_⟩
    refine ⟨_, rfl, p, C, dx, _, _, rfl, hp, T.cl, T.nL, rf_lo _, _, rfl, r, C, dy, _, _, rfl, hq, T.cl, T.nL, rf_lo _, _, _, rfl, rfl, .inr (R3_one _), ?_⟩
    obtain ⟨h1, h2⟩ := R3_prod a b
    refine rat_made h1 h2 fun x H' s n ra => ?_
    rw [R3_add] at ra
    exact k x H' s n ra
end
end XW

namespace XW
open PySem L2
/-! ### the law's state: a list of its cells, a place, a count -/
def StAt (H : Hp) (st c : Addr) (n : Nat) : Prop := ∃ (ns : List Int) (i k : Int), H st = some (.lst [.ref c, .int i, .int k]) ∧ H c = some (.lst (ns.map V.int)) ∧ 0 ≤ k ∧ k ≤ n
/-- all but the state is as it was -/
def But (st c : Addr) (H H' : Hp) : Prop := ∀ b o, b ≠ st → b ≠ c → H b = some o → H' b = some o
theorem But.refl {st c : Addr} (H : Hp) : But st c H H := fun _ _ _ _ h => h
theorem But.trans {st c : Addr} {H H1 H2 : Hp} (a : But st c H H1) (b : But st c H1 H2) : But st c H H2 := fun x o h1 h2 h => b x o h1 h2 (a x o h1 h2 h)
theorem But.of {st c : Addr} {H H' : Hp} (s : Same H H') : But st c H H' := fun b o _ _ h => s b o h
theorem StAt.ne {H : Hp} {st c : Addr} {n : Nat} (s : StAt H st c n) : st ≠ c := by
  obtain ⟨ns, i, k, h1, h2, _⟩ := s
  refine ne_of h1 h2 fun z => ?_
  have z := HO.lst.inj z
  cases ns with
  | nil => cases z
  | cons x r => cases (List.cons.inj z).1
theorem StAt.mono {H : Hp} {st c : Addr} {n m : Nat} (s : StAt H st c n) (h : n ≤ m) : StAt H st c m := by
  obtain ⟨ns, i, k, h1, h2, h3, h4⟩ := s
  exact ⟨ns, i, k, h1, h2, h3, by omega⟩
theorem StAt.same {H H' : Hp} {st c : Addr} {n : Nat} (s : StAt H st c n) (e : Same H H') : StAt H' st c n := by
  obtain ⟨ns, i, k, h1, h2, h3, h4⟩ := s
  exact ⟨ns, i, k, e _ _ h1, e _ _ h2, h3, h4⟩
/-- an object that is no list of ints or the state stands apart from it -/
theorem StAt.apart {H : Hp} {st c a : Addr} {n : Nat} {o : HO} (s : StAt H st c n) (h : H a = some o) (h1 : ∀ x r, o ≠ .lst (.ref c :: x :: r)) (h2 : ∀ ns : List Int, o ≠ .lst (ns.map V.int)) : a ≠ st ∧ a ≠ c := by
  obtain ⟨ns, i, k, e1, e2, _⟩ := s
  exact ⟨ne_of h e1 (h1 _ _), ne_of h e2 (h2 _)⟩
theorem But.fresh {st c : Addr} {H H' : Hp} {n : Nat} (s : StAt H st c n) (b : But st c H H') {a : Addr} (h : H' a = none) (hs : StAt H' st c n) : H a = none := by
  cases e : H a with
  | none => rfl
  | some o =>
    obtain ⟨ns, i, k, e1, e2, _⟩ := hs
    have q := b a o (fun z => by rw [z, e1] at h; cases h) (fun z => by rw [z, e2] at h; cases h) e
    rw [h] at q
    cases q
theorem But.keep {st c : Addr} {H H' : Hp} {n : Nat} (b : But st c H H') (s : StAt H st c n) {a : Addr} {o : HO} (h : H a = some o) (hn : ∀ xs, o ≠ .lst xs) : H' a = some o := by
  obtain ⟨ns, i, k, e1, e2, _⟩ := s
  exact b a o (ne_of h e1 (hn _)) (ne_of h e2 (hn _)) h
theorem StAt.new {H : Hp} {st c a : Addr} {n : Nat} (s : StAt H st c n) (h : H a = none) : a ≠ st ∧ a ≠ c := by
  obtain ⟨ns, i, k, e1, e2, _⟩ := s
  exact ⟨fun z => (by rw [z, e1] at h; cases h), fun z => (by rw [z, e2] at h; cases h)⟩
theorem StAt.upd {H : Hp} {st c a : Addr} {n : Nat} {o : HO} (s : StAt H st c n) (h1 : a ≠ st) (h2 : a ≠ c) : StAt (L2.upd H a o) st c n := by
  obtain ⟨ns, i, k, e1, e2, e3, e4⟩ := s
  exact ⟨ns, i, k, by rw [upd_ne h1.symm]; exact e1, by rw [upd_ne h2.symm]; exact e2, e3, e4⟩
theorem But.upd {st c a : Addr} {H H' : Hp} {o : HO} (b : But st c H H') (h : H a = none) : But st c H (L2.upd H' a o) := fun x u h1 h2 e => by
  rw [upd_ne (ne_of_none e h)]
  exact b x u h1 h2 e
structure Bl (mg : Str → Option Value) : Prop where
  abs : mg "abs" = none
  int : mg "int" = none
  len : mg "len" = none
  list : mg "list" = none
  max : mg "max" = none
  range : mg "range" = none
  sum : mg "sum" = none
  all : mg "all" = none
  sorted : mg "sorted" = none
  tuple : mg "tuple" = none
  set : mg "set" = none
  isinstance : mg "isinstance" = none
section
variable {P : Program} {w : World} {K : PySem.W.Frag} {mg : Str → Option Value} {base : Heap}
theorem scTake : FnScope ["_law_state", "_law_limit", "_law_cells", "_law_at", "_law_cell", "_law_number"] ["_law_state", "_law_limit"] (defScope sLTake) := ⟨rfl, rfl, rfl, by decide +kernel, rfl, by decide +kernel, by decide +kernel⟩
def spTake : Sp := fun vs H Q _ => ∃ (st c : Addr) (n : Nat) (lim : Int), vs = [.ref st, .int lim] ∧ StAt H st c n ∧ n < 1000000 ∧ 0 < lim ∧ lim ≤ 1000000000 ∧
  ∀ (v : Int) (H' : Hp), 0 ≤ v → v < lim → But st c H H' → StAt H' st c (n + 1) → Q (.int v) H'
theorem ok_take {f : Addr} {fd : FuncData} (F : Fun K "_law_take" "_law_take" sLTake f fd) (B : Bl mg) : FnOk P w K mg base CX0 1 f fd ["_law_state", "_law_limit"] spTake := by
  refine F.ok scTake (fun vs H Q E h => ?_) (fun cdv A outer s H vs Q E hr h => ?_)
  · obtain ⟨st, c, n, lim, rfl, _⟩ := h
    rfl
  · obtain ⟨st, c, n, lim, rfl, hS, hn, hl, hl2, k⟩ := h
    have nd := scTake.nd
    have hne := hS.ne
    obtain ⟨ns, i, k0, h1, h2, h3, h4⟩ := hS
    refine ⟨_, pss_cons (ps_set (i := 2) nd rfl (.inl rfl) (pe_ix ix_list (pv 0) pe_int (fun _ _ => rfl)))
      (pss_cons (ps_asg (pe_op op_add (pe_ix ix_list (pv 0) pe_int (fun _ _ => rfl)) pe_int) (pg_sub (pv 0) pe_int set_list))
      (pss_cons (ps_set (i := 3) nd rfl (.inl rfl) (pe_op op_modN (pe_callTy call_int1 (by rfl) B.int (by decide +kernel) (pa_cons (pe_ix ix_list (pv 0) pe_int (fun _ _ => rfl)) pa_nil))
        (pe_callB (call_max2 rfl) (by rfl) B.max (by decide +kernel) (pa_cons pe_int (pa_cons (pe_callB call_len_seq (by rfl) B.len PySem.boot_len (pa_cons (pv 2) pa_nil)) pa_nil)))))
      (pss_cons (ps_set (i := 4) nd rfl (.inl rfl) pe_int)
      (C8.pss_cut (ps_if (pt_truth (pv 2) (by intro _; rfl)) (pss_one (ps_set (i := 4) nd rfl (.inl rfl) (pe_ix ix_list (pv 2) (pv 3) (fun _ _ => rfl)))) pss_nil)
      (pss_cons (ps_if (pt_cmpR op_ge (pe_callB call_abs (by rfl) B.abs (by decide +kernel) (pa_cons (pv 4) pa_nil)) (pe_op op_pow pe_int pe_int) (nomark _))
        (pss_cons (ps_asg (pe_op op_fdivN (pe_callB call_abs (by rfl) B.abs (by decide +kernel) (pa_cons (pv 4) pa_nil)) (pv 1)) (pg_sub (pv 2) (pv 3) set_list))
        (pss_one (ps_ret (pe_op op_modN (pe_callB call_abs (by rfl) B.abs (by decide +kernel) (pa_cons (pv 4) pa_nil)) (pv 1))))) pss_nil)
      (pss_cons (ps_asg (pe_op op_add (pe_ix ix_list (pv 0) pe_int (fun _ _ => rfl)) pe_int) (pg_sub (pv 0) pe_int set_list))
      (pss_cons (ps_set (i := 5) nd rfl (.inl rfl) (pe_op op_modN (pe_op op_pow (pe_callTy call_int1 (by rfl) B.int (by decide +kernel)
        (pa_cons (pe_op op_add (pe_op op_add (pe_op op_mul (pe_op op_modN (pe_callTy call_int1 (by rfl) B.int (by decide +kernel) (pa_cons (pv 4) pa_nil)) pe_int) pe_int) (pe_op op_mul (pe_ix ix_list (pv 0) pe_int (fun _ _ => rfl)) pe_int)) pe_int) pa_nil)) pe_int) pe_int))
      (pss_cons (ps_set (i := 5) nd rfl (.inl rfl) (pe_op op_modN (pe_op op_pow (pe_callTy call_int1 (by rfl) B.int (by decide +kernel)
        (pa_cons (pe_op op_add (pe_op op_add (pe_op op_mul (pv 5) pe_int) (pe_op op_mul (pe_ix ix_list (pv 0) pe_int (fun _ _ => rfl)) pe_int)) pe_int) pa_nil)) pe_int) pe_int))
      (pss_one (ps_ret (pe_op op_modN (pe_op op_fdivN (pv 5) pe_int) (pv 1)))))))))))), ?_⟩
    have eqL : ∀ (H' : Hp) (a b d : V), H' st = some (.lst [a, b, d]) → SqL K H' st [a, b, d] := fun H' a b d e => SqL.of e
    -- cells = state[0]; state[2] = state[2] + 1
    refine ⟨_, rfl, st, _, _, _, rfl, rfl, SqL.of h1, rfl, ?_⟩
    refine ⟨_, rfl, st, _, _, _, rfl, rfl, SqL.of h1, rfl, _, _, rfl, rfl, _, rfl, st, _, _, 2, rfl, rfl, h1, rfl, ?_⟩
    have hc1 : (upd H st (.lst [.ref c, .int i, .int (k0 + 1)])) c = some (.lst (ns.map V.int)) := by rw [upd_ne hne.symm]; exact h2
    refine ⟨_, rfl, st, _, _, _, rfl, rfl, SqL.of upd_same, rfl, .inl ⟨_, rfl, ?_⟩⟩
    refine ⟨_, rfl, c, _, rfl, .inl (SqL.of hc1), _, _, rfl, _, _, rfl, rfl, ?_, ?_⟩
    · split <;> omega
    generalize hm : (if ((ns.map V.int).length : Int) > 1 then ((ns.map V.int).length : Int) else 1) = m
    have hm0 : 0 < m := by rw [← hm]; split <;> omega
    have ha0 : 0 ≤ i.fmod m := by rw [Int.fmod_eq_emod_of_nonneg i (by omega)]; exact Int.emod_nonneg i (by omega)
    have ham : i.fmod m < m := by rw [Int.fmod_eq_emod_of_nonneg i (by omega)]; exact Int.emod_lt_of_pos i hm0
    have hab : ns ≠ [] → i.fmod m < ns.length := fun h0 => by
      have h1 : 0 < ns.length := List.length_pos_iff.mpr h0
      have h2 : m = ns.length := by
        rw [← hm, List.length_map]
        split <;> omega
      rw [h2] at ham ⊢
      exact ham
    have hat : ns ≠ [] → ∃ z, ns[(i.fmod m).toNat]? = some z ∧ atI (ns.map V.int) (i.fmod m) = some (.int z) := fun h0 => by
      have h1 : (i.fmod m).toNat < ns.length := by have := hab h0; omega
      refine ⟨ns[(i.fmod m).toNat], List.getElem?_eq_getElem h1, at_of (j := (i.fmod m).toNat) (by omega) ?_⟩
      rw [List.getElem?_map, List.getElem?_eq_getElem h1]
      rfl
    -- if cells: cell = cells[at]
    refine ⟨fun σ' H' => H' = upd H st (.lst [.ref c, .int i, .int (k0 + 1)]) ∧ ∃ z : Int, σ' = [some (.ref st), some (.int lim), some (.ref c), some (.int (i.fmod m)), some (.int z), none] ∧ (z ≠ 0 → ns ≠ []), ?_, fun σ' H' hM => ?_⟩
    · refine ⟨_, rfl, _, .inl ⟨_, SqL.of hc1, rfl⟩, iteB (fun h => ?_) (fun h => ?_)⟩
      · have h0 : ns ≠ [] := fun z => by
          rw [z] at h
          cases h
        obtain ⟨z, hz, hz2⟩ := hat h0
        exact ⟨_, rfl, _, rfl, c, _, _, _, rfl, rfl, SqL.of hc1, hz2, rfl, z, rfl, fun _ => h0⟩
      · exact ⟨rfl, 0, rfl, fun z => absurd rfl z⟩
    · obtain ⟨rfl, z, rfl, hz⟩ := hM
      refine ⟨_, rfl, _, rfl, _, _, rfl, rfl, ⟨by decide, by decide, by decide⟩, _, _, rfl, rfl, _, rfl, iteB (fun h => ?_) (fun h => ?_)⟩
      · have h10 : (10 : Int) ^ (18 : Int).toNat = 1000000000000000000 := by decide
        have h := of_decide_eq_true h
        have hz0 : z ≠ 0 := fun e => by
          subst e
          exact absurd h (by decide)
        have h0 := hz hz0
        have h1 : (i.fmod m).toNat < ns.length := by have := hab h0; omega
        refine ⟨_, rfl, _, rfl, _, rfl, _, _, rfl, rfl, ⟨by omega, by omega⟩, _, rfl, _, rfl, c, _, _, (i.fmod m).toNat, rfl, rfl, hc1, ?_, ?_⟩
        · unfold ixN
          rw [if_pos ha0, if_pos (by rw [List.length_map]; omega)]
        · refine ⟨_, rfl, _, rfl, _, rfl, _, _, rfl, rfl, by omega, ?_⟩
          refine k _ _ (by rw [Int.fmod_eq_emod_of_nonneg _ (by omega)]; exact Int.emod_nonneg _ (by omega)) (by rw [Int.fmod_eq_emod_of_nonneg _ (by omega)]; exact Int.emod_lt_of_pos _ hl) (fun b o e1 e2 e => ?_) ?_
          · rw [upd_ne e2, upd_ne e1]
            exact e
          · refine ⟨ns.set (i.fmod m).toNat ((if z < 0 then -z else z).fdiv lim), i, k0 + 1, ?_, ?_, by omega, by omega⟩
            · rw [upd_ne hne]
              exact upd_same
            · rw [upd_same, List.map_set]
      · have hst : ∀ v, (upd (upd H st (.lst [.ref c, .int i, .int (k0 + 1)])) st (.lst [.ref c, .int (i + 1), v])) st = some (.lst [.ref c, .int (i + 1), v]) := fun v => upd_same
        refine ⟨_, rfl, st, _, _, _, rfl, rfl, SqL.of upd_same, rfl, _, _, rfl, rfl, _, rfl, st, _, _, 1, rfl, rfl, upd_same, rfl, ?_⟩
        have hmod : ∀ (x p : Int), 0 < p → 0 ≤ x.fmod p ∧ x.fmod p < p := fun x p hp => by
          rw [Int.fmod_eq_emod_of_nonneg x (by omega)]
          exact ⟨Int.emod_nonneg x (by omega), Int.emod_lt_of_pos x hp⟩
        have q1 := hmod z 2147483647 (by decide)
        have e2 : (upd (upd H st (.lst [.ref c, .int i, .int (k0 + 1)])) st (.lst ([.ref c, .int i, .int (k0 + 1)].set 1 (.int (i + 1))))) st = some (.lst [.ref c, .int (i + 1), .int (k0 + 1)]) := upd_same
        have p1 : (z.fmod 2147483647 * 48271 + (k0 + 1) * 69621 + 11).natAbs < 2 ^ 64 := by omega
        refine ⟨_, rfl, .inl ⟨_, rfl, _, _, rfl, rfl, (by show (2147483647 : Int) ≠ 0; decide), _, _, rfl, rfl, .inr (by decide), _, rfl, st, _, _, _, rfl, rfl, SqL.of e2, rfl, _, _, rfl, rfl, .inr (by decide), _, _, rfl, rfl, _, _, rfl, rfl, .inl ⟨_, rfl, _, _, rfl, rfl, ⟨by decide, by decide, p1⟩, _, _, rfl, rfl, (by show (2147483647 : Int) ≠ 0; decide), ?_⟩⟩⟩
        have q2 := hmod ((z.fmod 2147483647 * 48271 + (k0 + 1) * 69621 + 11) ^ (5 : Int).toNat) 2147483647 (by decide)
        generalize hx : ((z.fmod 2147483647 * 48271 + (k0 + 1) * 69621 + 11) ^ (5 : Int).toNat).fmod 2147483647 = x at q2
        have p2 : (x * 16807 + (k0 + 1) * 40692 + 7).natAbs < 2 ^ 64 := by omega
        show gName 5 (V.int (((z.fmod 2147483647 * 48271 + (k0 + 1) * 69621 + 11) ^ (5 : Int).toNat).fmod 2147483647)) _ _ _
        rw [hx]
        refine ⟨_, rfl, _, _, rfl, rfl, .inr (by decide), _, rfl, st, _, _, _, rfl, rfl, SqL.of e2, rfl, _, _, rfl, rfl, .inr (by decide), _, _, rfl, rfl, _, _, rfl, rfl, .inl ⟨_, rfl, _, _, rfl, rfl, ⟨by decide, by decide, p2⟩, _, _, rfl, rfl, (by show (2147483629 : Int) ≠ 0; decide), ?_⟩⟩
        refine ⟨_, rfl, _, _, rfl, rfl, ⟨by decide, by decide⟩, _, rfl, _, _, rfl, rfl, by omega, ?_⟩
        refine k _ _ (hmod _ _ hl).1 (hmod _ _ hl).2 (fun b o n1 n2 e => ?_) ?_
        · rw [upd_ne n1, upd_ne n1]
          exact e
        · refine ⟨ns, i + 1, k0 + 1, e2, ?_, by omega, by omega⟩
          rw [upd_ne hne.symm]
          exact hc1
end
end XW

namespace XW
open PySem L2
section
variable {P : Program} {w : World} {K : PySem.W.Frag} {mg : Str → Option Value} {base : Heap}
/-! ### _law_start -/
theorem scStart : FnScope ["_law_script", "_law_cell"] ["_law_script"] (defScope sLStart) := ⟨rfl, rfl, rfl, by decide +kernel, rfl, by decide +kernel, by decide +kernel⟩
def spStart (K : PySem.W.Frag) : Sp := fun vs H Q _ => ∃ (a : Addr) (ns : List Int), vs = [.ref a] ∧ SqL K H a (ns.map V.int) ∧ ns.length ≤ 63 ∧
  ∀ st c H', Same H H' → StAt H' st c 0 → H st = none → H c = none → Q (.ref st) H'
theorem ok_start {f : Addr} {fd : FuncData} (F : Fun K "_law_start" "_law_start" sLStart f fd) (B : Bl mg) : FnOk P w K mg base CX0 1 f fd ["_law_script"] (spStart K) := by
  refine F.ok scStart (fun vs H Q E h => ?_) (fun cdv A outer s H vs Q E hr h => ?_)
  · obtain ⟨a, ns, rfl, _⟩ := h
    rfl
  · obtain ⟨a, ns, rfl, hS, hn, k⟩ := h
    have nd := scStart.nd
    refine ⟨_, pss_one (ps_ret (pe_lst (pa_cons (pe_lc (own := [("_law_cell", 1)]) (g := gName 1) (tt := tYes) rfl nd (pi_list (pv 0)) (blkOk_by (own := [("_law_cell", 1)]) (N := ["_law_script", "_law_cell"]) (sc := defScope sLStart) (by decide +kernel))
      (fun _ _ _ _ _ => pg_name (i := 1) nd rfl (.inl rfl)) (fun _ _ _ _ _ => pts_nil) (fun _ _ _ _ _ => pe_callTy call_int1 (by rfl) B.int (by decide +kernel) (pa_cons (pv 1) pa_nil))) (pa_cons pe_int (pa_cons pe_int pa_nil))))), ?_⟩
    refine ⟨_, rfl, a, rfl, ⟨_, hS⟩, fun c hc => lc_list (K := K) (a := a) (xs := ns.map V.int) (fun i H' => Same H H' ∧ H' c = some (.lst ((ns.take i).map V.int))) ⟨same_upd hc, upd_same⟩ (fun i H' _ q => q.1.seq hS) ?_ ?_⟩
    · rintro i x H' hx ⟨s1, e1⟩
      rw [List.getElem?_map] at hx
      cases hi : ns[i]? with
      | none =>
        rw [hi] at hx
        cases hx
      | some z =>
        rw [hi] at hx
        cases hx
        refine ⟨rfl, ?_⟩
        refine ⟨_, rfl, .inl ⟨z, rfl, _, e1, ?_, ?_, ?_⟩⟩
        · rw [List.length_map, List.length_take]
          exact small1000 (by omega)
        · intro b o e
          rw [upd_ne (ne_of_none e hc)]
          exact s1 b o e
        · rw [upd_same, List.take_add_one, hi, List.map_append]
          rfl
    · rintro H' ⟨s1, e1⟩
      refine ⟨by show 3 ≤ sizeLine; decide, fun st hst => ?_⟩
      have ne : c ≠ st := ne_of_none e1 hst
      have h0 : H st = none := s1.free hst
      refine k st c _ (s1.trans (same_upd hst)) ⟨ns, 0, 0, upd_same, ?_, by decide, by decide⟩ h0 hc
      rw [upd_ne ne, e1]
      rw [List.length_map, List.take_length]
/-! ### _law_shuffled -/
theorem scShuf : FnScope ["_law_state", "_law_items", "_law_rest", "_law_told", "_law_k"] ["_law_state", "_law_items"] (defScope sLShuffled) := ⟨rfl, rfl, rfl, by decide +kernel, rfl, by decide +kernel, by decide +kernel⟩
def spShuf (K : PySem.W.Frag) : Sp := fun vs H Q _ => ∃ (st c a : Addr) (n : Nat) (xs : List V), vs = [.ref st, .ref a] ∧ StAt H st c n ∧ SqL K H a xs ∧ xs.length ≤ 100 ∧ n + xs.length < 1000000 ∧
  ∀ p H' ys, ys.Perm xs → But st c H H' → StAt H' st c (n + xs.length) → H p = none → H' p = some (.lst ys) → Q (.ref p) H'
theorem ok_shuf {f fT : Addr} {fd fdT : FuncData} (F : Fun K "_law_shuffled" "_law_shuffled" sLShuffled f fd) (B : Bl mg) (T : Df K mg "_law_take" sLTake ["_law_state", "_law_limit"] fT fdT) : FnOk P w K mg base CX0 2 f fd ["_law_state", "_law_items"] (spShuf K) := by
  have GT : FnOk P w K mg base CX0 1 fT fdT ["_law_state", "_law_limit"] spTake := ok_take T.F B
  refine F.ok scShuf (fun vs H Q E h => ?_) (fun cdv A outer s H vs Q E hr h => ?_)
  · obtain ⟨st, c, a, n, xs, rfl, _⟩ := h
    rfl
  · obtain ⟨st, c, a, n, xs, rfl, hS, hA, hl, hn, k⟩ := h
    have nd := scShuf.nd
    refine ⟨_, pss_cons (ps_set (i := 2) nd rfl (.inl rfl) (pe_callTy call_list_of (by rfl) B.list (by decide +kernel) (pa_cons (pv 1) pa_nil))) (pss_cons (ps_set (i := 3) nd rfl (.inl rfl) (pe_lst pa_nil))
      (pss_cons (ps_for PassesOwn.never rfl (pi_range1 (by rfl) B.range (pa_cons (pe_callB call_len_seq (by rfl) B.len PySem.boot_len (pa_cons (pv 1) pa_nil)) pa_nil)) (pg_name (i := 4) nd rfl (.inl rfl))
        (pss_one (ps_expr (pe_bm PySem.F.plainAttrs_list PySem.F.slot_list_append PySem.F.type_list_append mt_append (pv 3) (pa_cons (pe_bm PySem.F.plainAttrs_list PySem.F.slot_list_pop PySem.F.type_list_pop mt_popAt (pv 2) (pa_cons (pe_call GT hr (by rfl) T.g T.F.kp T.b .nil pass0 (pa_cons (pv 0) (pa_cons (pe_callB call_len_seq (by rfl) B.len PySem.boot_len (pa_cons (pv 2) pa_nil)) pa_nil))) pa_nil)) pa_nil)))))
      (pss_one (ps_ret (pv 3))))), ?_⟩
    refine ⟨_, rfl, a, xs, rfl, .inl hA, fun r nr => ⟨Nat.zero_le _, fun t nt => ?_⟩⟩
    have ntr : t ≠ r := fun z => by
      rw [z, upd_same] at nt
      cases nt
    have s2 : Same H (upd (upd H r (.lst xs)) t (.lst [])) := (same_upd nr).upd nt
    refine ⟨_, rfl, a, xs, rfl, .inl (s2.seq hA), xs.length, rfl, by omega, by omega, ?_⟩
    have hst0 : st ≠ r ∧ st ≠ t ∧ c ≠ r ∧ c ≠ t := by
      obtain ⟨ns, i, k0, e1, e2, _⟩ := id hS
      exact ⟨ne_of_none e1 nr, ne_of_none ((same_upd nr) _ _ e1) nt, ne_of_none e2 nr, ne_of_none ((same_upd nr) _ _ e2) nt⟩
    have ht0 : H t = none := (same_upd nr).free nt
    refine for_range (lo := 0) (n := xs.length) (fun i σ H' => ∃ (rest told : List V) (v : Option V), σ = [some (.ref st), some (.ref a), some (.ref r), some (.ref t), v] ∧ H' r = some (.lst rest) ∧ H' t = some (.lst told) ∧ (told ++ rest).Perm xs ∧ told.length = i ∧ StAt H' st c (n + i) ∧ But st c H H')
      ⟨xs, [], none, rfl, by rw [upd_ne ntr.symm, upd_same], upd_same, by simp, rfl, hS.same s2, But.of s2⟩ ?_ ?_
    · rintro i σ H' hi ⟨rest, told, v, rfl, er, et, hp, hti, hS', hB⟩
      have hlen := hp.length_eq
      rw [List.length_append] at hlen
      refine ⟨_, rfl, .inl ⟨rfl, _, SqL.of et⟩, _, rfl, .inl ⟨rfl, _, SqL.of er⟩, _, rfl, _, rfl, r, _, rfl, .inl (SqL.of er), ?_⟩
      refine ⟨st, c, n + i, rest.length, rfl, hS', by omega, by omega, by omega, fun z H2 z0 z1 hB2 hS2 => ?_⟩
      have er2 : H2 r = some (.lst rest) := hB2 r _ hst0.1.symm hst0.2.2.1.symm er
      have et2 : H2 t = some (.lst told) := hB2 t _ hst0.2.1.symm hst0.2.2.2.symm et
      have hz : z.toNat < rest.length := by omega
      refine ⟨r, rest, z, z.toNat, rest[z.toNat], rfl, rfl, er2, by omega, by omega, seqIx z0 z1, List.getElem?_eq_getElem hz, ?_⟩
      refine ⟨t, told, _, rfl, rfl, by rw [upd_ne ntr]; exact et2, small1000 (by omega), ?_⟩
      refine ⟨rest.eraseIdx z.toNat, told ++ [rest[z.toNat]], _, rfl, by rw [upd_ne ntr.symm, upd_same], upd_same, ?_, by rw [List.length_append, hti]; rfl, ?_, ?_⟩
      · rw [List.append_assoc]
        exact ((perm_erase (List.getElem?_eq_getElem hz)).append_left told).trans hp
      · obtain ⟨ns, i', k', e1, e2, e3, e4⟩ := hS2
        exact ⟨ns, i', k', by rw [upd_ne hst0.2.1, upd_ne hst0.1]; exact e1, by rw [upd_ne hst0.2.2.2, upd_ne hst0.2.2.1]; exact e2, e3, by omega⟩
      · intro b o b1 b2 e
        rw [upd_ne (ne_of_none e ht0), upd_ne (ne_of_none e nr)]
        exact hB2 b o b1 b2 (hB b o b1 b2 e)
    · rintro σ H' ⟨rest, told, v, rfl, er, et, hp, hti, hS', hB⟩
      have hlen := hp.length_eq
      rw [List.length_append] at hlen
      have h0 : rest = [] := List.length_eq_zero_iff.mp (by omega)
      subst h0
      rw [List.append_nil] at hp
      exact ⟨_, rfl, k t H' told hp hB hS' ht0 et⟩
end
end XW

namespace XW
open PySem L2 XL
section
variable {P : Program} {w : World} {K : PySem.W.Frag} {mg : Str → Option Value} {base : Heap}
/-! ### _law_amounts -/
theorem scAmounts : FnScope ["_law_state", "_law_ways_here", "_law_most", "_law_amounts_here", "_law_turn", "_law_spot", "_law_way"] ["_law_state", "_law_ways_here", "_law_most"] (defScope sLAmounts) := ⟨rfl, rfl, rfl, by decide +kernel, rfl, by decide +kernel, by decide +kernel⟩
def spAmounts : Sp := fun vs H Q _ => ∃ (st c a : Addr) (n : Nat) (xs : List V), vs = [.ref st, .ref a, .int 6] ∧ StAt H st c n ∧ H a = some (.lst xs) ∧ a ≠ st ∧ a ≠ c ∧ 1 ≤ xs.length ∧ xs.length ≤ 16000000 ∧ n < 100000 ∧
  ∀ p H' (A : List Int), A.length = xs.length → (∀ x ∈ A, 0 ≤ x) → 1 ≤ A.sum → A.sum ≤ 24 → But st c H H' → StAt H' st c (n + 9) → H p = none → p ≠ st → p ≠ c → H' p = some (.lst (A.map V.int)) → Q (.ref p) H'
theorem ok_amounts {f fT : Addr} {fd fdT : FuncData} (F : Fun K "_law_amounts" "_law_amounts" sLAmounts f fd) (B : Bl mg) (T : Df K mg "_law_take" sLTake ["_law_state", "_law_limit"] fT fdT) : FnOk P w K mg base CX0 2 f fd ["_law_state", "_law_ways_here", "_law_most"] spAmounts := by
  have GT : FnOk P w K mg base CX0 1 fT fdT ["_law_state", "_law_limit"] spTake := ok_take T.F B
  refine F.ok scAmounts (fun vs H Q E h => ?_) (fun cdv A outer s H vs Q E hr h => ?_)
  · obtain ⟨st, c, a, n, xs, rfl, _⟩ := h
    rfl
  · obtain ⟨st, c, a, n, xs, rfl, hS, hA, ha1, ha2, hl1, hl2, hn, k⟩ := h
    have nd := scAmounts.nd
    refine ⟨_, pss_cons (ps_setLc (i := 3) (own := [("_law_way", 6)]) (g := gName 6) (tt := tYes) rfl nd rfl rfl (sw_true rfl rfl rfl (by decide +kernel)) (pi_list (pv 1)) (blkOk_by (own := [("_law_way", 6)]) (N := ["_law_state", "_law_ways_here", "_law_most", "_law_amounts_here", "_law_turn", "_law_spot", "_law_way"]) (sc := defScope sLAmounts) (by decide +kernel))
        (fun _ _ _ _ _ => pg_name (i := 6) nd rfl (.inl rfl)) (fun _ _ _ _ _ => pts_nil) (fun _ _ _ _ _ => pe_int))
      (pss_cons (ps_for PassesOwn.never rfl (pi_range1 (by rfl) B.range (pa_cons (pe_op op_add pe_int (pe_call GT hr (by rfl) T.g T.F.kp T.b .nil pass0 (pa_cons (pv 0) (pa_cons pe_int pa_nil)))) pa_nil)) (pg_name (i := 4) nd rfl (.inl rfl))
        (pss_cons (ps_set (i := 5) nd rfl (.inl rfl) (pe_call GT hr (by rfl) T.g T.F.kp T.b .nil pass0 (pa_cons (pv 0) (pa_cons (pe_callB call_len_seq (by rfl) B.len PySem.boot_len (pa_cons (pv 1) pa_nil)) pa_nil))))
        (pss_one (ps_asg (pe_op op_add (pe_op op_add (pe_ix ix_list (pv 3) (pv 5) (fun _ _ => rfl)) pe_int) (pe_call GT hr (by rfl) T.g T.F.kp T.b .nil pass0 (pa_cons (pv 0) (pa_cons (pv 2) pa_nil)))) (pg_sub (pv 3) (pv 5) set_list)))))
      (pss_one (ps_ret (pv 3)))), ?_⟩
    refine ⟨_, rfl, a, rfl, ⟨_, SqL.of hA⟩, fun p hp => lc_list (K := K) (a := a) (xs := xs) (fun i H' => Same H H' ∧ H' p = some (.lst ((List.replicate i (0 : Int)).map V.int))) ⟨same_upd hp, upd_same⟩ (fun i H' _ q => SqL.of (q.1 _ _ hA)) ?_ ?_⟩
    · rintro i x H' hx ⟨s1, e1⟩
      have hi := (List.getElem?_eq_some_iff.mp hx).1
      refine ⟨rfl, ?_⟩
      refine ⟨_, e1, ?_, ?_, ?_⟩
      · rw [List.length_map, List.length_replicate]
        exact Nat.lt_of_lt_of_le hi (Nat.le_trans hl2 (by decide))
      · intro b o e
        rw [upd_ne (ne_of_none e hp)]
        exact s1 b o e
      · rw [upd_same, List.replicate_succ', List.map_append]
        rfl
    · rintro H1 ⟨s1, e1⟩
      have hp1 : p ≠ st ∧ p ≠ c := hS.new hp
      have hS1 := hS.same s1
      -- range(1 + take(state, 4))
      refine ⟨_, rfl, st, c, n, 4, rfl, hS1, by omega, by decide, by decide, fun v H2 v0 v1 b2 s2 => ?_⟩
      refine ⟨_, _, rfl, rfl, 1 + v, rfl, by omega, by omega, ?_⟩
      refine for_range (lo := 0) (n := (1 + v).toNat) (fun i σ H' => ∃ (A : List Int) (x y : Option V), σ = [some (.ref st), some (.ref a), some (.int 6), some (.ref p), x, y, none] ∧ A.length = xs.length ∧ (∀ z ∈ A, 0 ≤ z) ∧ (i : Int) ≤ A.sum ∧ A.sum ≤ 6 * i ∧ StAt H' st c (n + 1 + 2 * i) ∧ But st c H H' ∧ H' p = some (.lst (A.map V.int)))
        ⟨List.replicate xs.length 0, none, none, rfl, List.length_replicate, fun z hz => by rw [(List.mem_replicate.mp hz).2]; exact Int.le_refl _, ?_, ?_, s2, (But.of s1).trans b2, b2 p _ hp1.1 hp1.2 e1⟩ ?_ ?_
      · rw [show (List.replicate xs.length (0 : Int)).sum = 0 from by simp]
        exact Int.le_refl _
      · rw [show (List.replicate xs.length (0 : Int)).sum = 0 from by simp]
        exact Int.le_refl _
      · rintro i σ H' hi ⟨A, x, y, rfl, hAl, hA0, hs1, hs2, hS', hB, e'⟩
        have hA' : H' a = some (.lst xs) := hB a _ ha1 ha2 hA
        refine ⟨_, rfl, _, rfl, a, _, rfl, .inl (SqL.of hA'), ?_⟩
        refine ⟨st, c, _, _, rfl, hS', by omega, by omega, by omega, fun z H3 z0 z1 b3 s3 => ?_⟩
        have e3 := b3 p _ hp1.1 hp1.2 e'
        have hz : z.toNat < A.length := by omega
        have hzl : (A.map V.int)[z.toNat]? = some (.int A[z.toNat]) := by
          rw [List.getElem?_map, List.getElem?_eq_getElem hz]
          rfl
        refine ⟨_, rfl, _, rfl, p, _, _, _, rfl, rfl, SqL.of e3, at_of (j := z.toNat) (by omega) hzl, _, _, rfl, rfl, ?_⟩
        refine ⟨_, rfl, _, rfl, st, c, _, 6, rfl, s3, by omega, by decide, by decide, fun u H4 u0 u1 b4 s4 => ?_⟩
        have e4 := b4 p _ hp1.1 hp1.2 e3
        refine ⟨_, _, rfl, rfl, _, rfl, _, rfl, p, _, z, z.toNat, rfl, rfl, e4, ixNat z0 (by rw [List.length_map]; omega), ?_⟩
        have hget : A[z.toNat]? = some A[z.toNat] := List.getElem?_eq_getElem hz
        refine ⟨A.set z.toNat (A[z.toNat] + 1 + u), _, _, rfl, by rw [List.length_set]; exact hAl, fun q hq => ?_, ?_, ?_, ?_, ?_, ?_⟩
        · rcases List.mem_or_eq_of_mem_set hq with hq | rfl
          · exact hA0 q hq
          · have := hA0 _ (List.getElem_mem hz)
            omega
        · rw [sum_set hget]
          omega
        · rw [sum_set hget]
          omega
        · exact (s4.mono (by omega)).upd hp1.1 hp1.2
        · exact ((hB.trans b3).trans b4).upd hp
        · rw [upd_same, List.map_set]
      · rintro σ H' ⟨A, x, y, rfl, hAl, hA0, hs1, hs2, hS', hB, e'⟩
        exact ⟨_, rfl, k p H' A hAl hA0 (by omega) (by omega) hB (hS'.mono (by omega)) hp hp1.1 hp1.2 e'⟩
/-! ### _law_grown -/
theorem scGrown : FnScope ["_law_state", "_law_turns", "_law_wild", "_law_links", "_law_order", "_law_turn", "_law_plan", "_law_spot", "_law_tail", "_law_head", "_law_place", "_law_at", "_law_low", "_law_high", "_law_k"] ["_law_state", "_law_turns", "_law_wild"] (defScope sLGrown) := ⟨rfl, rfl, rfl, by decide +kernel, rfl, by decide +kernel, by decide +kernel⟩
/-- a pair of numbers stands at r -/
def NumAt (H : Hp) (r : Addr) (e : Nat × Nat) : Prop := H r = some (.tup [.int (e.1 : Int), .int (e.2 : Int)])
def refs (rs : List Addr) : List V := rs.map V.ref
def nats (xs : List Nat) : List V := xs.map fun x : Nat => V.int (x : Int)
def spGrown : Sp := fun vs H Q _ => ∃ (st c : Addr) (n k : Nat), vs = [.ref st, .int k, .int 0] ∧ StAt H st c n ∧ n < 100000 ∧ k ≤ 9 ∧
  ∀ p l H' rs (L : List (Nat × Nat)) ord, Grown L ord → L.length = k + 1 → ord.length ≤ 8 → But st c H H' → StAt H' st c (n + 2 * k) → H' p = some (.tup [.ref l, .int (ord.length : Int)]) → H l = none → H' l = some (.lst (refs rs)) → A2 (NumAt H') rs L → Q (.ref p) H'
theorem ord_filter {ord : List Nat} {t : Nat} (h : t ∈ ord) : ∃ a r, ((List.range ord.length).filter fun k => decide (ord[k]? = some t)) = a :: r ∧ ord[a]? = some t := by
  cases e : (List.range ord.length).filter fun k => decide (ord[k]? = some t) with
  | nil =>
    obtain ⟨i, hi⟩ := List.mem_iff_getElem?.mp h
    have hm : i ∈ (List.range ord.length).filter fun k => decide (ord[k]? = some t) := List.mem_filter.mpr ⟨List.mem_range.mpr (get_lt hi), decide_eq_true hi⟩
    rw [e] at hm
    exact absurd hm List.not_mem_nil
  | cons a r =>
    have hm : a ∈ (List.range ord.length).filter fun k => decide (ord[k]? = some t) := by
      rw [e]
      exact List.mem_cons_self
    exact ⟨a, r, rfl, of_decide_eq_true (List.mem_filter.mp hm).2⟩
theorem insert_cut {α : Type} {x : α} : ∀ (l : List α) (k : Nat), k ≤ l.length → l.insertIdx k x = l.take k ++ [x] ++ l.drop k
  | l, 0, _ => by simp
  | [], k + 1, h => by simp at h
  | a :: l, k + 1, h => by
    have ih := insert_cut (x := x) l k (by simpa using h)
    simp [List.insertIdx_succ_cons, ih]
theorem num_upd {H : Hp} {a : Addr} {o : HO} {rs : List Addr} {L : List (Nat × Nat)} (h : A2 (NumAt H) rs L) (ha : ∀ xs, H a ≠ some (.tup xs)) : A2 (NumAt (upd H a o)) rs L :=
  h.mono fun r e q => (upd_ne (fun z => ha _ (z ▸ q))).trans q
theorem num_but {H H' : Hp} {st c : Addr} {n : Nat} {rs : List Addr} {L : List (Nat × Nat)} (h : A2 (NumAt H) rs L) (b : But st c H H') (s : StAt H st c n) : A2 (NumAt H') rs L :=
  h.mono fun r e q => b.keep s q (fun xs z => nomatch z)
theorem no_tup {H : Hp} {a : Addr} {xs : List V} (h : H a = some (.lst xs)) : ∀ ys, H a ≠ some (.tup ys) := fun ys z => by
  rw [h] at z
  cases z
theorem no_tup0 {H : Hp} {a : Addr} (h : H a = none) : ∀ ys, H a ≠ some (.tup ys) := fun ys z => by
  rw [h] at z
  cases z
theorem refs_get {rs : List Addr} {i : Nat} {r : Addr} (h : rs[i]? = some r) : (refs rs)[i]? = some (.ref r) := by
  unfold refs
  rw [List.getElem?_map, h]
  rfl
theorem nats_get {xs : List Nat} {i : Nat} {r : Nat} (h : xs[i]? = some r) : (nats xs)[i]? = some (.int (r : Int)) := by
  unfold nats
  rw [List.getElem?_map, h]
  rfl
/-- what the growing loop keeps -/
structure GrI (H H' : Hp) (st c l o : Addr) (n : Nat) (rs : List Addr) (L : List (Nat × Nat)) (ord : List Nat) : Prop where
  el : H' l = some (.lst (refs rs))
  nums : A2 (NumAt H') rs L
  eo : H' o = some (.lst (nats ord))
  s : StAt H' st c n
  b : But st c H H'
  g : Grown L ord
  le : ord.length ≤ 8
theorem ok_grown {f fT : Addr} {fd fdT : FuncData} (F : Fun K "_law_grown" "_law_grown" sLGrown f fd) (B : Bl mg) (T : Df K mg "_law_take" sLTake ["_law_state", "_law_limit"] fT fdT) : FnOk P w K mg base CX0 2 f fd ["_law_state", "_law_turns", "_law_wild"] spGrown := by
  have GT : FnOk P w K mg base CX0 1 fT fdT ["_law_state", "_law_limit"] spTake := ok_take T.F B
  refine F.ok scGrown (fun vs H Q E h => ?_) (fun cdv A outer s H vs Q E hr h => ?_)
  · obtain ⟨st, c, n, k, rfl, _⟩ := h
    rfl
  · obtain ⟨st, c, n, m, rfl, hS, hn, hm, k⟩ := h
    have nd := scGrown.nd
    refine ⟨_, pss_cons (ps_set (i := 3) nd rfl (.inl rfl) (pe_lst (pa_cons (pe_tup (pa_cons pe_int (pa_cons pe_int pa_nil))) pa_nil)))
      (pss_cons (ps_set (i := 4) nd rfl (.inr rfl) (pe_lst (pa_cons pe_int (pa_cons pe_int pa_nil))))
      (pss_cons (ps_for PassesOwn.never rfl (pi_range1 (by rfl) B.range (pa_cons (pv 1) pa_nil)) (pg_name (i := 5) nd rfl (.inl rfl))
        (pss_cons (ps_set (i := 6) nd rfl (.inl rfl) (pe_call GT hr (by rfl) T.g T.F.kp T.b .nil pass0 (pa_cons (pv 0) (pa_cons (pe_op op_add pe_int (pv 2)) pa_nil))))
        (pss_cons (ps_set (i := 7) nd rfl (.inl rfl) (pe_call GT hr (by rfl) T.g T.F.kp T.b .nil pass0 (pa_cons (pv 0) (pa_cons (pe_callB call_len_seq (by rfl) B.len PySem.boot_len (pa_cons (pv 3) pa_nil)) pa_nil))))
        (pss_cons (ps_asg (pe_ix ix_list (pv 3) (pv 7) (fun _ _ => rfl)) (pg_tup rfl (pgs_cons (pg_name (i := 8) nd rfl (.inr rfl)) (pgs_cons (pg_name (i := 9) nd rfl (.inl rfl)) pgs_nil))))
        (pss_one (ps_if (PW.pt (pw_and (pt_cmpR op_eq (pv 6) pe_int (nomark _)) (pw_and1 (pt_cmpR op_lt (pe_callB call_len_seq (by rfl) B.len PySem.boot_len (pa_cons (pv 4) pa_nil)) pe_int (nomark _)))))
          (pss_cons (ps_set (i := 10) nd rfl (.inl rfl) (pe_callB call_len_seq (by rfl) B.len PySem.boot_len (pa_cons (pv 4) pa_nil)))
          (pss_cons (ps_set (i := 11) nd rfl (.inl rfl) (pe_ix ix_list (pe_lc (own := [("_law_k", 14)]) (g := gName 14) (tt := tTest (tOp rEq (tOp (rIxL K) (tVar 4) (tVar 14)) (tVar 8))) rfl nd (pi_range1 (by rfl) B.range (pa_cons (pe_callB call_len_seq (by rfl) B.len PySem.boot_len (pa_cons (pv 4) pa_nil)) pa_nil))
              (blkOk_by (own := [("_law_k", 14)]) (N := ["_law_state", "_law_turns", "_law_wild", "_law_links", "_law_order", "_law_turn", "_law_plan", "_law_spot", "_law_tail", "_law_head", "_law_place", "_law_at", "_law_low", "_law_high", "_law_k"]) (sc := defScope sLGrown) (by decide +kernel))
              (fun _ _ _ _ _ => pg_name (i := 14) nd rfl (.inl rfl)) (fun _ _ _ _ _ => pts_one (pt_cmpR op_eq (pe_ix ix_list (pv 4) (pv 14) (fun _ _ => rfl)) (pv 8) (nomark _))) (fun _ _ _ _ _ => pv 14)) pe_int (fun _ _ => rfl)))
          (pss_cons (ps_expr (pe_bm PySem.F.plainAttrs_list PySem.F.slot_list_insert PySem.F.type_list_insert mt_insert (pv 4) (pa_cons (pe_op op_add (pv 11) pe_int) (pa_cons (pv 10) pa_nil))))
          (pss_cons (ps_asg (pe_tup (pa_cons (pv 8) (pa_cons (pv 10) pa_nil))) (pg_sub (pv 3) (pv 7) set_list))
          (pss_one (ps_expr (pe_bm PySem.F.plainAttrs_list PySem.F.slot_list_append PySem.F.type_list_append mt_append (pv 3) (pa_cons (pe_tup (pa_cons (pv 10) (pa_cons (pv 9) pa_nil))) pa_nil))))))))
          (pss_one (ps_if (pt_cmpR op_eq (pv 6) pe_int (nomark _)) (pss_cons ps_never (pss_cons ps_never (pss_one ps_never)))
            (pss_one (ps_expr (pe_bm PySem.F.plainAttrs_list PySem.F.slot_list_append PySem.F.type_list_append mt_append (pv 3) (pa_cons (pe_tup (pa_cons (pv 8) (pa_cons (pv 9) pa_nil))) pa_nil)))))))))))
      ) (pss_one (ps_ret (pe_tup (pa_cons (pv 3) (pa_cons (pe_callB call_len_seq (by rfl) B.len PySem.boot_len (pa_cons (pv 4) pa_nil)) pa_nil))))))), ?_⟩
    refine ⟨(by show 2 ≤ sizeLine; decide), fun r0 n0 => ⟨(by show 1 ≤ sizeLine; decide), fun l nl => ⟨(by show 2 ≤ sizeLine; decide), fun o no => ?_⟩⟩⟩
    have e0 : (upd H r0 (.tup [.int 0, .int 1])) r0 = some (.tup [.int 0, .int 1]) := upd_same
    have s1 : Same H (upd H r0 (.tup [.int 0, .int 1])) := same_upd n0
    have s2 := same_upd (o := .lst [.ref r0]) nl
    have s3 := same_upd (o := .lst [.int 0, .int 1]) no
    have l0 : H l = none := s1.free nl
    have o0 : H o = none := s1.free (s2.free no)
    have nlo : l ≠ o := fun z => by
      rw [← z, upd_same] at no
      cases no
    have al := hS.new l0
    have ao := hS.new o0
    refine ⟨_, rfl, m, rfl, by omega, by omega, ?_⟩
    refine for_range (lo := 0) (n := m) (fun i σ H' => ∃ rs L ord v5 v6 v7 v8 v9 v10 v11 v12 v13, σ = [some (.ref st), some (.int m), some (.int 0), some (.ref l), some (.ref o), v5, v6, v7, v8, v9, v10, v11, v12, v13, none] ∧ L.length = i + 1 ∧ GrI H H' st c l o (n + 2 * i) rs L ord)
      ⟨[r0], [(0, 1)], [0, 1], none, none, none, none, none, none, none, none, none, rfl, rfl, ⟨s3 _ _ upd_same, .cons (s3 _ _ (s2 _ _ e0)) .nil, upd_same, hS.same ((s1.trans s2).trans s3), But.of ((s1.trans s2).trans s3), .base, by decide⟩⟩ ?_ ?_
    · rintro i σ H1 hi ⟨rs, L, ord, v5, v6, v7, v8, v9, v10, v11, v12, v13, rfl, hL, I⟩
      have ok := I.g.ok
      refine ⟨_, rfl, _, rfl, _, _, rfl, rfl, st, c, _, _, rfl, I.s, by omega, by decide, by decide, fun pl H2 p0 p1 b2 s2' => ?_⟩
      have el2 := b2 l _ al.1 al.2 I.el
      have eo2 := b2 o _ ao.1 ao.2 I.eo
      have nm2 := num_but I.nums b2 I.s
      have hlen : (refs rs).length = L.length := by unfold refs; rw [List.length_map]; exact I.nums.len
      refine ⟨_, rfl, _, rfl, l, _, rfl, .inl (SqL.of el2), st, c, _, _, rfl, s2', by omega, by omega, by omega, fun z H3 z0 z1 b3 s3' => ?_⟩
      have el3 := b3 l _ al.1 al.2 el2
      have eo3 := b3 o _ ao.1 ao.2 eo2
      have nm3 := num_but nm2 b3 s2'
      have hzL : z.toNat < L.length := by omega
      obtain ⟨⟨t, h⟩, ej⟩ := get_some hzL
      obtain ⟨r, er, hr3⟩ := nm3.get ej
      obtain ⟨tm, hm'⟩ := ok.ends ej
      refine ⟨_, rfl, _, rfl, l, _, z, _, rfl, rfl, SqL.of el3, at_of (j := z.toNat) (by omega) (refs_get er), r, _, rfl, SqT.of hr3, rfl, _, _, rfl, _, _, rfl, rfl, ?_⟩
      have B3 : But st c H H3 := (I.b.trans b2).trans b3
      have S3 : StAt H3 st c (n + 2 * (i + 1)) := s3'.mono (by omega)
      -- the two ways of a turn
      have dup : ∀ p' H4, H3 p' = none → (upd H3 p' (.tup [.int (t : Int), .int (h : Int)])) = H4 → GrI H (upd H4 l (.lst (refs rs ++ [.ref p']))) st c l o (n + 2 * (i + 1)) (rs ++ [p']) (L ++ [(t, h)]) ord := fun p' H4 np e4 => by
        subst e4
        have npl : l ≠ p' := ne_of_none el3 np
        have npo : o ≠ p' := ne_of_none eo3 np
        have np0 := S3.new np
        refine ⟨by rw [upd_same]; unfold refs; rw [List.map_append]; rfl, (num_upd (num_upd nm3 (no_tup0 np)) (no_tup (by rw [upd_ne npl]; exact el3))).snoc ?_, by rw [upd_ne nlo.symm, upd_ne npo]; exact eo3, (S3.upd np0.1 np0.2).upd al.1 al.2, (fun b u h1 h2 e => ?_), .dup I.g ej, I.le⟩
        · show (upd _ l _) p' = _
          rw [upd_ne npl.symm, upd_same]
        · rw [upd_ne (ne_of_none e l0), upd_ne (ne_of_none (B3 b u h1 h2 e) np)]
          exact B3 b u h1 h2 e
      have dupL : (L ++ [(t, h)]).length = i + 1 + 1 := by rw [List.length_append, hL]; rfl
      have hpl : pl < 2 := by omega
      refine ⟨_, rfl, rfl, _, rfl, ?_⟩
      refine iteB (fun hp => ?_) (fun hp => ?_)
      · refine ⟨_, rfl, o, _, rfl, .inl (SqL.of eo3), _, _, rfl, rfl, _, rfl, ?_⟩
        refine iteB (fun h8 => ?_) (fun h8 => ?_)
        · have h8 : ord.length < 8 := by
            have q := of_decide_eq_true h8
            unfold nats at q
            rw [List.length_map] at q
            omega
          obtain ⟨a, rr, ef, ea⟩ := ord_filter tm
          have hal := get_lt ea
          have hnl : (nats ord).length = ord.length := by unfold nats; rw [List.length_map]
          refine ⟨_, rfl, o, _, rfl, .inl (SqL.of eo3), ?_⟩
          refine ⟨_, rfl, o, _, rfl, .inl (SqL.of eo3), _, rfl, by omega, by omega, fun D nD => ?_⟩
          have nDo : o ≠ D := ne_of_none eo3 nD
          have nDl : l ≠ D := ne_of_none el3 nD
          have aD := S3.new nD
          refine lc_range (lo := 0) (n := (nats ord).length) (fun q H' => H' = upd H3 D (.lst (nats ((List.range q).filter fun q => decide (ord[q]? = some t))))) rfl ?_ ?_
          · rintro q H' hq rfl
            have hqo : q < ord.length := by rw [hnl] at hq; exact hq
            refine ⟨rfl, _, rfl, _, rfl, o, _, _, _, rfl, rfl, SqL.of (by rw [upd_ne nDo]; exact eo3), at_of (j := q) (by omega) (nats_get (List.getElem?_eq_getElem hqo)), _, rfl, rfl, _, rfl, ?_⟩
            have eN : (List.range (q + 1)).filter (fun q => decide (ord[q]? = some t)) = (List.range q).filter (fun q => decide (ord[q]? = some t)) ++ (if ord[q]? = some t then [q] else []) := by
              rw [List.range_succ, List.filter_append]
              by_cases z : ord[q]? = some t <;> simp [z]
            refine iteB (fun ht => ?_) (fun ht => ?_)
            · have ht' : ord[q]? = some t := by
                have z := V.int.inj (of_decide_eq_true ht)
                rw [List.getElem?_eq_getElem hqo]
                congr 1
                omega
              refine ⟨_, rfl, _, upd_same, ?_, ?_⟩
              · unfold nats
                rw [List.length_map]
                refine small1000 (Nat.le_trans (List.length_filter_le _ _) ?_)
                rw [List.length_range]
                omega
              · rw [upd_upd, eN, if_pos ht']
                unfold nats
                rw [List.map_append]
                simp
            · have ht' : ¬ ord[q]? = some t := fun z => by
                rw [List.getElem?_eq_getElem hqo] at z
                have z := Option.some.inj z
                rw [decide_eq_true (by rw [z])] at ht
                cases ht
              show _ = _
              rw [eN, if_neg ht', List.append_nil]
          · rintro H' rfl
            rw [hnl, ef]
            refine ⟨D, _, 0, .int (a : Int), rfl, rfl, SqL.of upd_same, at_of (j := 0) rfl rfl, ?_⟩
            refine ⟨_, rfl, .inl ⟨rfl, _, SqL.of (by rw [upd_ne nDo]; exact eo3)⟩, _, rfl, _, _, rfl, rfl, _, rfl, o, nats ord, (a : Int) + 1, .int (ord.length : Int), rfl, rfl, by rw [upd_ne nDo]; exact eo3, small1000 (by omega), by omega, by omega, ?_⟩
            refine ⟨_, rfl, _, rfl, (by show 2 ≤ sizeLine; decide), fun p1 np1 => ?_⟩
            have np1o : p1 ≠ o := fun z => by rw [z, upd_same] at np1; cases np1
            have np1D : p1 ≠ D := fun z => by rw [z, upd_ne nDo.symm, upd_same] at np1; cases np1
            have np13 : H3 p1 = none := by rw [upd_ne np1o, upd_ne np1D] at np1; exact np1
            have np1l : p1 ≠ l := (ne_of_none el3 np13).symm
            refine ⟨_, rfl, _, rfl, l, _, z, z.toNat, rfl, rfl, by rw [upd_ne np1l.symm, upd_ne nlo, upd_ne nDl]; exact el3, ixNat z0 (by omega), ?_⟩
            refine ⟨_, rfl, .inl ⟨rfl, _, SqL.of upd_same⟩, _, rfl, _, rfl, (by show 2 ≤ sizeLine; decide), fun p2 np2 => ?_⟩
            have np2l : p2 ≠ l := fun z => by rw [z, upd_same] at np2; cases np2
            rw [upd_ne np2l] at np2
            have np21 : p2 ≠ p1 := fun z => by rw [z, upd_same] at np2; cases np2
            rw [upd_ne np21] at np2
            have np2o : p2 ≠ o := fun z => by rw [z, upd_same] at np2; cases np2
            rw [upd_ne np2o] at np2
            have np2D : p2 ≠ D := fun z => by rw [z, upd_same] at np2; cases np2
            rw [upd_ne np2D] at np2
            have a1 := S3.new np13
            have a2 := S3.new np2
            refine ⟨l, _, _, rfl, rfl, by rw [upd_ne np2l.symm, upd_same], small1000 (by rw [List.length_set]; omega), ?_⟩
            refine ⟨rs.set z.toNat p1 ++ [p2], L.set z.toNat (t, ord.length) ++ [(ord.length, h)], ord.insertIdx (a + 1) ord.length, _, _, _, _, _, _, _, _, _, rfl, by rw [List.length_append, List.length_set, hL]; rfl, ?_⟩
            have base : ∀ r e, NumAt H3 r e → ∀ X Y Z W U T, (upd (upd (upd (upd (upd (upd H3 D (.lst X)) o (.lst Y)) p1 (.tup Z)) l (.lst W)) p2 (.tup U)) l (.lst T)) r = some (.tup [.int (e.1 : Int), .int (e.2 : Int)]) := fun r e q X Y Z W U T => by
              have r1 : r ≠ l := fun z => no_tup el3 _ (z ▸ q)
              have r2 : r ≠ o := fun z => no_tup eo3 _ (z ▸ q)
              have r3 : r ≠ D := ne_of_none q nD
              have r4 : r ≠ p1 := ne_of_none q np13
              have r5 : r ≠ p2 := ne_of_none q np2
              rw [upd_ne r1, upd_ne r5, upd_ne r1, upd_ne r4, upd_ne r2, upd_ne r3]
              exact q
            refine ⟨?_, ?_, ?_, ?_, ?_, .split I.g ej ea, ?_⟩
            · rw [upd_same]
              unfold refs
              rw [List.map_append, List.map_set]
              rfl
            · refine A2.snoc (A2.set (nm3.mono fun r e q => base r e q _ _ _ _ _ _) ?_ _) ?_
              · show (upd _ l _) p1 = _
                rw [upd_ne np1l, upd_ne np21.symm, upd_ne np1l, upd_same]
              · show (upd _ l _) p2 = _
                rw [upd_ne np2l, upd_same]
            · rw [upd_ne nlo.symm, upd_ne np2o.symm, upd_ne nlo.symm, upd_ne np1o.symm, upd_same, insert_cut ord (a + 1) hal]
              unfold nats
              rw [List.map_append, List.map_append, List.map_take, List.map_drop, show ((a : Int) + 1).toNat = a + 1 by omega]
              rfl
            · exact (((((S3.upd aD.1 aD.2).upd ao.1 ao.2).upd a1.1 a1.2).upd al.1 al.2).upd a2.1 a2.2).upd al.1 al.2
            · intro b u h1 h2 e
              have e3 := B3 b u h1 h2 e
              rw [upd_ne (ne_of_none e l0), upd_ne (ne_of_none e3 np2), upd_ne (ne_of_none e l0), upd_ne (ne_of_none e3 np13), upd_ne (ne_of_none e o0), upd_ne (ne_of_none e3 nD)]
              exact e3
            · rw [List.length_insertIdx_of_le_length hal]
              omega
        · refine ⟨_, rfl, rfl, _, rfl, iteKF (decVn (by omega)) ⟨_, rfl, .inl ⟨rfl, _, SqL.of el3⟩, _, rfl, _, rfl, (by show 2 ≤ sizeLine; decide), fun p' np => ?_⟩⟩
          refine ⟨l, _, _, rfl, rfl, by rw [upd_ne (ne_of_none el3 np)]; exact el3, small1000 (by rw [hlen]; omega), ?_⟩
          exact ⟨rs ++ [p'], L ++ [(t, h)], ord, _, _, _, _, _, _, _, _, _, rfl, dupL, dup p' _ np rfl⟩
      · refine iteF ?_
        refine ⟨_, rfl, rfl, _, rfl, iteKF (decVn (by omega)) ⟨_, rfl, .inl ⟨rfl, _, SqL.of el3⟩, _, rfl, _, rfl, (by show 2 ≤ sizeLine; decide), fun p' np => ?_⟩⟩
        refine ⟨l, _, _, rfl, rfl, by rw [upd_ne (ne_of_none el3 np)]; exact el3, small1000 (by rw [hlen]; omega), ?_⟩
        exact ⟨rs ++ [p'], L ++ [(t, h)], ord, _, _, _, _, _, _, _, _, _, rfl, dupL, dup p' _ np rfl⟩
    · rintro σ H' ⟨rs, L, ord, v5, v6, v7, v8, v9, v10, v11, v12, v13, rfl, hL, I⟩
      refine ⟨_, rfl, _, rfl, o, _, rfl, .inl (SqL.of I.eo), (by show 2 ≤ sizeLine; decide), fun p np => ?_⟩
      have hnl : (nats ord).length = ord.length := by unfold nats; rw [List.length_map]
      refine k p l _ rs L ord I.g hL I.le (fun b u h1 h2 e => ?_) (I.s.upd (I.s.new np).1 (I.s.new np).2) (by rw [upd_same, hnl]) l0 (by rw [upd_ne (ne_of_none I.el np)]; exact I.el) (num_upd I.nums (no_tup0 np))
      rw [upd_ne (ne_of_none (I.b b u h1 h2 e) np)]
      exact I.b b u h1 h2 e
end
end XW

namespace XW
open PySem L2 XL
/-! ### names of links and places -/
def placeWords : List Str := ["s", "t", "p", "q1", "x", "end", "b", "a2"]
def nameWords : List Str := ["a", "b", "c1", "link", "z9", "m", "ab", "a2", "long1", "y"]
theorem place_nd : placeWords.Nodup := by decide +kernel
theorem name_nd : nameWords.Nodup := by decide +kernel
abbrev Lks := List (Str × Str × Str)
/-- a link as a triple of texts -/
def TriAt (H : Hp) (r : Addr) (l : Str × Str × Str) : Prop := H r = some (.tup [.str l.1, .str l.2.1, .str l.2.2])
def stz (xs : List Str) : List V := xs.map V.str
/-- the law's links at a -/
def LksAt (H : Hp) (a : Addr) (M : Lks) : Prop := ∃ ts, H a = some (.lst (refs ts)) ∧ A2 (TriAt H) ts M
theorem stz_perm {ys : List V} {l : List Str} (h : ys.Perm (stz l)) : ∃ m, m.Perm l ∧ ys = stz m := by
  have a : A2 (fun (v : V) (x : Str) => v = V.str x) (stz l) l := by
    unfold stz
    induction l with
    | nil => exact .nil
    | cons x l ih => exact .cons rfl (by
        have : ∀ m : List Str, A2 (fun (v : V) (x : Str) => v = V.str x) (m.map V.str) m := fun m => by
          induction m with
          | nil => exact .nil
          | cons y m ih => exact .cons rfl ih
        exact this l)
  obtain ⟨m, p, q⟩ := a.perm h
  refine ⟨m, p, ?_⟩
  clear p h
  induction q with
  | nil => rfl
  | cons r _ ih => rw [r, ih]; rfl
theorem refs_perm {ys : List V} {rs : List Addr} (h : ys.Perm (refs rs)) : ∃ ts, ts.Perm rs ∧ ys = refs ts := by
  have this : ∀ m : List Addr, A2 (fun (v : V) (x : Addr) => v = V.ref x) (m.map V.ref) m := fun m => by
    induction m with
    | nil => exact .nil
    | cons y m ih => exact .cons rfl ih
  obtain ⟨m, p, q⟩ := (this rs).perm h
  refine ⟨m, p, ?_⟩
  clear p h
  induction q with
  | nil => rfl
  | cons r _ ih => rw [r, ih]; rfl
theorem cutV_to (xs : List V) (k : Nat) : cutV xs none (some (k : Int)) = xs.take k := by
  unfold cutV
  rw [HT.sIx_none, HT.sIx_nat, List.drop_zero, Nat.sub_zero]
  by_cases h : k ≤ xs.length
  · rw [Nat.min_eq_left h]
  · rw [Nat.min_eq_right (by omega), List.take_of_length_le (Nat.le_refl _), List.take_of_length_le (by omega)]
theorem stz_get {xs : List Str} {i : Nat} {r : Str} (h : xs[i]? = some r) : (stz xs)[i]? = some (.str r) := by
  unfold stz
  rw [List.getElem?_map, h]
  rfl
theorem tri_same {H H' : Hp} {ts : List Addr} {M : Lks} (h : A2 (TriAt H) ts M) (s : Same H H') : A2 (TriAt H') ts M := h.mono fun r e q => s _ _ q
section
variable {P : Program} {w : World} {K : PySem.W.Frag} {mg : Str → Option Value} {base : Heap}
theorem scNamed : FnScope ["_law_state", "_law_links", "_law_count", "_law_words", "_law_places", "_law_names", "_law_told", "_law_k"] ["_law_state", "_law_links", "_law_count"] (defScope sLNamed) := ⟨rfl, rfl, rfl, by decide +kernel, rfl, by decide +kernel, by decide +kernel⟩
/-- what the drawn net is -/
structure Drawn (M : Lks) (s e : Str) : Prop where
  net : ∃ rk, Net M s e rk ∧ Cut M s e
  nm : ∀ l ∈ M, l.1 ∈ nameWords ∧ l.2.1 ∈ placeWords ∧ l.2.2 ∈ placeWords
  hs : s ∈ placeWords
  he : e ∈ placeWords
def spNamed : Sp := fun vs H Q _ => ∃ (st c l : Addr) (n : Nat) (rs : List Addr) (L : List (Nat × Nat)) (ord : List Nat), vs = [.ref st, .ref l, .int (ord.length : Int)] ∧ StAt H st c n ∧ n < 100000 ∧ l ≠ st ∧ l ≠ c ∧ Grown L ord ∧ 1 ≤ L.length ∧ L.length ≤ 10 ∧ ord.length ≤ 8 ∧ H l = some (.lst (refs rs)) ∧ A2 (NumAt H) rs L ∧
  ∀ p q H' M s e, Drawn M s e → But st c H H' → StAt H' st c (n + 28) → H' p = some (.tup [.ref q, .str s, .str e]) → LksAt H' q M → q ≠ st → q ≠ c → Q (.ref p) H'
theorem ok_named {f fT fS : Addr} {fd fdT fdS : FuncData} (F : Fun K "_law_named" "_law_named" sLNamed f fd) (B : Bl mg) (T : Df K mg "_law_take" sLTake ["_law_state", "_law_limit"] fT fdT) (S : Df K mg "_law_shuffled" sLShuffled ["_law_state", "_law_items"] fS fdS) : FnOk P w K mg base CX0 3 f fd ["_law_state", "_law_links", "_law_count"] spNamed := by
  have GS : FnOk P w K mg base CX0 2 fS fdS ["_law_state", "_law_items"] (spShuf K) := ok_shuf S.F B T
  refine F.ok scNamed (fun vs H Q E h => ?_) (fun cdv A outer s H vs Q E hr h => ?_)
  · obtain ⟨st, c, l, n, rs, L, ord, rfl, _⟩ := h
    rfl
  · obtain ⟨st, c, l, n, rs, L, ord, rfl, hS, hn, hl1, hl2, hg, hL1, hL2, h8', el, nums, k⟩ := h
    have nd := scNamed.nd
    refine ⟨_, pss_cons (ps_set (i := 3) nd rfl (.inl rfl) (pe_lst (pa_cons pe_str (pa_cons pe_str (pa_cons pe_str (pa_cons pe_str (pa_cons pe_str (pa_cons pe_str (pa_cons pe_str (pa_cons pe_str pa_nil))))))))))
      (pss_cons (ps_set (i := 4) nd rfl (.inr rfl) (pe_slice sl_list (pe_call GS hr (by rfl) S.g S.F.kp S.b .nil pass0 (pa_cons (pv 0) (pa_cons (pv 3) pa_nil))) po_none (po_some (pv 2))))
      (pss_cons (ps_set (i := 3) nd rfl (.inl rfl) (pe_lst (pa_cons pe_str (pa_cons pe_str (pa_cons pe_str (pa_cons pe_str (pa_cons pe_str (pa_cons pe_str (pa_cons pe_str (pa_cons pe_str (pa_cons pe_str (pa_cons pe_str pa_nil))))))))))))
      (pss_cons (ps_set (i := 5) nd rfl (.inr rfl) (pe_slice sl_list (pe_call GS hr (by rfl) S.g S.F.kp S.b .nil pass0 (pa_cons (pv 0) (pa_cons (pv 3) pa_nil))) po_none (po_some (pe_callB call_len_seq (by rfl) B.len PySem.boot_len (pa_cons (pv 1) pa_nil)))))
      (pss_cons (ps_setLc (i := 6) (own := [("_law_k", 7)]) (g := gName 7) (tt := tYes) (te := tTup (tCons (tOp (rIxL K) (tVar 5) (tVar 7)) (tCons (tOp (rIxL K) (tVar 4) (tOp (rIxT K) (tOp (rIxL K) (tVar 1) (tVar 7)) (tC (.int 0)))) (tCons (tOp (rIxL K) (tVar 4) (tOp (rIxT K) (tOp (rIxL K) (tVar 1) (tVar 7)) (tC (.int 1)))) tNil))))
          rfl nd rfl rfl (sw_true rfl rfl rfl (by decide +kernel)) (pi_range1 (by rfl) B.range (pa_cons (pe_callB call_len_seq (by rfl) B.len PySem.boot_len (pa_cons (pv 1) pa_nil)) pa_nil)) (blkOk_by (own := [("_law_k", 7)]) (N := ["_law_state", "_law_links", "_law_count", "_law_words", "_law_places", "_law_names", "_law_told", "_law_k"]) (sc := defScope sLNamed) (by decide +kernel))
          (fun _ _ _ _ _ => pg_name (i := 7) nd rfl (.inl rfl)) (fun _ _ _ _ _ => pts_nil) (fun _ _ _ _ _ => pe_tup (pa_cons (pe_ix ix_list (pv 5) (pv 7) (fun _ _ => rfl)) (pa_cons (pe_ix ix_list (pv 4) (pe_ix ix_tup (pe_ix ix_list (pv 1) (pv 7) (fun _ _ => rfl)) pe_int (fun _ _ => rfl)) (fun _ _ => rfl)) (pa_cons (pe_ix ix_list (pv 4) (pe_ix ix_tup (pe_ix ix_list (pv 1) (pv 7) (fun _ _ => rfl)) pe_int (fun _ _ => rfl)) (fun _ _ => rfl)) pa_nil)))))
      (pss_one (ps_ret (pe_tup (pa_cons (pe_call GS hr (by rfl) S.g S.F.kp S.b .nil pass0 (pa_cons (pv 0) (pa_cons (pv 6) pa_nil))) (pa_cons (pe_ix ix_list (pv 4) pe_int (fun _ _ => rfl)) (pa_cons (pe_ix ix_list (pv 4) pe_int (fun _ _ => rfl)) pa_nil)))))))))), ?_⟩
    have ok := hg.ok
    -- the places
    refine ⟨(by show 8 ≤ sizeLine; decide), fun w1 nw1 => ?_⟩
    have S1 := hS.same (same_upd (o := .lst (stz placeWords)) nw1)
    have l1 : (upd H w1 (.lst (stz placeWords))) l = some (.lst (refs rs)) := same_upd nw1 _ _ el
    refine ⟨_, rfl, _, rfl, st, c, w1, n, stz placeWords, rfl, S1, SqL.of upd_same, by decide, by have : (stz placeWords).length = 8 := rfl; omega, fun p1 H2 ys hp1 b2 S2 np1 e1 => ?_⟩
    obtain ⟨ps, pps, rfl⟩ := stz_perm hp1
    have B2 : But st c H H2 := (But.of (same_upd nw1)).trans b2
    refine ⟨_, rfl, _, rfl, p1, _, rfl, SqL.of e1, fun pl npl => ?_⟩
    rw [cutV_to]
    have hpsl : ps.length = 8 := pps.length_eq
    have psnd : ps.Nodup := pps.nodup_iff.mpr place_nd
    -- the names
    refine ⟨(by show 10 ≤ sizeLine; decide), fun w2 nw2 => ?_⟩
    have apl : pl ≠ st ∧ pl ≠ c := S2.new npl
    have nplw : pl ≠ w2 := fun z => by
      rw [← z, upd_same] at nw2
      cases nw2
    have S3 := (S2.same (same_upd (o := .lst ((stz ps).take ord.length)) npl)).same (same_upd (o := .lst (stz nameWords)) nw2)
    refine ⟨_, rfl, _, rfl, st, c, w2, _, stz nameWords, rfl, S3, SqL.of upd_same, by decide, by have h8 : (stz placeWords).length = 8 := rfl; have h10 : (stz nameWords).length = 10 := rfl; omega, fun p2 H4 ys hp2 b4 S4 np2 e2 => ?_⟩
    obtain ⟨nms, pnm, rfl⟩ := stz_perm hp2
    have nmnd : nms.Nodup := pnm.nodup_iff.mpr name_nd
    have hnml : nms.length = 10 := pnm.length_eq
    have l2 : H2 l = some (.lst (refs rs)) := b2 l _ hl1 hl2 l1
    have lpl : l ≠ pl := ne_of_none l2 npl
    have nw2' : H2 w2 = none := by rw [upd_ne nplw.symm] at nw2; exact nw2
    have l4 : H4 l = some (.lst (refs rs)) := b4 l _ hl1 hl2 (by rw [upd_ne (ne_of_none l2 nw2'), upd_ne lpl]; exact l2)
    have pl4 : H4 pl = some (.lst ((stz ps).take ord.length)) := b4 pl _ apl.1 apl.2 (by rw [upd_ne nplw, upd_same])
    have B4 : But st c H H4 := fun b u h1 h2 e => b4 b u h1 h2 (same_upd nw2 _ _ (same_upd npl _ _ (B2 b u h1 h2 e)))
    have nums4 : A2 (NumAt H4) rs L := num_but nums B4 hS
    have hrl : (refs rs).length = L.length := by unfold refs; rw [List.length_map]; exact nums.len
    refine ⟨_, rfl, l, _, rfl, .inl (SqL.of l4), _, rfl, p2, _, rfl, SqL.of e2, fun nl nnl => ?_⟩
    rw [hrl, cutV_to]
    have anl : nl ≠ st ∧ nl ≠ c := S4.new nnl
    have nlp : nl ≠ pl := fun z => by rw [z, pl4] at nnl; cases nnl
    generalize hH5 : upd H4 nl (.lst ((stz nms).take L.length)) = H5
    have s5 : Same H4 H5 := by rw [← hH5]; exact same_upd nnl
    have l5 := s5 _ _ l4
    have pl5 := s5 _ _ pl4
    have nl5 : H5 nl = some (.lst ((stz nms).take L.length)) := by rw [← hH5]; exact upd_same
    -- told
    refine ⟨_, rfl, l, _, rfl, .inl (SqL.of l5), _, rfl, by omega, by omega, fun D nD => ?_⟩
    refine lc_range (lo := 0) (n := (refs rs).length) (fun i H' => Same H5 H' ∧ ∃ ts M, H' D = some (.lst (refs ts)) ∧ A2 (TriAt H') ts M ∧ M.length = i ∧ ∀ (q t h : Nat), q < i → L[q]? = some (t, h) → ∃ x a b, (nms.take L.length)[q]? = some x ∧ (ps.take ord.length)[t]? = some a ∧ (ps.take ord.length)[h]? = some b ∧ M[q]? = some (x, a, b))
      ⟨same_upd nD, [], [], upd_same, .nil, rfl, fun q t h hq => absurd hq (Nat.not_lt_zero _)⟩ ?_ ?_
    · rintro i H' hi ⟨s6, ts, M, eD, tri, hMl, hM⟩
      rw [hrl] at hi
      obtain ⟨⟨t, h⟩, eL⟩ := get_some hi
      obtain ⟨r, er, hr4⟩ := nums4.get eL
      have hr6 := s6 _ _ (s5 _ _ hr4)
      obtain ⟨ht, hh⟩ := ok.lt eL
      obtain ⟨x, ex⟩ := get_some (show i < nms.length by omega)
      obtain ⟨a, ea⟩ := get_some (show t < ps.length by omega)
      obtain ⟨b, eb⟩ := get_some (show h < ps.length by omega)
      have ex' : (nms.take L.length)[i]? = some x := by rw [List.getElem?_take_of_lt hi]; exact ex
      have ea' : (ps.take ord.length)[t]? = some a := by rw [List.getElem?_take_of_lt ht]; exact ea
      have eb' : (ps.take ord.length)[h]? = some b := by rw [List.getElem?_take_of_lt hh]; exact eb
      have mt : ∀ (l : List Str) k, (stz l).take k = stz (l.take k) := fun l k => by unfold stz; rw [List.map_take]
      rw [mt] at pl5 nl5
      refine ⟨rfl, _, rfl, _, rfl, nl, _, _, .str x, rfl, rfl, SqL.of (s6 _ _ nl5), at_of (j := i) (by omega) (stz_get ex'), ?_⟩
      refine ⟨_, rfl, _, rfl, _, rfl, l, _, _, .ref r, rfl, rfl, SqL.of (s6 _ _ l5), at_of (j := i) (by omega) (refs_get er), r, _, 0, .int (t : Int), rfl, rfl, SqT.of hr6, at_of (j := 0) rfl rfl, pl, _, _, .str a, rfl, rfl, SqL.of (s6 _ _ pl5), at_of (j := t) rfl (stz_get ea'), ?_⟩
      refine ⟨_, rfl, _, rfl, _, rfl, l, _, _, .ref r, rfl, rfl, SqL.of (s6 _ _ l5), at_of (j := i) (by omega) (refs_get er), r, _, 1, .int (h : Int), rfl, rfl, SqT.of hr6, at_of (j := 1) rfl rfl, pl, _, _, .str b, rfl, rfl, SqL.of (s6 _ _ pl5), at_of (j := h) rfl (stz_get eb'), ?_⟩
      refine ⟨(by show 3 ≤ sizeLine; decide), fun z nz => ?_⟩
      have nDz : D ≠ z := ne_of_none eD nz
      refine ⟨_, by rw [upd_ne nDz]; exact eD, ?_, ?_⟩
      · unfold refs
        rw [List.length_map, tri.len, hMl]
        exact small1000 (by omega)
      · refine ⟨?_, ts ++ [z], M ++ [(x, a, b)], by rw [upd_same]; unfold refs; rw [List.map_append]; rfl, ?_, by rw [List.length_append, hMl]; rfl, fun q t' h' hq e => ?_⟩
        · intro y o e
          rw [upd_ne (ne_of_none e nD), upd_ne (ne_of_none (s6 _ _ e) nz)]
          exact s6 _ _ e
        · refine A2.snoc (tri.mono fun r e q => ?_) ?_
          · show (upd _ D _) r = _
            have q' : H' r = _ := q
            rw [upd_ne (ne_of q' eD (fun z => nomatch z)), upd_ne (ne_of_none q' nz)]
            exact q'
          · show (upd _ D _) z = _
            rw [upd_ne nDz.symm, upd_same]
        · by_cases hqi : q < i
          · obtain ⟨x', a', b', q1, q2, q3, q4⟩ := hM q t' h' hqi e
            exact ⟨x', a', b', q1, q2, q3, get_append_left q4⟩
          · have hqe : q = i := by omega
            subst hqe
            rw [eL] at e
            cases e
            exact ⟨x, a, b, ex', ea', eb', by rw [← hMl]; simp⟩
    · rintro H' ⟨s6, ts, M, eD, tri, hMl, hM⟩
      rw [hrl] at hMl hM
      have named : Named L (nms.take L.length) (ps.take ord.length) M := ⟨hMl, fun q t h e => hM q t h (get_lt e) e⟩
      have S5 : StAt H5 st c _ := S4.same s5
      have S6 : StAt H' st c _ := S5.same s6
      have aD : D ≠ st ∧ D ≠ c := S5.new nD
      have hts : (refs ts).length ≤ 10 := by unfold refs; rw [List.length_map, tri.len]; omega
      -- return
      have h8 : (stz placeWords).length = 8 := rfl
      have h10 : (stz nameWords).length = 10 := rfl
      refine ⟨_, rfl, _, rfl, st, c, D, _, refs ts, rfl, S6, SqL.of eD, by omega, by omega, fun q H7 ys hp7 b7 S7 nq e7 => ?_⟩
      obtain ⟨ts', pts, rfl⟩ := refs_perm hp7
      obtain ⟨M', pM, tri'⟩ := tri.perm pts
      have tri7 : A2 (TriAt H7) ts' M' := tri'.mono fun r e q => b7.keep S6 q (fun xs z => nomatch z)
      obtain ⟨sN, es⟩ := get_some (show 0 < ps.length by omega)
      obtain ⟨eN, ee⟩ := get_some (show 1 < ps.length by omega)
      have two := ok.two
      have es' : (ps.take ord.length)[0]? = some sN := by rw [List.getElem?_take_of_lt (by omega)]; exact es
      have ee' : (ps.take ord.length)[1]? = some eN := by rw [List.getElem?_take_of_lt (by omega)]; exact ee
      have mt : ∀ (l : List Str) k, (stz l).take k = stz (l.take k) := fun l k => by unfold stz; rw [List.map_take]
      have pl7 : H7 pl = some (.lst (stz (ps.take ord.length))) := b7 pl _ apl.1 apl.2 (s6 _ _ (by rw [← mt]; exact pl5))
      refine ⟨_, rfl, pl, _, 0, .str sN, rfl, rfl, SqL.of pl7, at_of (j := 0) rfl (stz_get es'), _, rfl, pl, _, 1, .str eN, rfl, rfl, SqL.of pl7, at_of (j := 1) rfl (stz_get ee'), ?_⟩
      refine ⟨(by show 3 ≤ sizeLine; decide), fun p np => ?_⟩
      obtain ⟨nt, ct⟩ := named_net ok hL1 hL2 h8' (nmnd.sublist (List.take_sublist _ _)) (psnd.sublist (List.take_sublist _ _)) named es' ee'
      have memP : ∀ x, x ∈ ps.take ord.length → x ∈ placeWords := fun x hx => pps.mem_iff.mp (List.mem_of_mem_take hx)
      have memN : ∀ x, x ∈ nms.take L.length → x ∈ nameWords := fun x hx => pnm.mem_iff.mp (List.mem_of_mem_take hx)
      refine k p q _ M' sN eN ⟨⟨_, nt.perm pM.symm, ct.perm pM.symm⟩, fun m hm => ?_, memP _ (List.mem_of_getElem? es'), memP _ (List.mem_of_getElem? ee')⟩ ?_ ?_ upd_same ⟨ts', ?_, ?_⟩ ?_ ?_
      · obtain ⟨j, hj⟩ := List.mem_iff_getElem?.mp (pM.mem_iff.mp hm)
        obtain ⟨x, a, b⟩ := m
        obtain ⟨t, h, _, q1, q2, q3⟩ := named.inv hj
        exact ⟨memN _ (List.mem_of_getElem? q1), memP _ (List.mem_of_getElem? q2), memP _ (List.mem_of_getElem? q3)⟩
      · intro b u h1 h2 e
        have e' := b7 b u h1 h2 (s6 _ _ (s5 _ _ (B4 b u h1 h2 e)))
        rw [upd_ne (ne_of_none e' np)]
        exact e'
      · exact (S7.mono (by omega)).upd (S7.new np).1 (S7.new np).2
      · rw [upd_ne (ne_of_none e7 np)]
        exact e7
      · exact tri7.mono fun r e q => (upd_ne (ne_of_none q np)).trans q
      · exact (S6.new nq).1
      · exact (S6.new nq).2
/-! ### _law_network -/
theorem scNetw : FnScope ["_law_state", "_law_wild", "_law_links", "_law_count"] ["_law_state", "_law_wild"] (defScope sLNetwork) := ⟨rfl, rfl, rfl, by decide +kernel, rfl, by decide +kernel, by decide +kernel⟩
def spNetw : Sp := fun vs H Q _ => ∃ (st c : Addr) (n : Nat), vs = [.ref st, .int 0] ∧ StAt H st c n ∧ n < 1000 ∧
  ∀ p q H' M s e, Drawn M s e → But st c H H' → StAt H' st c (n + 47) → H' p = some (.tup [.ref q, .str s, .str e]) → LksAt H' q M → q ≠ st → q ≠ c → Q (.ref p) H'
theorem ok_netw {f fT fS fG fN : Addr} {fd fdT fdS fdG fdN : FuncData} (F : Fun K "_law_network" "_law_network" sLNetwork f fd) (B : Bl mg) (T : Df K mg "_law_take" sLTake ["_law_state", "_law_limit"] fT fdT) (S : Df K mg "_law_shuffled" sLShuffled ["_law_state", "_law_items"] fS fdS)
    (G : Df K mg "_law_grown" sLGrown ["_law_state", "_law_turns", "_law_wild"] fG fdG) (N : Df K mg "_law_named" sLNamed ["_law_state", "_law_links", "_law_count"] fN fdN) : FnOk P w K mg base CX0 4 f fd ["_law_state", "_law_wild"] spNetw := by
  have GT : FnOk P w K mg base CX0 1 fT fdT ["_law_state", "_law_limit"] spTake := ok_take T.F B
  have GG : FnOk P w K mg base CX0 2 fG fdG ["_law_state", "_law_turns", "_law_wild"] spGrown := ok_grown G.F B T
  have GN : FnOk P w K mg base CX0 3 fN fdN ["_law_state", "_law_links", "_law_count"] spNamed := ok_named N.F B T S
  refine F.ok scNetw (fun vs H Q E h => ?_) (fun cdv A outer s H vs Q E hr h => ?_)
  · obtain ⟨st, c, n, rfl, _⟩ := h
    rfl
  · obtain ⟨st, c, n, rfl, hS, hn, k⟩ := h
    have nd := scNetw.nd
    refine ⟨_, pss_cons (ps_asg (pe_call GG (hr.mono (by decide)) (by rfl) G.g G.F.kp G.b .nil pass0 (pa_cons (pv 0) (pa_cons (pe_call GT (hr.mono (by decide)) (by rfl) T.g T.F.kp T.b .nil pass0 (pa_cons (pv 0) (pa_cons pe_int pa_nil))) (pa_cons (pv 1) pa_nil))))
        (pg_tup rfl (pgs_cons (pg_name (i := 2) nd rfl (.inl rfl)) (pgs_cons (pg_name (i := 3) nd rfl (.inl rfl)) pgs_nil))))
      (pss_one (ps_ret (pe_call GN hr (by rfl) N.g N.F.kp N.b .nil pass0 (pa_cons (pv 0) (pa_cons (pv 2) (pa_cons (pv 3) pa_nil)))))), ?_⟩
    refine ⟨_, rfl, _, rfl, st, c, n, 10, rfl, hS, by omega, by decide, by decide, fun v H1 v0 v1 b1 S1 => ?_⟩
    obtain ⟨kk, hk⟩ := Int.eq_ofNat_of_zero_le v0
    subst hk
    refine ⟨_, rfl, st, c, n + 1, kk, rfl, S1, by omega, by omega, fun p l H2 rs L ord g hL h8 b2 S2 ep nl el nums => ?_⟩
    refine ⟨p, _, rfl, SqT.of ep, rfl, _, _, rfl, _, _, rfl, rfl, ?_⟩
    have al := S1.new nl
    refine ⟨_, rfl, _, rfl, _, rfl, st, c, l, _, rs, L, ord, rfl, S2, by omega, al.1, al.2, g, by omega, by omega, h8, el, nums, fun p' q H3 M sN eN d b3 S3 e3 lk n1 n2 => ?_⟩
    exact k p' q H3 M sN eN d ((b1.trans b2).trans b3) (S3.mono (by omega)) e3 lk n1 n2
end
end XW

namespace XW
open PySem L2 XL
theorem flat_stz (l : List Str) : (stz l).all flatV = true := by
  induction l with
  | nil => rfl
  | cons x l ih =>
    show (flatV (V.str x) && (stz l).all flatV) = true
    rw [ih]
    rfl
theorem in_stz (x : Str) (l : List Str) : inV (.str x) (stz l) = decide (x ∈ l) := by
  unfold inV
  induction l with
  | nil => rfl
  | cons y l ih =>
    show (eqV (V.str y) (V.str x) || (stz l).any fun y => eqV y (V.str x)) = _
    rw [ih]
    have e : eqV (V.str y) (V.str x) = decide (x = y) := by
      show decide _ = decide _
      exact decide_eq_decide.mpr ⟨fun h => by first | exact h.symm | (injection h with h; exact h.symm), fun h => by rw [h]⟩
    rw [e]
    by_cases z : x = y <;> by_cases q : x ∈ l <;> simp [z, q]
theorem fold_len {N P : Type} [DecidableEq P] (L : List (N × P × P)) : ∀ f : List P, (L.foldl turnF f).length ≤ f.length + L.length := by
  induction L with
  | nil => intro f; exact Nat.le_refl _
  | cons l L ih =>
    intro f
    have h := ih (turnF f l)
    have q : (turnF f l).length ≤ f.length + 1 := by
      unfold turnF
      split
      · rw [List.length_append]; exact Nat.le_refl _
      · omega
    rw [List.foldl_cons, List.length_cons]
    omega
theorem rounds_len {N P : Type} [DecidableEq P] (L : List (N × P × P)) (f : List P) : ∀ k, (roundsF L k f).length ≤ f.length + k * L.length
  | 0 => by simp [roundsF]
  | k + 1 => by
    have h := rounds_len L f k
    have q := fold_len L (roundsF L k f)
    show (L.foldl turnF (roundsF L k f)).length ≤ _
    rw [Nat.succ_mul]
    omega
theorem cutV_from1 (xs : List V) : cutV xs (some 1) none = xs.drop 1 := by
  have e : (1 : Int) = ((1 : Nat) : Int) := rfl
  unfold cutV
  rw [e, HT.sIx_nat, HT.sIx_none]
  cases xs with
  | nil => rfl
  | cons x r =>
    rw [show min 1 (x :: r).length = 1 from Nat.min_eq_left (by simp)]
    show List.take ((x :: r).length - 1) r = r
    rw [List.length_cons, Nat.add_sub_cancel]
    exact List.take_length
section
variable {P : Program} {w : World} {K : PySem.W.Frag} {mg : Str → Option Value} {base : Heap}
theorem scLeads : FnScope ["_law_links", "_law_first", "_law_second", "_law_found", "_law_turn", "_law_link"] ["_law_links", "_law_first", "_law_second"] (defScope sLLeads) := ⟨rfl, rfl, rfl, by decide +kernel, rfl, by decide +kernel, by decide +kernel⟩
def spLeads : Sp := fun vs H Q _ => ∃ (a : Addr) (x y : Str) (M : Lks), vs = [.ref a, .str x, .str y] ∧ LksAt H a M ∧ M.length ≤ 10 ∧ ∀ H', Same H H' → Q (.bl (decide (y ∈ (roundsF M 10 [x]).drop 1))) H'
theorem ok_leads {f : Addr} {fd : FuncData} (F : Fun K "_law_leads" "_law_leads" sLLeads f fd) (B : Bl mg) : FnOk P w K mg base CX0 1 f fd ["_law_links", "_law_first", "_law_second"] spLeads := by
  refine F.ok scLeads (fun vs H Q E h => ?_) (fun cdv A outer s H vs Q E hr h => ?_)
  · obtain ⟨a, x, y, M, rfl, _⟩ := h
    rfl
  · obtain ⟨a, x, y, M, rfl, ⟨ts, ea, tri⟩, hM, k⟩ := h
    have nd := scLeads.nd
    refine ⟨_, pss_cons (ps_set (i := 3) nd rfl (.inl rfl) (pe_lst (pa_cons (pv 1) pa_nil)))
      (pss_cons (ps_for PassesOwn.never rfl (pi_range1 (by rfl) B.range (pa_cons pe_int pa_nil)) (pg_name (i := 4) nd rfl (.inl rfl))
        (pss_one (ps_for PassesOwn.never rfl (pi_list (pv 0)) (pg_name (i := 5) nd rfl (.inl rfl))
          (pss_one (ps_if (PW.pt (pw_and (pt_cmpR op_in_seq (pe_ix ix_tup (pv 5) pe_int (fun _ _ => rfl)) (pv 3) (by rfl)) (pw_and1 (pt_cmpR op_notIn_seq (pe_ix ix_tup (pv 5) pe_int (fun _ _ => rfl)) (pv 3) (by rfl)))))
            (pss_one (ps_expr (pe_bm PySem.F.plainAttrs_list PySem.F.slot_list_append PySem.F.type_list_append mt_append (pv 3) (pa_cons (pe_ix ix_tup (pv 5) pe_int (fun _ _ => rfl)) pa_nil)))) pss_nil)))))
      (pss_one (ps_ret (pe_cmpR op_in_seq (pv 2) (pe_slice sl_list (pv 3) (po_some pe_int) po_none) (by rfl))))), ?_⟩
    have htl : ts.length = M.length := tri.len
    refine ⟨_, rfl, (by show 1 ≤ sizeLine; decide), fun p np => ?_⟩
    refine ⟨10, rfl, by decide, by decide, ?_⟩
    refine for_range (lo := 0) (n := 10) (fun i σ H' => ∃ v4 v5, σ = [some (.ref a), some (.str x), some (.str y), some (.ref p), v4, v5] ∧ Same H H' ∧ H' p = some (.lst (stz (roundsF M i [x]))))
      ⟨none, none, rfl, same_upd np, upd_same⟩ ?_ ?_
    · rintro i σ H1 hi ⟨v4, v5, rfl, s1, e1⟩
      refine ⟨_, rfl, a, rfl, ⟨_, SqL.of (s1 _ _ ea)⟩, for_list (K := K) (a := a) (xs := refs ts) (fun j σ H' => ∃ v4 v5, σ = [some (.ref a), some (.str x), some (.str y), some (.ref p), v4, v5] ∧ Same H H' ∧ H' p = some (.lst (stz ((M.take j).foldl turnF (roundsF M i [x])))))
        ⟨_, v5, rfl, s1, e1⟩ (fun j σ H' _ ⟨_, _, _, s2, _⟩ => SqL.of (s2 _ _ ea)) ?_ ?_⟩
      · rintro j r σ H' hr ⟨w4, w5, rfl, s2, e2⟩
        have hj : j < M.length := by
          have q := (List.getElem?_eq_some_iff.mp hr).1
          unfold refs at q
          rw [List.length_map, htl] at q
          exact q
        obtain ⟨⟨n, t, h⟩, em⟩ := XL.get_some hj
        obtain ⟨ra, era, tra⟩ := tri.get em
        rw [refs_get era] at hr
        cases hr
        have t2 : H' ra = some (.tup [.str n, .str t, .str h]) := s2 _ _ tra
        have eN : (M.take (j + 1)).foldl turnF (roundsF M i [x]) = turnF ((M.take j).foldl turnF (roundsF M i [x])) (n, t, h) := by
          rw [List.take_add_one, em]
          simp
        generalize hf : (M.take j).foldl turnF (roundsF M i [x]) = fnd at e2 eN
        have hlen : fnd.length ≤ 200 := by
          rw [← hf]
          have q1 := fold_len (M.take j) (roundsF M i [x])
          have q2 := rounds_len M [x] i
          have q3 : i * M.length ≤ 10 * 10 := Nat.mul_le_mul (by omega) hM
          have q4 : (M.take j).length ≤ M.length := by rw [List.length_take]; omega
          simp at q2
          omega
        refine ⟨_, rfl, ra, _, 1, .str t, rfl, rfl, SqT.of t2, at_of (j := 1) rfl rfl, _, rfl, p, _, rfl, .inl (SqL.of e2), rfl, flat_stz _, _, rfl, ?_⟩
        refine iteB (fun h1 => ?_) (fun h1 => ?_)
        · have h1 : t ∈ fnd := of_decide_eq_true (by rw [← in_stz]; exact h1)
          refine ⟨_, rfl, ra, _, 2, .str h, rfl, rfl, SqT.of t2, at_of (j := 2) rfl rfl, _, rfl, p, _, rfl, .inl (SqL.of e2), rfl, flat_stz _, _, rfl, ?_⟩
          refine iteB (fun h2 => ?_) (fun h2 => ?_)
          · have h2 : h ∉ fnd := fun z => by
              have q : (!inV (.str h) (stz fnd)) = true := h2
              rw [in_stz, decide_eq_true z] at q
              cases q
            refine ⟨_, rfl, .inl ⟨rfl, _, SqL.of e2⟩, _, rfl, ra, _, 2, .str h, rfl, rfl, SqT.of t2, at_of (j := 2) rfl rfl, p, _, _, rfl, rfl, e2, ?_, ?_⟩
            · unfold stz
              rw [List.length_map]
              exact small1000 (by omega)
            · refine ⟨_, _, rfl, (fun b o e => ?_), ?_⟩
              · rw [upd_ne (ne_of_none e np)]
                exact s2 b o e
              · rw [upd_same, eN]
                unfold turnF
                rw [if_pos ⟨h1, h2⟩]
                unfold stz
                rw [List.map_append]
                rfl
          · refine ⟨_, _, rfl, s2, ?_⟩
            have h2 : h ∈ fnd := by
              have q : (!inV (.str h) (stz fnd)) = false := h2
              rw [in_stz] at q
              exact of_decide_eq_true (by simpa using q)
            rw [e2, eN]
            unfold turnF
            rw [if_neg (fun z => z.2 h2)]
        · refine iteF ?_
          refine ⟨_, _, rfl, s2, ?_⟩
          have h1 : t ∉ fnd := fun z => by
            have q : inV (.str t) (stz fnd) = false := h1
            rw [in_stz, decide_eq_true z] at q
            cases q
          rw [e2, eN]
          unfold turnF
          rw [if_neg (fun z => h1 z.1)]
      · rintro σ H' ⟨w4, w5, rfl, s2, e2⟩
        refine ⟨_, _, rfl, s2, ?_⟩
        rw [e2]
        unfold refs
        rw [List.length_map, htl, List.take_length]
        rfl
    · rintro σ H' ⟨v4, v5, rfl, s1, e1⟩
      refine ⟨_, rfl, _, rfl, 1, rfl, p, _, rfl, SqL.of e1, fun q nq => ?_⟩
      rw [cutV_from1]
      have em : (stz (roundsF M 10 [x])).drop 1 = stz ((roundsF M 10 [x]).drop 1) := by unfold stz; rw [List.map_drop]
      rw [em]
      refine ⟨q, _, rfl, .inl (SqL.of upd_same), rfl, flat_stz _, ?_⟩
      have := k _ (s1.trans (same_upd (o := .lst (stz ((roundsF M 10 [x]).drop 1))) nq))
      rw [← in_stz] at this
      exact this
end
end XW

namespace XW
open PySem L2 XL
/-- a way at r; ways in a list at a -/
def WayAt (H : Hp) (r : Addr) (w : List Str) : Prop := H r = some (.tup (stz w))
def WaysAt (H : Hp) (a : Addr) (ws : List (List Str)) : Prop := ∃ rs, H a = some (.lst (refs rs)) ∧ A2 (WayAt H) rs ws
theorem WaysAt.same {H H' : Hp} {a : Addr} {ws : List (List Str)} (h : WaysAt H a ws) (s : Same H H') : WaysAt H' a ws := let ⟨rs, e, t⟩ := h; ⟨rs, s _ _ e, t.mono fun _ _ q => s _ _ q⟩
theorem LksAt.same {H H' : Hp} {a : Addr} {M : Lks} (h : LksAt H a M) (s : Same H H') : LksAt H' a M := let ⟨rs, e, t⟩ := h; ⟨rs, s _ _ e, t.mono fun _ _ q => s _ _ q⟩
theorem refs_len {rs : List Addr} : (refs rs).length = rs.length := by unfold refs; rw [List.length_map]
theorem stz_len {rs : List Str} : (stz rs).length = rs.length := by unfold stz; rw [List.length_map]
/-- numbers by names -/
def intD (f : Str → Int) (ks : List Str) : List (Key × V) := ks.map fun n => (Sum.inr n, V.int (f n))
theorem intD_at (f : Str → Int) : ∀ {ks : List Str} {n : Str}, n ∈ ks → valV (intD f ks) (Sum.inr n) = some (.int (f n))
  | [], _, h => absurd h List.not_mem_nil
  | k :: ks, n, h => by
    by_cases z : k = n
    · subst z
      exact valV_pos (p := (Sum.inr k, V.int (f k))) rfl
    · have e : ¬ (Sum.inr k : Key) = Sum.inr n := fun q => z (Sum.inr.inj q)
      show valV ((Sum.inr k, V.int (f k)) :: intD f ks) (Sum.inr n) = _
      rw [valV_neg (p := (Sum.inr k, V.int (f k))) e]
      exact intD_at f ((List.mem_cons.mp h).resolve_left fun q => z q.symm)
theorem intD_no (f : Str → Int) : ∀ {ks : List Str} {n : Str}, n ∉ ks → valV (intD f ks) (Sum.inr n) = none
  | [], _, _ => rfl
  | k :: ks, n, h => by
    have e : ¬ (Sum.inr k : Key) = Sum.inr n := fun q => h (by rw [Sum.inr.inj q]; exact List.mem_cons_self)
    show valV ((Sum.inr k, V.int (f k)) :: intD f ks) (Sum.inr n) = _
    rw [valV_neg (p := (Sum.inr k, V.int (f k))) e]
    exact intD_no f fun q => h (List.mem_cons_of_mem _ q)
section
variable {P : Program} {w : World} {K : PySem.W.Frag} {mg : Str → Option Value} {base : Heap}
/-! ### _law_loads -/
theorem scLoads : FnScope ["_law_links", "_law_ways_here", "_law_amounts_here", "_law_loads_here", "_law_name", "_law_tail", "_law_head", "_law_k"] ["_law_links", "_law_ways_here", "_law_amounts_here"] (defScope sLLoads) := ⟨rfl, rfl, rfl, by decide +kernel, rfl, by decide +kernel, by decide +kernel⟩
def spLoads : Sp := fun vs H Q _ => ∃ (a b c : Addr) (M : Lks) (ws : List (List Str)) (A : List Int), vs = [.ref a, .ref b, .ref c] ∧ LksAt H a M ∧ (M.map (·.1)).Nodup ∧ M.length ≤ 10 ∧ WaysAt H b ws ∧ ws.length ≤ 16000000 ∧ H c = some (.lst (A.map V.int)) ∧ A.length = ws.length ∧
  ∀ p H', Same H H' → H p = none → H' p = some (.dK (intD (wload (ws.zip A)) (M.map (·.1)))) → Q (.ref p) H'
/-- the amounts picked for a name, up to a place -/
def picked (ws : List (List Str)) (A : List Int) (n : Str) (i : Nat) : List Int := (((ws.zip A).take i).filter fun w => decide (n ∈ w.1)).map (·.2)
theorem picked_step {ws : List (List Str)} {A : List Int} {n : Str} {i : Nat} {w : List Str} {x : Int} (hw : ws[i]? = some w) (hx : A[i]? = some x) : picked ws A n (i + 1) = picked ws A n i ++ (if n ∈ w then [x] else []) := by
  have e : (ws.zip A)[i]? = some (w, x) := by
    rw [List.getElem?_zip_eq_some]
    exact ⟨hw, hx⟩
  unfold picked
  rw [List.take_add_one, e, List.filter_append, List.map_append]
  congr 1
  by_cases z : n ∈ w <;> simp [z]
theorem picked_sum (ws : List (List Str)) (A : List Int) (n : Str) : (picked ws A n (ws.zip A).length).sum = wload (ws.zip A) n := by
  unfold picked wload
  rw [List.take_length]
  induction ws.zip A with
  | nil => rfl
  | cons w l ih =>
    rw [List.filter_cons, List.map_cons, sumI_cons, ← ih]
    by_cases z : n ∈ w.1
    · simp [z]
    · simp [z]
theorem ok_loads {f : Addr} {fd : FuncData} (F : Fun K "_law_loads" "_law_loads" sLLoads f fd) (B : Bl mg) : FnOk P w K mg base CX0 1 f fd ["_law_links", "_law_ways_here", "_law_amounts_here"] spLoads := by
  refine F.ok scLoads (fun vs H Q E h => ?_) (fun cdv A outer s H vs Q E hr h => ?_)
  · obtain ⟨a, b, c, M, ws, A, rfl, _⟩ := h
    rfl
  · obtain ⟨a, b, c, M, ws, Am, rfl, ⟨ts, ea, tri⟩, hnd, hM, ⟨rs, eb, way⟩, hws, ec, hA, k⟩ := h
    have nd := scLoads.nd
    have hu := hu_of hr
    refine ⟨_, pss_cons (ps_set (i := 3) nd rfl (.inl rfl) pe_dnewK)
      (pss_cons (ps_for PassesOwn.never rfl (pi_list (pv 0)) (pg_tup rfl (pgs_cons (pg_name (i := 4) nd rfl (.inr rfl)) (pgs_cons (pg_name (i := 5) nd rfl (.inl rfl)) (pgs_cons (pg_name (i := 6) nd rfl (.inl rfl)) pgs_nil))))
        (pss_one (ps_dput hu (pv 3) (pv 4) (pe_callB (cr_sum rfl) (by rfl) B.sum (by decide +kernel) (pa_cons (pe_lc (own := [("_law_k", 7)]) (g := gName 7) (tt := tTest (tOp (rIn K false) (tVar 4) (tOp (rIxL K) (tVar 1) (tVar 7)))) (te := tOp (rIxL K) (tVar 2) (tVar 7)) rfl nd (pi_range1 (by rfl) B.range (pa_cons (pe_callB call_len_seq (by rfl) B.len PySem.boot_len (pa_cons (pv 1) pa_nil)) pa_nil))
          (blkOk_by (own := [("_law_k", 7)]) (N := ["_law_links", "_law_ways_here", "_law_amounts_here", "_law_loads_here", "_law_name", "_law_tail", "_law_head", "_law_k"]) (sc := defScope sLLoads) (by decide +kernel))
          (fun _ _ _ _ _ => pg_name (i := 7) nd rfl (.inl rfl)) (fun _ _ _ _ _ => pts_one (pt_cmpR op_in_seq (pv 4) (pe_ix ix_list (pv 1) (pv 7) (fun _ _ => rfl)) (by rfl))) (fun _ _ _ _ _ => pe_ix ix_list (pv 2) (pv 7) (fun _ _ => rfl))) pa_nil)) rfl)))
      (pss_one (ps_ret (pv 3)))), ?_⟩
    refine fun p np => ?_
    have htl : (refs ts).length = M.length := by rw [refs_len, tri.len]
    have hrl : (refs rs).length = ws.length := by rw [refs_len, way.len]
    refine ⟨_, rfl, a, rfl, ⟨_, SqL.of (same_upd np _ _ ea)⟩, for_list (K := K) (a := a) (xs := refs ts) (fun i σ H' => ∃ v4 v5 v6, σ = [some (.ref a), some (.ref b), some (.ref c), some (.ref p), v4, v5, v6, none] ∧ Same H H' ∧ H' p = some (.dK (intD (wload (ws.zip Am)) ((M.take i).map (·.1)))))
      ⟨none, none, none, rfl, same_upd np, upd_same⟩ (fun i σ H' _ ⟨_, _, _, _, s1, _⟩ => SqL.of (s1 _ _ ea)) ?_ ?_⟩
    · rintro i r σ H1 hr' ⟨v4, v5, v6, rfl, s1, e1⟩
      have hi : i < M.length := by rw [← htl]; exact (List.getElem?_eq_some_iff.mp hr').1
      obtain ⟨⟨n, t, h⟩, em⟩ := XL.get_some hi
      obtain ⟨ra, era, tra⟩ := tri.get em
      rw [refs_get era] at hr'
      cases hr'
      refine ⟨ra, _, rfl, SqT.of (s1 _ _ tra), rfl, _, _, rfl, _, _, rfl, _, _, rfl, rfl, ?_⟩
      refine ⟨_, rfl, b, _, rfl, .inl (SqL.of (s1 _ _ eb)), _, rfl, by omega, by omega, fun D nD => ?_⟩
      have npD : p ≠ D := ne_of_none e1 nD
      refine lc_range (lo := 0) (n := (refs rs).length) (fun j H' => Same H1 H' ∧ H' D = some (.lst ((picked ws Am n j).map V.int))) ⟨same_upd nD, upd_same⟩ ?_ ?_
      · rintro j H' hj ⟨s2, e2⟩
        rw [hrl] at hj
        obtain ⟨wy, ew⟩ := XL.get_some hj
        obtain ⟨rb, erb, wyb⟩ := way.get ew
        obtain ⟨x, ex⟩ := XL.get_some (show j < Am.length by omega)
        have hx : (Am.map V.int)[j]? = some (.int x) := by rw [List.getElem?_map, ex]; rfl
        have s3 := s1.trans s2
        refine ⟨rfl, _, rfl, _, rfl, _, rfl, b, _, _, .ref rb, rfl, rfl, SqL.of (s3 _ _ eb), at_of (j := j) (by omega) (refs_get erb), rb, _, rfl, .inr (SqT.of (s3 _ _ wyb)), rfl, flat_stz _, _, rfl, ?_⟩
        refine iteB (fun h1 => ?_) (fun h1 => ?_)
        · have h1 : n ∈ wy := of_decide_eq_true (by rw [← in_stz]; exact h1)
          refine ⟨_, rfl, _, rfl, c, _, _, .int x, rfl, rfl, SqL.of (s3 _ _ ec), at_of (j := j) (by omega) hx, _, e2, ?_, ?_, ?_⟩
          · rw [List.length_map]
            refine Nat.lt_of_le_of_lt (m := ws.length) ?_ (Nat.lt_of_le_of_lt hws (by decide))
            unfold picked
            rw [List.length_map]
            refine Nat.le_trans (List.length_filter_le _ _) ?_
            rw [List.length_take, List.length_zip]
            omega
          · intro y o e
            rw [upd_ne (ne_of_none e nD)]
            exact s2 y o e
          · rw [upd_same, picked_step ew ex, if_pos h1, List.map_append]
            rfl
        · have h1 : n ∉ wy := fun z => by
            have q : inV (.str n) (stz wy) = false := h1
            rw [in_stz, decide_eq_true z] at q
            cases q
          refine ⟨s2, ?_⟩
          rw [e2, picked_step ew ex, if_neg h1, List.append_nil]
      · rintro H' ⟨s2, e2⟩
        have hz : (refs rs).length = (ws.zip Am).length := by rw [hrl, List.length_zip]; omega
        rw [hz] at e2
        refine ⟨D, _, rfl, SqL.of e2, _, rfl, _, rfl, p, _, rfl, .inl ⟨_, Sum.inr n, s2 _ _ e1, rfl, ?_, rfl⟩, ?_⟩
        · unfold intD
          rw [List.length_map, List.length_map, List.length_take]
          exact small1000 (by omega)
        · refine ⟨_, _, _, rfl, (fun y o e => ?_), ?_⟩
          · rw [upd_ne (ne_of_none e np)]
            exact s2 _ _ (s1 _ _ e)
          · rw [upd_same, picked_sum, putK_new]
            · have e3 : (M.take (i + 1)).map (·.1) = (M.take i).map (·.1) ++ [n] := by
                rw [List.take_add_one, em, List.map_append]
                rfl
              rw [e3]
              unfold intD
              rw [List.map_append]
              rfl
            · refine intD_no _ fun hm => ?_
              rw [List.map_take] at hm
              obtain ⟨q, hq⟩ := List.mem_iff_getElem?.mp hm
              have hqi : q < i := by
                have := get_lt hq
                rw [List.length_take] at this
                omega
              rw [List.getElem?_take_of_lt hqi] at hq
              have hi' : (M.map (·.1))[i]? = some n := by rw [List.getElem?_map, em]; rfl
              have := get_inj hnd hq hi'
              omega
    · rintro σ H' ⟨v4, v5, v6, rfl, s1, e1⟩
      rw [htl, List.take_length] at e1
      exact ⟨_, rfl, k p H' s1 np e1⟩
end
end XW

namespace XW
open PySem L2 XL
/-- a dict of ratios by names: a third of f -/
def RatKv (C : Addr) (H : Hp) (f : Str → Int) (kv : Key × V) (n : Str) : Prop := ∃ r, kv = (Sum.inr n, V.ref r) ∧ RatAt C H r (R3 (f n))
def RatD (C : Addr) (H : Hp) (p : Addr) (f : Str → Int) (ks : List Str) : Prop := ∃ kvs, H p = some (.dK kvs) ∧ A2 (RatKv C H f) kvs ks
theorem RatD.same {C : Addr} {H H' : Hp} {p : Addr} {f : Str → Int} {ks : List Str} (r : RatD C H p f ks) (s : Same H H') : RatD C H' p f ks :=
  let ⟨kvs, e, t⟩ := r; ⟨kvs, s _ _ e, t.mono fun _ _ ⟨q, e1, e2⟩ => ⟨q, e1, e2.same s⟩⟩
theorem ratKv_at {C : Addr} {H : Hp} {f : Str → Int} : ∀ {kvs : List (Key × V)} {ks : List Str}, A2 (RatKv C H f) kvs ks → ∀ {n : Str}, n ∈ ks → ∃ r, valV kvs (Sum.inr n) = some (.ref r) ∧ RatAt C H r (R3 (f n))
  | _, _, .nil, _, h => absurd h List.not_mem_nil
  | _, _, .cons (a := a) (b := b) (l := l) (m := m) r t, n, h => by
    obtain ⟨q, e1, e2⟩ := r
    by_cases z : b = n
    · subst z
      rw [e1]
      exact ⟨q, valV_pos (p := (Sum.inr b, V.ref q)) rfl, e2⟩
    · have e : ¬ (Sum.inr b : Key) = Sum.inr n := fun q => z (Sum.inr.inj q)
      obtain ⟨r', h1, h2⟩ := ratKv_at t ((List.mem_cons.mp h).resolve_left fun q => z q.symm)
      refine ⟨r', ?_, h2⟩
      rw [e1, valV_neg (p := (Sum.inr b, V.ref q)) e]
      exact h1
theorem ratKv_no {C : Addr} {H : Hp} {f : Str → Int} : ∀ {kvs : List (Key × V)} {ks : List Str}, A2 (RatKv C H f) kvs ks → ∀ {n : Str}, n ∉ ks → valV kvs (Sum.inr n) = none
  | _, _, .nil, _, h => rfl
  | _, _, .cons (a := a) (b := b) (l := l) (m := m) r t, n, h => by
    obtain ⟨q, e1, e2⟩ := r
    have e : ¬ (Sum.inr b : Key) = Sum.inr n := fun q => h (by rw [Sum.inr.inj q]; exact List.mem_cons_self)
    rw [e1, valV_neg (p := (Sum.inr b, V.ref q)) e]
    exact ratKv_no t fun q => h (List.mem_cons_of_mem _ q)
section
variable {P : Program} {w : World} {K : PySem.W.Frag} {mg : Str → Option Value} {base : Heap}
theorem scRatios : FnScope ["_law_loads_here", "_law_bottom", "_law_told", "_law_name"] ["_law_loads_here", "_law_bottom"] (defScope sLRatios) := ⟨rfl, rfl, rfl, by decide +kernel, rfl, by decide +kernel, by decide +kernel⟩
def spRatios (C : Addr) : Sp := fun vs H Q _ => ∃ (d : Addr) (f : Str → Int) (ks : List Str), vs = [.ref d, .int 3] ∧ H d = some (.dK (intD f ks)) ∧ ks.Nodup ∧ ks.length ≤ 100 ∧
  ∀ p H', Same H H' → H p = none → RatD C H' p f ks → Q (.ref p) H'
theorem ok_ratios {f fI C : Addr} {fd fdI : FuncData} (F : Fun K "_law_ratios" "_law_ratios" sLRatios f fd) (T : RTx K mg C)
    (M : Mk K C fI) (GI : FnOk P w K mg base CX0 2 fI fdI ["self", "top", "bottom"] (spRInit C)) (bI : Binds K fdI ["self", "top", "bottom"] []) : FnOk P w K mg base CX0 4 f fd ["_law_loads_here", "_law_bottom"] (spRatios C) := by
  refine F.ok scRatios (fun vs H Q E h => ?_) (fun cdv A outer s H vs Q E hr h => ?_)
  · obtain ⟨d, g, ks, rfl, _⟩ := h
    rfl
  · obtain ⟨d, g, ks, rfl, ed, hnd, hks, k⟩ := h
    have nd := scRatios.nd
    have hu := hu_of hr
    refine ⟨_, pss_cons (ps_set (i := 2) nd rfl (.inl rfl) pe_dnewK)
      (pss_cons (ps_lock (ps_for PassesOwn.never rfl (pi_keys (pv 0)) (pg_name (i := 3) nd rfl (.inl rfl))
        (pss_one (ps_dput hu (pv 2) (pv 3) (pe_make M GI hr (by rfl) T.mgC bI .nil pass0 (pa_cons (pe_dget hu (pv 0) (pv 3) (fun _ _ => rfl)) (pa_cons (pv 1) pa_nil))) rfl))))
      (pss_one (ps_ret (pv 2)))), ?_⟩
    refine fun p np => ?_
    have npd : p ≠ d := (ne_of_none ed np).symm
    refine ⟨d, .dK (intD g ks), same_upd np _ _ ed, True.intro, fun od => ?_⟩
    generalize hH1 : upd (upd H p (.dK [])) d (.frz od (.dK (intD g ks))) = H1
    have e1d : H1 d = some (.frz od (.dK (intD g ks))) := by rw [← hH1]; exact upd_same
    have e1p : H1 p = some (.dK []) := by rw [← hH1, upd_ne npd, upd_same]
    refine ⟨_, rfl, d, od, rfl, .inl ⟨_, e1d, ?_⟩⟩
    have hlen : (intD g ks).length = ks.length := by unfold intD; rw [List.length_map]
    -- all but the new dict is kept
    refine for_it walk_keys (fun i σ H' => ∃ v, σ = [some (.ref d), some (.int 3), some (.ref p), v] ∧ (∀ b o, b ≠ p → H1 b = some o → H' b = some o) ∧ RatD C H' p g (ks.take i))
      ⟨none, rfl, fun _ _ _ e => e, [], e1p, .nil⟩ (fun i σ H' _ ⟨_, _, s1, _⟩ => s1 d _ npd.symm e1d) ?_ ?_
    · rintro i x σ H2 H3 hi ⟨v, rfl, s1, kvs, e2, t2⟩ ⟨rfl, kk, vv, ek, rfl⟩
      rw [hlen] at hi
      obtain ⟨n, en⟩ := XL.get_some hi
      have ek' : (intD g ks)[i]? = some (Sum.inr n, V.int (g n)) := by unfold intD; rw [List.getElem?_map, en]; rfl
      rw [ek'] at ek
      cases ek
      have e3d := s1 d _ npd.symm e1d
      refine ⟨_, rfl, _, rfl, d, .int (g n), rfl, .inl ⟨_, Sum.inr n, .inr ⟨od, e3d⟩, rfl, (intD_at g (List.mem_of_getElem? en)).symm⟩, _, rfl, ?_⟩
      refine fun r dx nr ndx nex => ⟨r, dx, g n, 3, rfl, upd_same, by decide, by decide, fun H4 s4' e4' => ⟨rfl, ?_⟩⟩
      obtain ⟨s4, ra⟩ := rat_facts nr ndx s4' e4'
      have e4 := s4 _ _ e2
      have t4 : A2 (RatKv C H4 g) kvs (ks.take i) := t2.mono fun _ _ ⟨q, a1, a2⟩ => ⟨q, a1, a2.same s4⟩
      have hkl : kvs.length < sizeLine := by
        rw [t2.len, List.length_take]
        exact small1000 (by omega)
      have hno : valV kvs (Sum.inr n) = none := ratKv_no t2 fun hm => by
        obtain ⟨q, hq⟩ := List.mem_iff_getElem?.mp hm
        have hqi : q < i := by
          have := get_lt hq
          rw [List.length_take] at this
          omega
        rw [List.getElem?_take_of_lt hqi] at hq
        have := get_inj hnd hq en
        omega
      refine ⟨_, rfl, _, rfl, p, _, rfl, .inl ⟨kvs, Sum.inr n, e4, rfl, hkl, rfl⟩, ?_⟩
      have keep : ∀ (q : Addr) (z : Int × Int), RatAt C H4 q z → RatAt C (upd H4 p (.dK (putK kvs (Sum.inr n) (.ref r)))) q z := fun q z ⟨dx, e⟩ => ⟨dx, by
        rw [upd_ne (ne_of e e4 (fun z => nomatch z))]
        exact e⟩
      refine ⟨_, rfl, fun b o hb e => ?_, kvs ++ [(Sum.inr n, .ref r)], ?_, ?_⟩
      · rw [upd_ne hb]
        exact s4 _ _ (s1 b o hb e)
      · rw [upd_same, putK_new _ hno]
      · rw [List.take_add_one, en]
        exact (t4.mono fun _ _ ⟨q, a1, a2⟩ => ⟨q, a1, keep _ _ a2⟩).snoc ⟨r, rfl, keep _ _ ra⟩
    · rintro σ H' ⟨v, rfl, s1, kvs, e2, t2⟩
      have eD := s1 d _ npd.symm e1d
      rw [hlen, List.take_length] at t2
      refine ⟨eD, ?_⟩
      have keep : ∀ (q : Addr) (z : Int × Int), RatAt C H' q z → RatAt C (upd H' d (.dK (intD g ks))) q z := fun q z ⟨dx, e⟩ => ⟨dx, by
        rw [upd_ne (ne_of e eD (fun z => nomatch z))]
        exact e⟩
      refine ⟨_, rfl, k p _ (fun b o e => ?_) np ⟨kvs, by rw [upd_ne npd]; exact e2, t2.mono fun _ _ ⟨q, a1, a2⟩ => ⟨q, a1, keep _ _ a2⟩⟩⟩
      by_cases z : b = d
      · subst z
        rw [ed] at e
        rw [upd_same]
        exact e
      · rw [upd_ne z]
        refine s1 b o (ne_of_none e np) ?_
        rw [← hH1, upd_ne z, upd_ne (ne_of_none e np)]
        exact e
end
end XW

/-! sorted(xs) of a list of tuples of texts. -/
namespace XW
open PySem L2 XL
def encW (w : List Str) : PyData := .tuple (w.map PyData.str)
/-- the ways in the order of tuples of texts -/
def leW : List Str → List Str → Bool := PySem.W.dataLe false encW
def sortW (ws : List (List Str)) : List (List Str) := ws.mergeSort leW
theorem alike_strs : ∀ xs ys : List Str, PySem.W.alikeAll (xs.map PyData.str) (ys.map PyData.str) = true
  | [], _ => by simp [PySem.W.alikeAll]
  | _ :: _, [] => by simp [PySem.W.alikeAll]
  | x :: xs, y :: ys => by
    have h := alike_strs xs ys
    simp [PySem.W.alikeAll, PySem.W.alike, h]
theorem depth_strs : ∀ xs : List Str, PyData.depthAll (xs.map PyData.str) = 0
  | [] => by simp [PyData.depthAll]
  | x :: xs => by
    have h := depth_strs xs
    simp [PyData.depthAll, PyData.depth, h]
theorem reads_strs {h : Heap} : ∀ {w : List Str} {its : List Value}, Vals (stz w) its → ReadsAll h its (w.map PyData.str) []
  | [], _, r => by
    cases r
    exact .nil
  | x :: w, _, r => by
    cases r with
    | cons a t =>
      obtain ⟨tk, rfl⟩ := a
      exact ReadsAll.cons (as := []) (bs := []) (Reads.str x tk) (reads_strs t)
theorem each_of {H : Hp} {P : Value → List Str → Prop} (hp : ∀ r w, WayAt H r w → P (.ref r) w) : ∀ {rs : List Addr} {ws : List (List Str)} {its : List Value}, A2 (WayAt H) rs ws → Vals (refs rs) its → PySem.W.EachIs P its ws
  | _, _, _, .nil, r => by
    cases r
    exact .nil
  | _, _, _, .cons a t, r => by
    cases r with
    | cons b u =>
      cases b
      exact .cons (hp _ _ a) (each_of hp t u)
theorem of_each {H : Hp} : ∀ {its : List Value} {ws : List (List Str)}, PySem.W.EachIs (fun v w => ∃ r, v = .ref r ∧ WayAt H r w) its ws → ∃ rs, A2 (WayAt H) rs ws ∧ Vals (refs rs) its
  | _, _, .nil => ⟨[], .nil, .nil⟩
  | _, _, .cons a t => by
    obtain ⟨r, rfl, h⟩ := a
    obtain ⟨rs, t1, t2⟩ := of_each t
    exact ⟨r :: rs, .cons h t1, .cons rfl t2⟩
def rSortT (K : PySem.W.Frag) : List V → Hp → VK → Prop := fun vs H Q => ∃ (a : Addr) (rs : List Addr) (ws : List (List Str)), vs = [.ref a] ∧ H a = some (.lst (refs rs)) ∧ A2 (WayAt H) rs ws ∧ (∀ w ∈ ws, w ≠ []) ∧ ws.length ≤ sizeLine ∧
  ∀ p rs', H p = none → A2 (WayAt H) rs' (sortW ws) → Q (.ref p) (upd H p (.lst (refs rs')))
theorem cr_sortT {X : Cx} (hu : X.A.units + 64 < cLine) : CallR X (.builtin "sorted") (rSortT X.K) := by
  intro pins s σ H vs us Q I r h
  obtain ⟨a, rs, ws, rfl, ha, hw, hne, hl, q⟩ := h
  rw [Vals.ref1 r]
  obtain ⟨z, its, n, rv, eh⟩ := I.hok a _ ha
  have tup : ∀ r w, WayAt H r w → ∃ as, Reads s.heap (.ref r) (encW w) as := fun r w e => by
    obtain ⟨_, its, rv, o, eo, ec, m, ed⟩ := I.hok r _ e
    exact ⟨_, Reads.tuple eo ec ed (reads_strs rv)⟩
  refine PySem.W.sorted_data (enc := encW) (bs := ws) (R := fun v w => ∃ r, v = .ref r ∧ WayAt H r w) ⟨_, eh, rfl, n, rfl⟩ (each_of (fun r w e => ⟨r, rfl, e⟩) hw rv) (each_of tup hw rv) (PySem.W.AllAlike.of fun b b' => ?_) ?_ hl (fun b _ => ?_) fun out ho eo => ?_
  · show PySem.W.alikeAll _ _ = true
    exact alike_strs _ _
  · refine .inl fun d hd => ?_
    obtain ⟨w, hw', rfl⟩ := List.mem_map.mp hd
    have hn := hne w hw'
    cases w with
    | nil => exact absurd rfl hn
    | cons x w => exact ⟨_, _, rfl⟩
  · have e : (encW b).depth = 1 := by
      unfold encW
      rw [PyData.depth, depth_strs]
    rw [e]
    omega
  · obtain ⟨rs', t1, t2⟩ := of_each eo
    obtain ⟨c, hc⟩ := PyProof.Rows.sortedAll_at s.heap its out.toArray
    have hp : s.heap.objs.size ≤ s.heap.objs.size + 1 := Nat.le_succ _
    refine ⟨.ref (s.heap.objs.size + 1), _, I.laid (t' := s.toks) (o := .lst (refs rs')) (fun b o e => PyProof.Rows.sortedAll_old e) hp ⟨?_, out, c, t2, hc⟩, rfl, q _ rs' (I.hok.fresh hp) t1⟩
    rw [t2.length, ho]
    exact hl
/-- what the sort gives, whatever the order before -/
theorem leW_total : PySem.W.TotalLe leW := PySem.W.sortLe_total _ false _
theorem toks_inj : ∀ {xs ys : List Str}, PySem.W.keyToksAll (xs.map PyData.str) = PySem.W.keyToksAll (ys.map PyData.str) → xs = ys
  | [], [], _ => rfl
  | [], _ :: _, h => by simp [PySem.W.keyToksAll] at h
  | _ :: _, [], h => by simp [PySem.W.keyToksAll] at h
  | x :: xs, y :: ys, h => by
    simp only [List.map_cons, PySem.W.keyToksAll, PySem.W.keyToks, List.singleton_append, List.cons.injEq, Sum.inr.injEq, true_and] at h
    rw [PySem.W.str_of_cps h.1, toks_inj h.2]
theorem leW_anti {a b : List Str} (h1 : leW a b = true) (h2 : leW b a = true) : a = b := by
  have e : PySem.W.keyToks (encW a) = PySem.W.keyToks (encW b) := (PyProof.Rows.listOrd PyProof.Rows.itemOrd).total _ _ (by simpa [leW, PySem.W.dataLe, PySem.W.sortLe] using h2) (by simpa [leW, PySem.W.dataLe, PySem.W.sortLe] using h1)
  unfold encW at e
  rw [PySem.W.keyToks, PySem.W.keyToks] at e
  exact toks_inj e
theorem same_leW (c : List Str) : PySem.W.sameRank leW c = fun a => a == c := by
  funext a
  unfold PySem.W.sameRank
  by_cases h : a = c
  · subst h
    rw [leW_total.refl]
    simp
  · have : (a == c) = false := by simpa using h
    rw [this]
    cases h1 : leW c a with
    | false => rfl
    | true =>
      cases h2 : leW a c with
      | false => rfl
      | true => exact absurd (leW_anti h2 h1) h
theorem sortW_perm (ws : List (List Str)) : (sortW ws).Perm ws := List.mergeSort_perm ws leW
theorem sortW_eq {a b : List (List Str)} (h : a.Perm b) : sortW a = sortW b := by
  refine PySem.W.sort_one leW_total _ _ (PySem.W.sort_pairwise leW_total a) (PySem.W.sort_pairwise leW_total b) fun c => ?_
  rw [same_leW, List.filter_beq, List.filter_beq]
  rw [((sortW_perm a).trans (h.trans (sortW_perm b).symm)).count_eq c]
end XW

/-! All ways of a net: by breadth, by depth. -/
namespace XL
section
variable {N P : Type} [DecidableEq N] [DecidableEq P]
/-- what completes a way that stands at a place -/
def cmpl (L : List (N × P × P)) (e : P) (k : Nat) (r : List N × P) : List (List N) := (pf L e k r.2).map (r.1 ++ ·)
/-- a way and one link more -/
def outs (L : List (N × P × P)) (r : List N × P) : List (List N × P) := (L.filter fun l => decide (l.2.1 = r.2)).map fun l => (r.1 ++ [l.1], l.2.2)
theorem cmpl_succ (L : List (N × P × P)) (e : P) (k : Nat) (r : List N × P) : cmpl L e (k + 1) r = (if r.2 = e then [r.1] else []) ++ (outs L r).flatMap (cmpl L e k) := by
  unfold cmpl outs
  rw [pf, List.map_append]
  congr 1
  · by_cases z : r.2 = e
    · rw [if_pos z, if_pos z]; simp
    · rw [if_neg z, if_neg z]; rfl
  · rw [List.map_flatMap, List.flatMap_map]
    refine flat_congr fun l _ => ?_
    rw [List.map_map]
    refine List.map_congr_left fun w _ => ?_
    simp
theorem outs_nil {L : List (N × P × P)} {e : P} (ht : ∀ l ∈ L, l.2.1 ≠ e) (w : List N) : outs L (w, e) = [] := by
  unfold outs
  rw [List.filter_eq_nil_iff.mpr fun l hl => by simpa using ht l hl]
  rfl
theorem outs_path {L : List (N × P × P)} {s : P} {r x : List N × P} (h : Path L s r.1 r.2) (hx : x ∈ outs L r) : Path L s x.1 x.2 := by
  unfold outs at hx
  obtain ⟨⟨n, t, hd⟩, hl, rfl⟩ := List.mem_map.mp hx
  obtain ⟨hl, ht⟩ := List.mem_filter.mp hl
  have ht : t = r.2 := of_decide_eq_true ht
  subst ht
  exact h.append (Path.one hl)
theorem outs_app (M X : List (N × P × P)) (r : List N × P) : outs (M ++ X) r = outs M r ++ outs X r := by
  unfold outs
  rw [List.filter_append, List.map_append]
theorem outs_one (l : N × P × P) (r : List N × P) : outs [l] r = if l.2.1 = r.2 then [(r.1 ++ [l.1], l.2.2)] else [] := by
  unfold outs
  by_cases z : l.2.1 = r.2
  · rw [if_pos z]; simp [z]
  · rw [if_neg z]; simp [z]
theorem outs_weight {L : List (N × P × P)} {s e : P} {rk : P → Nat} (n : Net L s e rk) {b : Nat} (hb : 10 ≤ b) (r : List N × P) : b * weight b rk ((outs L r).map (·.2)) ≤ 10 * b ^ (7 - rk r.2) := by
  have := weight_out n hb r.2
  unfold outs
  rw [List.map_map]
  exact this
theorem weight_one (b : Nat) (rk : P → Nat) (p : P) : weight b rk [p] = b ^ (7 - rk p) := by simp [weight]
theorem weight_cons (b : Nat) (rk : P → Nat) (p : P) (ps : List P) : weight b rk (p :: ps) = b ^ (7 - rk p) + weight b rk ps := by simp [weight]
theorem all_outs {L : List (N × P × P)} {s e : P} {rk : P → Nat} (n : Net L s e rk) : ∀ rows : List (List N × P), weight 10 rk ((rows.flatMap (outs L)).map (·.2)) ≤ weight 10 rk (rows.map (·.2))
  | [] => by simp [weight]
  | r :: rows => by
    have h1 := outs_weight n (Nat.le_refl 10) r
    have h2 := all_outs n rows
    rw [List.flatMap_cons, List.map_append, weight_append, List.map_cons, weight_cons]
    omega
/-! ### by breadth -/
structure Bfs (L : List (N × P × P)) (s e : P) (rk : P → Nat) (i : Nat) (ws : List (List N)) (rows : List (List N × P)) : Prop where
  perm : (ws ++ rows.flatMap (cmpl L e (9 - i))).Perm (pf L e 9 s)
  ne : ∀ r ∈ rows, r.2 ≠ e
  pth : ∀ r ∈ rows, Path L s r.1 r.2
  size : ws.length + weight 10 rk (rows.map (·.2)) ≤ 10000000
theorem bfs_start {L : List (N × P × P)} {s e : P} {rk : P → Nat} (n : Net L s e rk) : Bfs L s e rk 0 [] [([], s)] where
  perm := by
    simp [cmpl]
  ne := fun r h => by
    rw [List.mem_singleton.mp h]
    exact n.se
  pth := fun r h => by
    rw [List.mem_singleton.mp h]
    exact .nil s
  size := by
    rw [List.map_cons, List.map_nil, weight_one]
    have : 10 ^ (7 - rk s) ≤ 10 ^ 7 := Nat.pow_le_pow_right (by decide) (by omega)
    simpa using this
theorem Bfs.next {L : List (N × P × P)} {s e : P} {rk : P → Nat} (n : Net L s e rk) {i : Nat} {ws : List (List N)} {rows : List (List N × P)} (b : Bfs L s e rk i ws rows) (hi : i < 8) :
    Bfs L s e rk (i + 1) (ws ++ ((rows.flatMap (outs L)).filter fun r => decide (r.2 = e)).map (·.1)) ((rows.flatMap (outs L)).filter fun r => !decide (r.2 = e)) where
  perm := by
    refine List.Perm.trans ?_ b.perm
    have e1 : rows.flatMap (cmpl L e (9 - i)) = (rows.flatMap (outs L)).flatMap (cmpl L e (9 - (i + 1))) := by
      rw [List.flatMap_assoc]
      refine flat_congr fun r hr => ?_
      rw [show 9 - i = (9 - (i + 1)) + 1 by omega, cmpl_succ, if_neg (b.ne r hr)]
      rfl
    rw [e1, List.append_assoc]
    refine List.Perm.append_left _ ?_
    obtain ⟨k, hk⟩ : ∃ k, 9 - (i + 1) = k + 1 := ⟨7 - i, by omega⟩
    rw [hk]
    generalize rows.flatMap (outs L) = more
    induction more with
    | nil => exact List.Perm.refl _
    | cons r more ih =>
      rw [List.filter_cons, List.filter_cons, List.flatMap_cons]
      by_cases z : r.2 = e
      · obtain ⟨w, p⟩ := r
        have z : p = e := z
        subst z
        have ew : cmpl L p (k + 1) (w, p) = [w] := by
          rw [cmpl_succ, if_pos rfl, outs_nil n.tail_ne]
          rfl
        rw [ew]
        simp only [decide_true, Bool.not_true, if_true, Bool.false_eq_true, if_false, List.map_cons, List.cons_append, List.nil_append]
        exact ih.cons w
      · simp only [z, decide_false, Bool.not_false, if_true, Bool.false_eq_true, if_false, List.flatMap_cons]
        refine List.Perm.trans ?_ (ih.append_left _)
        rw [← List.append_assoc, ← List.append_assoc]
        exact List.Perm.append_right _ List.perm_append_comm
  ne := fun r h => by
    have := (List.mem_filter.mp h).2
    simpa using this
  pth := fun r h => by
    obtain ⟨q, hq, hr⟩ := List.mem_flatMap.mp (List.mem_filter.mp h).1
    exact outs_path (b.pth q hq) hr
  size := by
    have h1 := all_outs n rows
    have h2 := b.size
    have h3 : ∀ more : List (List N × P), (more.filter fun r => decide (r.2 = e)).length + weight 10 rk ((more.filter fun r => !decide (r.2 = e)).map (·.2)) ≤ weight 10 rk (more.map (·.2)) := by
      intro more
      induction more with
      | nil => simp [weight]
      | cons r more ih =>
        rw [List.filter_cons, List.filter_cons, List.map_cons, weight_cons]
        have h4 : 1 ≤ 10 ^ (7 - rk r.2) := Nat.pow_pos (by decide)
        by_cases z : r.2 = e
        · simp only [z, decide_true, Bool.not_true, if_true, Bool.false_eq_true, if_false, List.length_cons]
          rw [z] at h4
          omega
        · simp only [z, decide_false, Bool.not_false, if_true, Bool.false_eq_true, if_false, List.map_cons, weight_cons]
          omega
    have h5 := h3 (rows.flatMap (outs L))
    rw [List.length_append, List.length_map]
    omega
theorem Bfs.last {L : List (N × P × P)} {s e : P} {rk : P → Nat} {ws : List (List N)} {rows : List (List N × P)} (b : Bfs L s e rk 8 ws rows) : ws.Perm (pf L e 9 s) := by
  have h := b.perm
  have e1 : rows.flatMap (cmpl L e (9 - 8)) = [] := by
    rw [List.flatMap_eq_nil_iff]
    intro r hr
    rw [cmpl_succ, if_neg (b.ne r hr)]
    have : ∀ l : List (List N × P), l.flatMap (cmpl L e 0) = [] := fun l => by
      rw [List.flatMap_eq_nil_iff]
      intro x _
      rfl
    rw [this]
    rfl
  rw [e1, List.append_nil] at h
  exact h
/-- what is appended on the road of one breadth -/
theorem Bfs.more {L : List (N × P × P)} {s e : P} {rk : P → Nat} (n : Net L s e rk) {i : Nat} {ws : List (List N)} {rows : List (List N × P)} (b : Bfs L s e rk i ws rows) {j : Nat} {r : List N × P} (hj : rows[j]? = some r) (k : Nat) :
    ((rows.take j).flatMap (outs L) ++ outs (L.take k) r).length ≤ 10000000 := by
  have h1 := all_outs n rows
  have h2 := b.size
  have h3 := weight_len (show 0 < 10 by decide) rk ((rows.flatMap (outs L)).map (·.2))
  rw [List.length_map] at h3
  have h4 : rows.flatMap (outs L) = (rows.take j).flatMap (outs L) ++ (outs (L.take k) r ++ outs (L.drop k) r) ++ (rows.drop (j + 1)).flatMap (outs L) := by
    rw [← outs_app, List.take_append_drop]
    have : rows = rows.take j ++ r :: rows.drop (j + 1) := by
      have hl := (List.getElem?_eq_some_iff.mp hj).1
      have he := (List.getElem?_eq_some_iff.mp hj).2
      rw [← he, ← List.drop_eq_getElem_cons hl, List.take_append_drop]
    conv => lhs; rw [this]
    rw [List.flatMap_append, List.flatMap_cons, List.append_assoc]
  have h5 := Nat.le_trans h3 h1
  rw [h4] at h5
  simp only [List.length_append] at h5 ⊢
  omega
/-! ### by depth -/
structure Dfs (L : List (N × P × P)) (s e : P) (rk : P → Nat) (found : List (List N)) (waiting : List (List N × P)) : Prop where
  perm : (found ++ waiting.flatMap (cmpl L e 9)).Perm (pf L e 9 s)
  pth : ∀ r ∈ waiting, Path L s r.1 r.2
  size : found.length + weight 10 rk (waiting.map (·.2)) ≤ 10000000
theorem dfs_start {L : List (N × P × P)} {s e : P} {rk : P → Nat} (n : Net L s e rk) : Dfs L s e rk [] [([], s)] where
  perm := (bfs_start n).perm
  pth := (bfs_start n).pth
  size := (bfs_start n).size
/-- how much is to do -/
def todo (rk : P → Nat) (waiting : List (List N × P)) : Nat := weight 11 rk (waiting.map (·.2))
theorem Dfs.less {L : List (N × P × P)} {s e : P} {rk : P → Nat} (n : Net L s e rk) (rest : List (List N × P)) (r : List N × P) : todo rk (rest ++ outs L r) < todo rk (rest ++ [r]) := by
  unfold todo
  rw [List.map_append, List.map_append, weight_append, weight_append, List.map_cons, List.map_nil, weight_one]
  have h := outs_weight n (show 10 ≤ 11 by decide) r
  have := Nat.pow_pos (n := 7 - rk r.2) (show 0 < 11 by decide)
  omega
theorem Dfs.next {L : List (N × P × P)} {s e : P} {rk : P → Nat} (n : Net L s e rk) {found : List (List N)} {rest : List (List N × P)} {r : List N × P} (d : Dfs L s e rk found (rest ++ [r])) :
    Dfs L s e rk (found ++ if r.2 = e then [r.1] else []) (rest ++ outs L r) where
  perm := by
    refine List.Perm.trans ?_ d.perm
    rw [List.flatMap_append, List.flatMap_append, List.flatMap_singleton, List.append_assoc]
    refine List.Perm.append_left _ ?_
    have e1 : cmpl L e 9 r = (if r.2 = e then [r.1] else []) ++ (outs L r).flatMap (cmpl L e 9) := by
      rw [show (9 : Nat) = 8 + 1 from rfl, cmpl_succ]
      congr 1
      refine flat_congr fun x _ => ?_
      unfold cmpl
      rw [pf_stable n.ranked n.low 8 x.2 (by omega)]
    rw [e1]
    rw [← List.append_assoc, ← List.append_assoc]
    exact List.Perm.append_right _ List.perm_append_comm
  pth := fun x hx => by
    rcases List.mem_append.mp hx with h | h
    · exact d.pth x (List.mem_append_left _ h)
    · exact outs_path (d.pth r (List.mem_append_right _ (List.mem_singleton.mpr rfl))) h
  size := by
    have h := d.size
    rw [List.map_append, weight_append, List.map_cons, List.map_nil, weight_one] at h
    rw [List.map_append, weight_append, List.length_append]
    have h4 : 1 ≤ 10 ^ (7 - rk r.2) := Nat.pow_pos (by decide)
    by_cases z : r.2 = e
    · obtain ⟨w, p⟩ := r
      have z : p = e := z
      subst z
      rw [if_pos rfl, outs_nil n.tail_ne]
      simp only [List.length_singleton, List.map_nil]
      have : weight 10 rk ([] : List P) = 0 := rfl
      omega
    · rw [if_neg z]
      have h1 := outs_weight n (Nat.le_refl 10) r
      simp only [List.length_nil]
      omega
theorem Dfs.more {L : List (N × P × P)} {s e : P} {rk : P → Nat} (n : Net L s e rk) {found : List (List N)} {rest : List (List N × P)} {r : List N × P} (d : Dfs L s e rk found (rest ++ [r])) (k : Nat) :
    (rest ++ outs (L.take k) r).length ≤ 10000000 := by
  have h := d.size
  rw [List.map_append, weight_append, List.map_cons, List.map_nil, weight_one] at h
  have h1 := outs_weight n (Nat.le_refl 10) r
  have h2 := weight_len (show 0 < 10 by decide) rk ((outs L r).map (·.2))
  have h3 := weight_len (show 0 < 10 by decide) rk (rest.map (·.2))
  rw [List.length_map] at h2 h3
  have h4 : outs L r = outs (L.take k) r ++ outs (L.drop k) r := by rw [← outs_app, List.take_append_drop]
  rw [h4, List.length_append] at h2
  rw [h4] at h1
  rw [List.length_append]
  omega
theorem Dfs.flen {L : List (N × P × P)} {s e : P} {rk : P → Nat} {found : List (List N)} {waiting : List (List N × P)} (d : Dfs L s e rk found waiting) : found.length + waiting.length ≤ 10000000 := by
  have h := d.size
  have h3 := weight_len (show 0 < 10 by decide) rk (waiting.map (·.2))
  rw [List.length_map] at h3
  omega
theorem Dfs.last {L : List (N × P × P)} {s e : P} {rk : P → Nat} {found : List (List N)} (d : Dfs L s e rk found []) : found.Perm (pf L e 9 s) := by
  have h := d.perm
  rwa [List.flatMap_nil, List.append_nil] at h
/-- what is known of all the ways -/
theorem pf_is {L : List (N × P × P)} {s e : P} {rk : P → Nat} (n : Net L s e rk) (w : List N) : w ∈ pf L e 9 s ↔ Path L s w e := by
  refine ⟨pf_path 9 s w, fun h => path_pf h 9 ?_⟩
  have h1 := h.rank n.ranked
  have h2 := n.low e
  omega
theorem pf_ne {L : List (N × P × P)} {s e : P} {rk : P → Nat} (n : Net L s e rk) : ∀ w ∈ pf L e 9 s, w ≠ [] := fun w h z => by
  subst z
  have p := pf_path 9 s _ h
  cases p
  exact n.se rfl
theorem pf_len {L : List (N × P × P)} {s e : P} {rk : P → Nat} (n : Net L s e rk) : (pf L e 9 s).length ≤ 10000000 := by
  have h := (bfs_start n)
  have h1 := (bfs_start n).next n (by decide)
  have h2 := h1.next n (by decide)
  have h3 := h2.next n (by decide)
  have h4 := h3.next n (by decide)
  have h5 := h4.next n (by decide)
  have h6 := h5.next n (by decide)
  have h7 := h6.next n (by decide)
  have h8 := h7.next n (by decide)
  have q := h8.size
  rw [← h8.last.length_eq]
  omega
theorem pf_some {L : List (N × P × P)} {s e : P} {rk : P → Nat} (n : Net L s e rk) : pf L e 9 s ≠ [] := fun z => by
  obtain ⟨l, hl⟩ : ∃ l, l ∈ L := by
    have := n.pos
    match L, this with
    | l :: _, _ => exact ⟨l, List.mem_cons_self⟩
  obtain ⟨w, hw⟩ := n.frm l hl
  obtain ⟨v, hv⟩ := n.to l hl
  have := (pf_is n _).mpr (hw.append (.cons hl hv))
  rw [z] at this
  cases this
end
end XL

/-! The ways of a net by breadth. -/
namespace XW
open PySem L2 XL
/-- a way and the place where it stands -/
def RowAt (H : Hp) (r : Addr) (x : List Str × Str) : Prop := ∃ a, H r = some (.tup [.ref a, .str x.2]) ∧ WayAt H a x.1
def RowsAt (H : Hp) (a : Addr) (rows : List (List Str × Str)) : Prop := ∃ rs, H a = some (.lst (refs rs)) ∧ A2 (RowAt H) rs rows
theorem RowAt.same {H H' : Hp} {r : Addr} {x : List Str × Str} (h : RowAt H r x) (s : Same H H') : RowAt H' r x := let ⟨a, e, t⟩ := h; ⟨a, s _ _ e, s _ _ t⟩
theorem RowsAt.same {H H' : Hp} {r : Addr} {x : List (List Str × Str)} (h : RowsAt H r x) (s : Same H H') : RowsAt H' r x := let ⟨a, e, t⟩ := h; ⟨a, s _ _ e, t.mono fun _ _ q => q.same s⟩
theorem upd_apart {H : Hp} {d : Addr} {xs ys : List V} (hd : H d = some (.lst xs)) {b : Addr} {zs : List V} (hb : H b = some (.tup zs)) : (upd H d (.lst ys)) b = some (.tup zs) := by
  rw [upd_ne]
  · exact hb
  · rintro rfl
    rw [hb] at hd
    cases hd
theorem RowAt.put {H : Hp} {d : Addr} {xs ys : List V} (hd : H d = some (.lst xs)) {r : Addr} {x : List Str × Str} (h : RowAt H r x) : RowAt (upd H d (.lst ys)) r x := let ⟨a, e, t⟩ := h; ⟨a, upd_apart hd e, upd_apart hd t⟩
theorem none_of {H H' : Hp} (s : Same H H') {p : Addr} (h : H' p = none) : H p = none := by
  cases e : H p with
  | none => rfl
  | some o => rw [s _ _ e] at h; cases h
theorem inner_get {α : Type} {l : List α} {i : Nat} {x : α} (h : l[i]? = some x) : l.take (i + 1) = l.take i ++ [x] := by
  rw [List.take_add_one, h]
  rfl
section
variable {P : Program} {w : World} {K : PySem.W.Frag} {mg : Str → Option Value} {base : Heap}
theorem scWays : FnScope ["_law_links", "_law_start_here", "_law_end", "_law_rows", "_law_ways_here", "_law_turn", "_law_more", "_law_way", "_law_place", "_law_name", "_law_tail", "_law_head", "_law_row"] ["_law_links", "_law_start_here", "_law_end"] (defScope sLWays) := ⟨rfl, rfl, rfl, by decide +kernel, rfl, by decide +kernel, by decide +kernel⟩
def spWays : Sp := fun vs H Q _ => ∃ (a : Addr) (M : Lks) (s e : Str) (rk : Str → Nat), vs = [.ref a, .str s, .str e] ∧ LksAt H a M ∧ Net M s e rk ∧
  ∀ p H', Same H H' → H p = none → WaysAt H' p (sortW (pf M e 9 s)) → Q (.ref p) H'
theorem ok_ways {f : Addr} {fd : FuncData} (F : Fun K "_law_ways" "_law_ways" sLWays f fd) (B : Bl mg) : FnOk P w K mg base CX0 1 f fd ["_law_links", "_law_start_here", "_law_end"] spWays := by
  refine F.ok scWays (fun vs H Q E h => ?_) (fun cdv A outer s H vs Q E hr h => ?_)
  · obtain ⟨a, M, s, e, rk, rfl, _⟩ := h
    rfl
  · obtain ⟨a, M, s, e, rk, rfl, ⟨ts, ea, tri⟩, n, k⟩ := h
    have nd := scWays.nd
    have hu := hr.units
    refine ⟨_, pss_cons (ps_set (i := 3) nd rfl (.inl rfl) (pe_lst (pa_cons (pe_tup (pa_cons (pe_tup pa_nil) (pa_cons (pv 1) pa_nil))) pa_nil)))
      (pss_cons (ps_set (i := 4) nd rfl (.inl rfl) (pe_lst pa_nil))
      (pss_cons (ps_for PassesOwn.never rfl (pi_range1 (by rfl) B.range (pa_cons pe_int pa_nil)) (pg_name (i := 5) nd rfl (.inl rfl))
        (pss_cons (ps_set (i := 6) nd rfl (.inl rfl) (pe_lst pa_nil))
        (pss_cons (ps_for PassesOwn.never rfl (pi_list (pv 3)) (pg_tup rfl (pgs_cons (pg_name (i := 7) nd rfl (.inl rfl)) (pgs_cons (pg_name (i := 8) nd rfl (.inl rfl)) pgs_nil)))
          (pss_one (ps_for PassesOwn.never rfl (pi_list (pv 0)) (pg_tup rfl (pgs_cons (pg_name (i := 9) nd rfl (.inl rfl)) (pgs_cons (pg_name (i := 10) nd rfl (.inl rfl)) (pgs_cons (pg_name (i := 11) nd rfl (.inl rfl)) pgs_nil))))
            (pss_one (ps_if (pt_cmpR op_eq (pv 10) (pv 8) (nomark _))
              (pss_one (ps_expr (pe_bm PySem.F.plainAttrs_list PySem.F.slot_list_append PySem.F.type_list_append mt_append (pv 6) (pa_cons (pe_tup (pa_cons (pe_op op_catA (pv 7) (pe_tup (pa_cons (pv 9) pa_nil))) (pa_cons (pv 11) pa_nil))) pa_nil)))) pss_nil)))))
        (pss_cons (ps_set (i := 4) nd rfl (.inl rfl) (pe_op op_cat (pv 4) (pe_lc (own := [("_law_row", 12)]) (g := gName 12) (tt := tTest (tOp rEq (tOp (rIxT K) (tVar 12) (tC (.int 1))) (tVar 2))) (te := tOp (rIxT K) (tVar 12) (tC (.int 0))) rfl nd (pi_list (pv 6))
            (blkOk_by (own := [("_law_row", 12)]) (N := ["_law_links", "_law_start_here", "_law_end", "_law_rows", "_law_ways_here", "_law_turn", "_law_more", "_law_way", "_law_place", "_law_name", "_law_tail", "_law_head", "_law_row"]) (sc := defScope sLWays) (by decide +kernel))
            (fun _ _ _ _ _ => pg_name (i := 12) nd rfl (.inl rfl)) (fun _ _ _ _ _ => pts_one (pt_cmpR op_eq (pe_ix ix_tup (pv 12) pe_int (fun _ _ => rfl)) (pv 2) (nomark _))) (fun _ _ _ _ _ => pe_ix ix_tup (pv 12) pe_int (fun _ _ => rfl)))))
        (pss_one (ps_setLc (i := 3) (own := [("_law_row", 12)]) (g := gName 12) (tt := tTest (tOp rNe (tOp (rIxT K) (tVar 12) (tC (.int 1))) (tVar 2))) (te := tVar 12)
            rfl nd rfl rfl (sw_true rfl rfl rfl (by decide +kernel)) (pi_list (pv 6))
            (blkOk_by (own := [("_law_row", 12)]) (N := ["_law_links", "_law_start_here", "_law_end", "_law_rows", "_law_ways_here", "_law_turn", "_law_more", "_law_way", "_law_place", "_law_name", "_law_tail", "_law_head", "_law_row"]) (sc := defScope sLWays) (by decide +kernel))
            (fun _ _ _ _ _ => pg_name (i := 12) nd rfl (.inl rfl)) (fun _ _ _ _ _ => pts_one (pt_cmpR op_ne (pe_ix ix_tup (pv 12) pe_int (fun _ _ => rfl)) (pv 2) (nomark _))) (fun _ _ _ _ _ => pv 12)))))))
      (pss_one (ps_ret (pe_callB (cr_sortT hu) (by rfl) B.sorted (by decide +kernel) (pa_cons (pv 4) pa_nil)))))), ?_⟩
    have htl : (refs ts).length = M.length := by rw [refs_len, tri.len]
    have hM := n.len
    refine ⟨(by decide), fun z nz => ⟨_, rfl, (by show 2 ≤ sizeLine; decide), fun r0 nr0 => ⟨(by show 1 ≤ sizeLine; decide), fun pr npr => ⟨(by decide), fun pw npw => ?_⟩⟩⟩⟩
    generalize hH1 : upd (upd H z (.tup [])) r0 (.tup [.ref z, .str s]) = H1 at npr npw
    have s1 : Same H H1 := by rw [← hH1]; exact (same_upd nz).trans (same_upd nr0)
    have ra0 : RowAt H1 r0 ([], s) := by
      refine ⟨z, ?_, ?_⟩
      · rw [← hH1, upd_same]
      · rw [← hH1]
        exact same_upd nr0 _ _ upd_same
    have npr1 : H pr = none := none_of s1 npr
    generalize hH2 : upd H1 pr (.lst [.ref r0]) = H2 at npw
    have s2 : Same H1 H2 := by rw [← hH2]; exact same_upd npr
    have e2 : H2 pr = some (.lst (refs [r0])) := by rw [← hH2]; exact upd_same
    refine ⟨8, rfl, by decide, by decide, ?_⟩
    refine for_range (lo := 0) (n := 8) (fun i σ H' => ∃ r4 r5 v5 v6 v7 v8 v9 v10 v11 ws rows, σ = [some (.ref a), some (.str s), some (.str e), some (.ref r5), some (.ref r4), v5, v6, v7, v8, v9, v10, v11, none] ∧ Same H H' ∧ WaysAt H' r4 ws ∧ RowsAt H' r5 rows ∧ Bfs M s e rk i ws rows)
      ⟨_, _, none, none, none, none, none, none, none, [], [([], s)], rfl, (s1.trans s2).trans (same_upd npw), ⟨[], upd_same, .nil⟩, RowsAt.same (H := H2) ⟨[r0], e2, .cons (ra0.same s2) .nil⟩ (same_upd npw), bfs_start n⟩ ?_ ?_
    · rintro i σ H3 hi ⟨r4, r5, v5, v6, v7, v8, v9, v10, v11, ws, rows, rfl, s3, ⟨as4, e4, w4⟩, ⟨as5, e5, w5⟩, b⟩
      refine ⟨(by decide), fun pm npm => ?_⟩
      have s4 := s3.trans (same_upd (o := .lst []) npm)
      have h5l : (refs as5).length = rows.length := by rw [refs_len, w5.len]
      have n5 : r5 ≠ pm := ne_of_none e5 npm
      have n4 : r4 ≠ pm := ne_of_none e4 npm
      -- the ways one link longer
      refine ⟨_, rfl, r5, rfl, ⟨_, SqL.of (same_upd npm _ _ e5)⟩, for_list (K := K) (a := r5) (xs := refs as5) (fun j σ H' => ∃ v7 v8 v9 v10 v11 more, σ = [some (.ref a), some (.str s), some (.str e), some (.ref r5), some (.ref r4), some (.int (0 + (i : Int))), some (.ref pm), v7, v8, v9, v10, v11, none] ∧ Same H3 H' ∧ RowsAt H' pm more ∧ more = (rows.take j).flatMap (outs M))
        ⟨v7, v8, v9, v10, v11, [], rfl, same_upd npm, ⟨[], upd_same, .nil⟩, rfl⟩ (fun j σ H' _ ⟨_, _, _, _, _, _, _, s5, _⟩ => SqL.of (s5 _ _ e5)) ?_ ?_⟩
      · rintro j r σ H5 hr ⟨v7, v8, v9, v10, v11, more, rfl, s5, ⟨asm, em, wm⟩, hm⟩
        have hj : j < rows.length := by rw [← h5l]; exact (List.getElem?_eq_some_iff.mp hr).1
        obtain ⟨⟨wy, pl⟩, ej⟩ := XL.get_some hj
        obtain ⟨rj, erj, wj⟩ := w5.get ej
        rw [refs_get erj] at hr
        cases hr
        obtain ⟨wa, ewa, wwa⟩ := wj
        refine ⟨rj, _, rfl, SqT.of (s5 _ _ ewa), rfl, _, _, rfl, _, _, rfl, rfl, ?_⟩
        refine ⟨_, rfl, a, rfl, ⟨_, SqL.of (s5 _ _ (s3 _ _ ea))⟩, for_list (K := K) (a := a) (xs := refs ts) (fun q σ H' => ∃ v9 v10 v11 more, σ = [some (.ref a), some (.str s), some (.str e), some (.ref r5), some (.ref r4), some (.int (0 + (i : Int))), some (.ref pm), some (.ref wa), some (.str pl), v9, v10, v11, none] ∧ Same H3 H' ∧ RowsAt H' pm more ∧ more = (rows.take j).flatMap (outs M) ++ outs (M.take q) (wy, pl))
          ⟨v9, v10, v11, more, rfl, s5, ⟨asm, em, wm⟩, by rw [hm]; simp [outs]⟩ (fun j σ H' _ ⟨_, _, _, _, _, s6, _⟩ => SqL.of (s6 _ _ (s3 _ _ ea))) ?_ ?_⟩
        · rintro q r σ H6 hr ⟨v9, v10, v11, more', rfl, s6, ⟨asm', em', wm'⟩, hm'⟩
          have hq : q < M.length := by rw [← htl]; exact (List.getElem?_eq_some_iff.mp hr).1
          obtain ⟨⟨nm, t, h⟩, eq⟩ := XL.get_some hq
          obtain ⟨ra, era, tra⟩ := tri.get eq
          rw [refs_get era] at hr
          cases hr
          have hsz := b.more n ej q
          rw [← hm'] at hsz
          refine ⟨ra, _, rfl, SqT.of (s6 _ _ (s3 _ _ tra)), rfl, _, _, rfl, _, _, rfl, _, _, rfl, rfl, ?_⟩
          refine ⟨_, rfl, _, rfl, rfl, _, rfl, ?_⟩
          have eN : outs (M.take (q + 1)) (wy, pl) = outs (M.take q) (wy, pl) ++ if t = pl then [(wy ++ [nm], h)] else [] := by
            rw [inner_get eq, outs_app, outs_one]
          refine iteB (fun h1 => ?_) (fun h1 => ?_)
          · have h1 : t = pl := by
              have : V.str t = V.str pl := of_decide_eq_true h1
              injection this
            rw [if_pos h1] at eN
            have ewa6 := s6 _ _ (show H3 wa = some (.tup (stz wy)) from wwa)
            -- the tuple of the way
            have fin : ∀ (z : Addr) (H7 : Hp), Same H6 H7 → H7 z = some (.tup (stz (wy ++ [nm]))) → ∀ p, H7 p = none → ∃ v9 v10 v11 mo, [some (.ref a), some (.str s), some (.str e), some (.ref r5), some (.ref r4), some (.int (0 + (i : Int))), some (.ref pm), some (.ref wa), some (.str pl), some (V.str nm), some (V.str t), some (V.str h), none] = [some (.ref a), some (.str s), some (.str e), some (.ref r5), some (.ref r4), some (.int (0 + (i : Int))), some (.ref pm), some (.ref wa), some (.str pl), v9, v10, v11, none] ∧ Same H3 (upd (upd H7 p (.tup [.ref z, .str h])) pm (.lst (refs asm' ++ [.ref p]))) ∧ RowsAt (upd (upd H7 p (.tup [.ref z, .str h])) pm (.lst (refs asm' ++ [.ref p]))) pm mo ∧ mo = (rows.take j).flatMap (outs M) ++ outs (M.take (q + 1)) (wy, pl) := by
              intro z H7 s7 ez p np
              have s8 := s7.trans (same_upd (o := .tup [.ref z, .str h]) np)
              have em8 := s8 _ _ em'
              refine ⟨_, _, _, more' ++ [(wy ++ [nm], h)], rfl, (fun y o ey => ?_), ⟨asm' ++ [p], ?_, ?_⟩, ?_⟩
              · rw [upd_ne (ne_of_none ey npm)]
                exact s8 _ _ (s6 _ _ ey)
              · rw [upd_same]
                unfold refs
                rw [List.map_append]
                rfl
              · refine A2.snoc (wm'.mono fun r x hx => (hx.same s8).put em8) ?_
                exact RowAt.put em8 ⟨z, upd_same, same_upd np _ _ ez⟩
              · rw [hm', eN, List.append_assoc]
            have hwl : wy.length < 1000 := by
              have h1 := (b.pth _ (List.mem_of_getElem? ej)).rank n.ranked
              have h2 := n.low pl
              dsimp only at h1
              omega
            refine ⟨_, rfl, .inl ⟨rfl, _, SqL.of em'⟩, _, rfl, _, rfl, ⟨(by show 1 ≤ sizeLine; decide), fun y ny => ?_⟩⟩
            have s7 := same_upd (o := .tup [.str nm]) ny
            refine ⟨wa, y, stz wy, [.str nm], rfl, rfl, SqT.of (s7 _ _ ewa6), SqT.of upd_same, ?_, fun hz => ?_, fun _ hz => (by cases hz), fun hz _ p np => ?_⟩
            · rw [stz_len]
              exact Nat.le_trans (m := 1000) (by simp; omega) (by decide)
            · refine ⟨_, rfl, (by show 2 ≤ sizeLine; decide), fun p np => ⟨pm, _, _, rfl, rfl, (s7.trans (same_upd np)) _ _ em', ?_, ?_⟩⟩
              · rw [refs_len, wm'.len]
                exact Nat.lt_of_le_of_lt hsz (by decide)
              · refine fin y _ s7 ?_ p np
                have : wy = [] := by
                  cases wy with
                  | nil => rfl
                  | cons _ _ => cases hz
                rw [this]
                exact upd_same
            · refine ⟨_, rfl, (by show 2 ≤ sizeLine; decide), fun p2 np2 => ⟨pm, _, _, rfl, rfl, (s7.trans ((same_upd np).trans (same_upd np2))) _ _ em', ?_, ?_⟩⟩
              · rw [refs_len, wm'.len]
                exact Nat.lt_of_le_of_lt hsz (by decide)
              · refine fin p _ (s7.trans (same_upd np)) ?_ p2 np2
                rw [upd_same]
                unfold stz
                rw [List.map_append]
                rfl
          · have h1 : t ≠ pl := fun z => by
              subst z
              simp at h1
            rw [if_neg h1, List.append_nil] at eN
            exact ⟨_, _, _, more', rfl, s6, ⟨asm', em', wm'⟩, by rw [eN]; exact hm'⟩
        · rintro σ H6 ⟨v9, v10, v11, more', rfl, s6, hmo, hm'⟩
          refine ⟨_, _, _, _, _, more', rfl, s6, hmo, ?_⟩
          rw [hm', htl, List.take_length, inner_get ej, List.flatMap_append, List.flatMap_singleton]
      · rintro σ H5 ⟨v7, v8, v9, v10, v11, more, rfl, s5, ⟨asm, em, wm⟩, hm⟩
        rw [h5l, List.take_length] at hm
        have bn := b.next n hi
        rw [← hm] at bn
        have hml : (refs asm).length = more.length := by rw [refs_len, wm.len]
        have hmz : more.length ≤ 10000000 := by
          have h1 := all_outs n rows
          have h2 := b.size
          have h3 := weight_len (show 0 < 10 by decide) rk (more.map (·.2))
          rw [← hm] at h1
          rw [List.length_map] at h3
          omega
        refine ⟨_, rfl, _, rfl, pm, rfl, ⟨_, SqL.of em⟩, fun D nD => ?_⟩
        refine lc_list (K := K) (a := pm) (xs := refs asm) (fun q H' => Same H5 H' ∧ ∃ bs, H' D = some (.lst (refs bs)) ∧ A2 (WayAt H') bs (((more.take q).filter fun r => decide (r.2 = e)).map (·.1)))
          ⟨same_upd nD, [], upd_same, .nil⟩ (fun q H' _ ⟨s6, _⟩ => SqL.of (s6 _ _ em)) ?_ ?_
        · rintro q r H6 hr ⟨s6, bs, eD, wD⟩
          have hq : q < more.length := by rw [← hml]; exact (List.getElem?_eq_some_iff.mp hr).1
          obtain ⟨⟨wy, pl⟩, eq⟩ := XL.get_some hq
          obtain ⟨rj, erj, wa, ewa, wwa⟩ := wm.get eq
          rw [refs_get erj] at hr
          cases hr
          have ewa6 := s6 _ _ ewa
          refine ⟨rfl, _, rfl, rj, _, 1, .str pl, rfl, rfl, SqT.of ewa6, at_of (j := 1) rfl rfl, _, rfl, rfl, _, rfl, ?_⟩
          have eN : ((more.take (q + 1)).filter fun r => decide (r.2 = e)).map (·.1) = ((more.take q).filter fun r => decide (r.2 = e)).map (·.1) ++ if pl = e then [wy] else [] := by
            rw [inner_get eq, List.filter_append, List.map_append]
            congr 1
            by_cases z : pl = e
            · rw [if_pos z]; simp [z]
            · rw [if_neg z]; simp [z]
          refine iteB (fun h1 => ?_) (fun h1 => ?_)
          · have h1 : pl = e := by
              have : V.str pl = V.str e := of_decide_eq_true h1
              injection this
            rw [if_pos h1] at eN
            refine ⟨_, rfl, rj, _, 0, .ref wa, rfl, rfl, SqT.of ewa6, at_of (j := 0) rfl rfl, refs bs, eD, ?_, ?_, bs ++ [wa], ?_, ?_⟩
            · rw [refs_len, wD.len, List.length_map]
              have := List.length_filter_le (fun r : List Str × Str => decide (r.2 = e)) (more.take q)
              rw [List.length_take] at this
              exact Nat.lt_of_le_of_lt (m := 10000000) (by omega) (by decide)
            · intro y o ey
              rw [upd_ne (ne_of_none ey nD)]
              exact s6 _ _ ey
            · rw [upd_same]
              unfold refs
              rw [List.map_append]
              rfl
            · rw [eN]
              exact A2.snoc (wD.mono fun r x hx => upd_apart eD hx) (upd_apart eD (s6 _ _ wwa))
          · have h1 : pl ≠ e := fun z => by
              subst z
              simp at h1
            rw [if_neg h1, List.append_nil] at eN
            exact ⟨s6, bs, eD, by rw [eN]; exact wD⟩
        · rintro H6 ⟨s6, bs, eD, wD⟩
          rw [hml, List.take_length] at wD
          have s36 := s5.trans s6
          have e46 := s36 _ _ e4
          have w46 : A2 (WayAt H6) as4 ws := w4.mono fun _ _ q => s36 _ _ q
          refine ⟨r4, D, _, _, rfl, rfl, e46, eD, ?_, fun p4 np4 => ?_⟩
          · rw [refs_len, refs_len, w4.len, wD.len]
            have := bn.size
            rw [List.length_append] at this
            exact Nat.le_trans (m := 10000000) (by omega) (by decide)
          · have s7 := s6.trans (same_upd (o := .lst (refs as4 ++ refs bs)) np4)
            refine ⟨_, rfl, pm, rfl, ⟨_, SqL.of (s7 _ _ em)⟩, fun D2 nD2 => ?_⟩
            refine lc_list (K := K) (a := pm) (xs := refs asm) (fun q H' => Same (upd H6 p4 (.lst (refs as4 ++ refs bs))) H' ∧ ∃ bs, H' D2 = some (.lst (refs bs)) ∧ A2 (RowAt H') bs ((more.take q).filter fun r => !decide (r.2 = e)))
              ⟨same_upd nD2, [], upd_same, .nil⟩ (fun q H' _ ⟨s8, _⟩ => SqL.of (s8 _ _ (s7 _ _ em))) ?_ ?_
            · rintro q r H8 hr ⟨s8, bs, eD, wD⟩
              have hq : q < more.length := by rw [← hml]; exact (List.getElem?_eq_some_iff.mp hr).1
              obtain ⟨⟨wy, pl⟩, eq⟩ := XL.get_some hq
              obtain ⟨rj, erj, wa, ewa, wwa⟩ := wm.get eq
              rw [refs_get erj] at hr
              cases hr
              have s58 := s7.trans s8
              have ewa6 := s58 _ _ ewa
              refine ⟨rfl, _, rfl, rj, _, 1, .str pl, rfl, rfl, SqT.of ewa6, at_of (j := 1) rfl rfl, _, rfl, rfl, _, rfl, ?_⟩
              have eN : ((more.take (q + 1)).filter fun r => !decide (r.2 = e)) = ((more.take q).filter fun r => !decide (r.2 = e)) ++ if pl = e then [] else [(wy, pl)] := by
                rw [inner_get eq, List.filter_append]
                congr 1
                by_cases z : pl = e
                · rw [if_pos z]; simp [z]
                · rw [if_neg z]; simp [z]
              refine iteB (fun h1 => ?_) (fun h1 => ?_)
              · have h1 : pl ≠ e := fun z => by
                  subst z
                  simp at h1
                rw [if_neg h1] at eN
                refine ⟨_, rfl, refs bs, eD, ?_, ?_, bs ++ [rj], ?_, ?_⟩
                · rw [refs_len, wD.len]
                  have := List.length_filter_le (fun r : List Str × Str => !decide (r.2 = e)) (more.take q)
                  rw [List.length_take] at this
                  exact Nat.lt_of_le_of_lt (m := 10000000) (by omega) (by decide)
                · intro y o ey
                  rw [upd_ne (ne_of_none ey nD2)]
                  exact s8 _ _ ey
                · rw [upd_same]
                  unfold refs
                  rw [List.map_append]
                  rfl
                · rw [eN]
                  refine A2.snoc (wD.mono fun r x hx => hx.put eD) (RowAt.put eD ⟨wa, ewa6, s58 _ _ wwa⟩)
              · have h1 : pl = e := by
                  have : (!decide (V.str pl = V.str e)) = false := h1
                  have : V.str pl = V.str e := by simpa using this
                  injection this
                rw [if_pos h1, List.append_nil] at eN
                exact ⟨s8, bs, eD, by rw [eN]; exact wD⟩
            · rintro H8 ⟨s8, bs2, eD2, wD2⟩
              rw [hml, List.take_length] at wD2
              have w4b : A2 (WayAt H6) (as4 ++ bs) (ws ++ (more.filter fun r => decide (r.2 = e)).map (·.1)) := w46.app wD
              have s68 : Same H6 H8 := (same_upd np4).trans s8
              refine ⟨p4, D2, _, _, _, _, _, _, _, _, _, rfl, s3.trans (s5.trans (s7.trans s8)), ⟨as4 ++ bs, ?_, w4b.mono fun _ _ q => s68 _ _ q⟩, ⟨bs2, eD2, wD2⟩, bn⟩
              rw [s8 _ _ upd_same]
              unfold refs
              rw [List.map_append]
    · rintro σ H3 ⟨r4, r5, v5, v6, v7, v8, v9, v10, v11, ws, rows, rfl, s3, ⟨as4, e4, w4⟩, _, b⟩
      have hl := b.last
      refine ⟨_, rfl, r4, as4, ws, rfl, e4, w4, (fun w hw => pf_ne n w (hl.mem_iff.mp hw)), ?_, fun p rs' np h' => ?_⟩
      · rw [hl.length_eq]
        exact Nat.le_trans (pf_len n) (by decide)
      · have := k p (upd H3 p (.lst (refs rs'))) (s3.trans (same_upd np)) (none_of s3 np) ⟨rs', upd_same, by rw [← sortW_eq hl]; exact h'.mono fun _ _ q => same_upd np _ _ q⟩
        exact this
end
end XW

/-! The extra links. -/
namespace XW
open PySem L2 XL
/-- one pair of a number and a text above another: whichever it is -/
def rGtT : R2 := fun x y H Q => ∃ (a b : Addr) (i j : Int) (u v : Str), x = .ref a ∧ y = .ref b ∧ H a = some (.tup [.int i, .str u]) ∧ H b = some (.tup [.int j, .str v]) ∧ ∀ k : Bool, Q (.bl k) H
theorem reads_is {h : Heap} {i : Int} {u : Str} {its : List Value} (r : Vals [V.int i, V.str u] its) : ReadsAll h its [PyData.int i, PyData.str u] [] := by
  cases r with
  | cons a t =>
    cases t with
    | cons b t =>
      cases t
      obtain ⟨ta, rfl⟩ := a
      obtain ⟨tb, rfl⟩ := b
      exact ReadsAll.cons (as := []) (bs := []) (Reads.int i ta) (ReadsAll.cons (as := []) (bs := []) (Reads.str u tb) .nil)
theorem op_gtT {X : Cx} (hu : X.A.units + 64 < cLine) : OpR X (compareOp .Gt) rGtT := by
  intro pins s σ H x y v u Q I rx ry h
  obtain ⟨a, b, i, j, tx, ty, rfl, rfl, ha, hb, q⟩ := h
  cases rx
  cases ry
  obtain ⟨_, its, rv, o, eo, ec, m, ed⟩ := I.hok a _ ha
  obtain ⟨_, its2, rv2, o2, eo2, ec2, m2, ed2⟩ := I.hok b _ hb
  have r1 := Reads.tuple eo ec ed (reads_is rv)
  have r2 := Reads.tuple eo2 ec2 ed2 (reads_is rv2)
  refine PySem.W.gt_data r1 r2 (by simp [PySem.W.alike, PySem.W.alikeAll]) (by simp) ?_ ⟨.bl _, H, I, rfl, q _⟩
  simp only [PyData.depth, PyData.depthAll]
  omega
/-- a test by a value's truth -/
def tTru (K : PySem.W.Frag) (te : TE) : TT := fun σ H Q => te σ H fun x H' => ∃ k, TruV K x H' k ∧ Q k H'
def extraWords : List Str := ["x1", "x2", "new", "zz", "e9", "e1", "e2", "e3", "e4"]
theorem extra_nd : extraWords.Nodup := by decide +kernel
/-- how many lead to it -/
def rankI (M : Lks) (ps : List Str) (p : Str) : Int := (((ps.filter fun o => decide (p ∈ (roundsF M 10 [o]).drop 1)).length : Nat) : Int)
theorem lim_of {z : Int} (h0 : 0 ≤ z) (h1 : z < 3) : ∃ lim : Int, ([V.int 4, V.int 4, V.int 9])[z.toNat]? = some (.int lim) ∧ 0 < lim ∧ lim ≤ 9 := by
  have : z = 0 ∨ z = 1 ∨ z = 2 := by omega
  rcases this with rfl | rfl | rfl
  · exact ⟨4, rfl, by decide, by decide⟩
  · exact ⟨4, rfl, by decide, by decide⟩
  · exact ⟨9, rfl, by decide, by decide⟩
/-- the links so far -/
structure Xok (M X : Lks) : Prop where
  lead : ∀ x ∈ X, Leads M x.2.1 x.2.2
  nm : X.map (·.1) = extraWords.take X.length
  len : M.length + X.length ≤ 10
section
variable {P : Program} {w : World} {K : PySem.W.Frag} {mg : Str → Option Value} {base : Heap}
theorem scExtra : FnScope ["_law_state", "_law_links", "_law_start_here", "_law_end", "_law_along", "_law_places", "_law_name", "_law_tail", "_law_head", "_law_ranks", "_law_place", "_law_names", "_law_extra_here", "_law_turn", "_law_other"] ["_law_state", "_law_links", "_law_start_here", "_law_end", "_law_along"] (defScope sLExtra) := ⟨rfl, rfl, rfl, by decide +kernel, rfl, by decide +kernel, by decide +kernel⟩
def spExtra : Sp := fun vs H Q _ => ∃ (st c a : Addr) (n : Nat) (M : Lks) (s e : Str) (rk : Str → Nat), vs = [.ref st, .ref a, .str s, .str e, .int 1] ∧ StAt H st c n ∧ n < 100000 ∧ LksAt H a M ∧ a ≠ st ∧ a ≠ c ∧ Net M s e rk ∧
  ∀ p H' X m, But st c H H' → StAt H' st c m → m ≤ n + 20 → LksAt H' p X → Xok M X → p ≠ st → p ≠ c → Q (.ref p) H'
theorem ok_extra {f fT fL : Addr} {fd fdT fdL : FuncData} (F : Fun K "_law_extra" "_law_extra" sLExtra f fd) (B : Bl mg) (T : Df K mg "_law_take" sLTake ["_law_state", "_law_limit"] fT fdT) (S : Df K mg "_law_leads" sLLeads ["_law_links", "_law_first", "_law_second"] fL fdL) : FnOk P w K mg base CX0 2 f fd ["_law_state", "_law_links", "_law_start_here", "_law_end", "_law_along"] spExtra := by
  have GT : FnOk P w K mg base CX0 1 fT fdT ["_law_state", "_law_limit"] spTake := ok_take T.F B
  have GL : FnOk P w K mg base CX0 1 fL fdL ["_law_links", "_law_first", "_law_second"] spLeads := ok_leads S.F B
  refine F.ok scExtra (fun vs H Q E h => ?_) (fun cdv A outer s H vs Q E hr h => ?_)
  · obtain ⟨st, c, a, n, M, s, e, rk, rfl, _⟩ := h
    rfl
  · obtain ⟨st, c, a, n, M, s, e, rk, rfl, hS, hn, ⟨ts, ea, tri⟩, a1, a2, net, k⟩ := h
    have nd := scExtra.nd
    have hu := hu_of hr
    refine ⟨_, pss_cons (ps_set (i := 5) nd rfl (.inl rfl) (pe_lst (pa_cons (pv 2) pa_nil)))
      (pss_cons (ps_for PassesOwn.never rfl (pi_list (pv 1)) (pg_tup rfl (pgs_cons (pg_name (i := 6) nd rfl (.inl rfl)) (pgs_cons (pg_name (i := 7) nd rfl (.inl rfl)) (pgs_cons (pg_name (i := 8) nd rfl (.inl rfl)) pgs_nil))))
        (pss_one (ps_if (pt_cmpR op_notIn_seq (pv 8) (pv 5) (by rfl)) (pss_one (ps_expr (pe_bm PySem.F.plainAttrs_list PySem.F.slot_list_append PySem.F.type_list_append mt_append (pv 5) (pa_cons (pv 8) pa_nil)))) pss_nil)))
      (pss_cons (ps_set (i := 9) nd rfl (.inl rfl) pe_dnewK)
      (pss_cons (ps_for PassesOwn.never rfl (pi_list (pv 5)) (pg_name (i := 10) nd rfl (.inr rfl))
        (pss_one (ps_dput hu (pv 9) (pv 10) (pe_callB call_len_seq (by rfl) B.len PySem.boot_len (pa_cons (pe_lc (own := [("_law_other", 14)]) (g := gName 14)
            (tt := tTru K (tCall spLeads [] E (tCons (tVar 1) (tCons (tVar 14) (tCons (tVar 10) tNil))))) (te := tVar 14) rfl nd (pi_list (pv 5))
            (blkOk_by (own := [("_law_other", 14)]) (N := ["_law_state", "_law_links", "_law_start_here", "_law_end", "_law_along", "_law_places", "_law_name", "_law_tail", "_law_head", "_law_ranks", "_law_place", "_law_names", "_law_extra_here", "_law_turn", "_law_other"]) (sc := defScope sLExtra) (by decide +kernel))
            (fun _ _ _ _ _ => pg_name (i := 14) nd rfl (.inl rfl)) (fun _ _ _ _ _ => pts_one (pt_truth (pe_call GL hr (by rfl) S.g S.F.kp S.b .nil pass0 (pa_cons (pv 1) (pa_cons (pv 14) (pa_cons (pv 10) pa_nil)))) (by intro _; rfl))) (fun _ _ _ _ _ => pv 14)) pa_nil)) rfl)))
      (pss_cons (ps_set (i := 11) nd rfl (.inl rfl) (pe_lst (pa_cons pe_str (pa_cons pe_str (pa_cons pe_str (pa_cons pe_str (pa_cons pe_str (pa_cons pe_str (pa_cons pe_str (pa_cons pe_str (pa_cons pe_str pa_nil)))))))))))
      (pss_cons (ps_set (i := 12) nd rfl (.inl rfl) (pe_lst pa_nil))
      (pss_cons (ps_for PassesOwn.never rfl (pi_range1 (by rfl) B.range (pa_cons (pe_op op_add pe_int (pe_call GT hr (by rfl) T.g T.F.kp T.b .nil pass0 (pa_cons (pv 0) (pa_cons (pe_ix ix_list (pe_lst (pa_cons pe_int (pa_cons pe_int (pa_cons pe_int pa_nil)))) (pe_call GT hr (by rfl) T.g T.F.kp T.b .nil pass0 (pa_cons (pv 0) (pa_cons pe_int pa_nil))) (fun _ _ => rfl)) pa_nil)))) pa_nil)) (pg_name (i := 13) nd rfl (.inl rfl))
        (pss_cons (ps_set (i := 7) nd rfl (.inl rfl) (pe_ix ix_list (pv 5) (pe_call GT hr (by rfl) T.g T.F.kp T.b .nil pass0 (pa_cons (pv 0) (pa_cons (pe_callB call_len_seq (by rfl) B.len PySem.boot_len (pa_cons (pv 5) pa_nil)) pa_nil))) (fun _ _ => rfl)))
        (pss_cons (ps_set (i := 8) nd rfl (.inl rfl) (pe_ix ix_list (pv 5) (pe_call GT hr (by rfl) T.g T.F.kp T.b .nil pass0 (pa_cons (pv 0) (pa_cons (pe_callB call_len_seq (by rfl) B.len PySem.boot_len (pa_cons (pv 5) pa_nil)) pa_nil))) (fun _ _ => rfl)))
        (C8.pss_cut (ps_if (pt_cmpR (op_gtT hr.units) (pe_tup (pa_cons (pe_dget hu (pv 9) (pv 7) (fun _ _ => rfl)) (pa_cons (pv 7) pa_nil))) (pe_tup (pa_cons (pe_dget hu (pv 9) (pv 8) (fun _ _ => rfl)) (pa_cons (pv 8) pa_nil))) (by rfl))
            (pss_one (ps_par (i := 7) (j := 8) (by rfl) nd rfl rfl (by decide) rfl rfl (pa_cons (pv 8) (pa_cons (pv 7) pa_nil)) (by rfl))) pss_nil)
        (C8.pss_cut (ps_if (PW.pt (pw_or (pt_cmpR op_eq (pv 7) (pv 8) (nomark _)) (pw_or1 (PW.pt (pw_and (pt_truth (pv 4) (by intro _; rfl)) (pw_and1 (pt_not (pt_truth (pe_call GL hr (by rfl) S.g S.F.kp S.b .nil pass0 (pa_cons (pv 1) (pa_cons (pv 7) (pa_cons (pv 8) pa_nil)))) (by intro _; rfl)))))))))
            (pss_one (ps_par (i := 7) (j := 8) (by rfl) nd rfl rfl (by decide) rfl rfl (pa_cons (pv 2) (pa_cons (pv 3) pa_nil)) (by rfl))) pss_nil)
        (pss_one (ps_if (pt_cmpR op_lt (pe_op op_add (pe_callB call_len_seq (by rfl) B.len PySem.boot_len (pa_cons (pv 1) pa_nil)) (pe_callB call_len_seq (by rfl) B.len PySem.boot_len (pa_cons (pv 12) pa_nil))) pe_int (nomark _))
          (pss_one (ps_expr (pe_bm PySem.F.plainAttrs_list PySem.F.slot_list_append PySem.F.type_list_append mt_append (pv 12) (pa_cons (pe_tup (pa_cons (pe_ix ix_list (pv 11) (pe_callB call_len_seq (by rfl) B.len PySem.boot_len (pa_cons (pv 12) pa_nil)) (fun _ _ => rfl)) (pa_cons (pv 7) (pa_cons (pv 8) pa_nil)))) pa_nil)))) pss_nil)))))))
      (pss_one (ps_ret (pv 12))))))))), ?_⟩
    have htl : (refs ts).length = M.length := by rw [refs_len, tri.len]
    have hM := net.len
    refine ⟨_, rfl, (by show 1 ≤ sizeLine; decide), fun pl npl => ?_⟩
    have fresh1 : ∀ {H' : Hp}, Same H H' → ∀ {q : Addr}, H' q = none → q ≠ st ∧ q ≠ c := fun s' _ h => (hS.same s').new h
    -- the places
    refine ⟨_, rfl, a, rfl, ⟨_, SqL.of (same_upd npl _ _ ea)⟩, for_list (K := K) (a := a) (xs := refs ts) (fun i σ H' => ∃ v6 v7 v8 ps, σ = [some (.ref st), some (.ref a), some (.str s), some (.str e), some (.int 1), some (.ref pl), v6, v7, v8, none, none, none, none, none, none] ∧ Same H H' ∧ H' pl = some (.lst (stz ps)) ∧ ps.Nodup ∧ ps ≠ [] ∧ ps.length ≤ 1 + i)
      ⟨none, none, none, [s], rfl, same_upd npl, upd_same, List.nodup_cons.mpr ⟨List.not_mem_nil, List.nodup_nil⟩, by simp, by simp⟩ (fun i σ H' _ ⟨_, _, _, _, _, s1, _⟩ => SqL.of (s1 _ _ ea)) ?_ ?_⟩
    · rintro i r σ H1 hr' ⟨v6, v7, v8, ps, rfl, s1, e1, hnd, hne, hlen⟩
      have hi : i < M.length := by rw [← htl]; exact (List.getElem?_eq_some_iff.mp hr').1
      obtain ⟨⟨x, t, h⟩, em⟩ := XL.get_some hi
      obtain ⟨ra, era, tra⟩ := tri.get em
      rw [refs_get era] at hr'
      cases hr'
      refine ⟨ra, _, rfl, SqT.of (s1 _ _ tra), rfl, _, _, rfl, _, _, rfl, _, _, rfl, rfl, ?_⟩
      refine ⟨_, rfl, _, rfl, pl, _, rfl, .inl (SqL.of e1), rfl, flat_stz _, _, rfl, ?_⟩
      refine iteB (fun h1 => ?_) (fun h1 => ?_)
      · have h1 : h ∉ ps := fun z => by
          have q : (!inV (.str h) (stz ps)) = true := h1
          rw [in_stz, decide_eq_true z] at q
          cases q
        refine ⟨_, rfl, .inl ⟨rfl, _, SqL.of e1⟩, _, rfl, pl, _, _, rfl, rfl, e1, ?_, ?_⟩
        · rw [stz_len]
          exact small1000 (by omega)
        · refine ⟨_, _, _, ps ++ [h], rfl, (fun b o ey => ?_), ?_, ?_, by simp, by simp; omega⟩
          · rw [upd_ne (ne_of_none ey npl)]
            exact s1 b o ey
          · rw [upd_same]
            unfold stz
            rw [List.map_append]
            rfl
          · exact List.nodup_append.mpr ⟨hnd, List.nodup_cons.mpr ⟨List.not_mem_nil, List.nodup_nil⟩, fun x hx y hy z => h1 (by rw [← List.mem_singleton.mp hy, ← z]; exact hx)⟩
      · exact ⟨_, _, _, ps, rfl, s1, e1, hnd, hne, by omega⟩
    rintro σ H1 ⟨v6, v7, v8, ps, rfl, s1, e1, hnd, hne, hlen⟩
    have hpl : ps.length ≤ 11 := by omega
    -- the ranks
    refine fun d ndd => ?_
    have npd : pl ≠ d := ne_of_none e1 ndd
    refine ⟨_, rfl, pl, rfl, ⟨_, SqL.of (same_upd ndd _ _ e1)⟩, for_list (K := K) (a := pl) (xs := stz ps) (fun i σ H' => ∃ v10, σ = [some (.ref st), some (.ref a), some (.str s), some (.str e), some (.int 1), some (.ref pl), v6, v7, v8, some (.ref d), v10, none, none, none, none] ∧ Same H1 H' ∧ H' d = some (.dK (intD (rankI M ps) (ps.take i))))
      ⟨none, rfl, same_upd ndd, upd_same⟩ (fun i σ H' _ ⟨_, _, s2, _⟩ => SqL.of (s2 _ _ e1)) ?_ ?_⟩
    · rintro i r σ H2 hr' ⟨v10, rfl, s2, e2⟩
      have hi : i < ps.length := by rw [← stz_len (rs := ps)]; exact (List.getElem?_eq_some_iff.mp hr').1
      obtain ⟨x, ex⟩ := XL.get_some hi
      rw [stz_get ex] at hr'
      cases hr'
      refine ⟨_, rfl, pl, rfl, ⟨_, SqL.of (s2 _ _ e1)⟩, fun D nD => ?_⟩
      refine lc_list (K := K) (a := pl) (xs := stz ps) (fun q H' => Same H2 H' ∧ H' D = some (.lst (stz ((ps.take q).filter fun o => decide (x ∈ (roundsF M 10 [o]).drop 1)))))
        ⟨same_upd nD, upd_same⟩ (fun q H' _ ⟨s3, _⟩ => SqL.of (s3 _ _ (s2 _ _ e1))) ?_ ?_
      · rintro q r H3 hr' ⟨s3, e3⟩
        have hq : q < ps.length := by rw [← stz_len (rs := ps)]; exact (List.getElem?_eq_some_iff.mp hr').1
        obtain ⟨o, eo⟩ := XL.get_some hq
        rw [stz_get eo] at hr'
        cases hr'
        have sA := s1.trans (s2.trans s3)
        refine ⟨rfl, _, rfl, _, rfl, _, rfl, a, o, x, M, rfl, LksAt.same ⟨ts, ea, tri⟩ sA, hM, fun H4 s4 => ⟨_, rfl, ?_⟩⟩
        have eN : (ps.take (q + 1)).filter (fun o => decide (x ∈ (roundsF M 10 [o]).drop 1)) = (ps.take q).filter (fun o => decide (x ∈ (roundsF M 10 [o]).drop 1)) ++ if x ∈ (roundsF M 10 [o]).drop 1 then [o] else [] := by
          rw [inner_get eo, List.filter_append]
          congr 1
          by_cases z : x ∈ (roundsF M 10 [o]).drop 1
          · rw [if_pos z, List.filter_cons, if_pos (decide_eq_true z)]; rfl
          · rw [if_neg z, List.filter_cons, if_neg (by simpa using z)]; rfl
        refine iteB (fun h1 => ?_) (fun h1 => ?_)
        · rw [if_pos (of_decide_eq_true h1)] at eN
          refine ⟨_, rfl, _, s4 _ _ e3, ?_, ?_, ?_⟩
          · rw [stz_len]
            have := List.length_filter_le (fun o => decide (x ∈ (roundsF M 10 [o]).drop 1)) (ps.take q)
            rw [List.length_take] at this
            exact small1000 (by omega)
          · intro y o' ey
            rw [upd_ne (ne_of_none ey nD)]
            exact s4 _ _ (s3 _ _ ey)
          · rw [upd_same, eN]
            unfold stz
            rw [List.map_append]
            rfl
        · rw [if_neg (of_decide_eq_false h1), List.append_nil] at eN
          exact ⟨s3.trans s4, by rw [eN]; exact s4 _ _ e3⟩
      · rintro H3 ⟨s3, e3⟩
        rw [stz_len, List.take_length] at e3
        refine ⟨D, _, rfl, .inl (SqL.of e3), _, rfl, _, rfl, d, _, rfl, .inl ⟨_, Sum.inr x, s3 _ _ e2, rfl, ?_, rfl⟩, ?_⟩
        · unfold intD
          rw [List.length_map, List.length_take]
          exact small1000 (by omega)
        · refine ⟨_, rfl, (fun y o ey => ?_), ?_⟩
          · rw [upd_ne (ne_of_none ey ndd)]
            exact s3 _ _ (s2 _ _ ey)
          · rw [upd_same, putK_new]
            · rw [inner_get ex]
              unfold intD
              rw [List.map_append, stz_len]
              rfl
            · refine intD_no _ fun hm => ?_
              obtain ⟨q, hq⟩ := List.mem_iff_getElem?.mp hm
              have hqi : q < i := by
                have := get_lt hq
                rw [List.length_take] at this
                omega
              rw [List.getElem?_take_of_lt hqi] at hq
              have := get_inj hnd hq ex
              omega
    rintro σ H2 ⟨v10, rfl, s2, e2⟩
    rw [stz_len, List.take_length] at e2
    -- the names, the links
    refine ⟨(by show 9 ≤ sizeLine; decide), fun nm nnm => ⟨(by decide), fun x nx => ?_⟩⟩
    have s3 := (same_upd (o := .lst (stz extraWords)) nnm).trans (same_upd (o := .lst []) nx)
    have sH := s1.trans (s2.trans s3)
    have S3 := hS.same sH
    have e3x : (upd (upd H2 nm (.lst (stz extraWords))) x (.lst [])) x = some (.lst (refs [])) := upd_same
    have e3n := same_upd (o := .lst []) nx _ _ (show (upd H2 nm (.lst (stz extraWords))) nm = some (.lst (stz extraWords)) from upd_same)
    have e3d := s3 _ _ e2
    have e3p := s3 _ _ (s2 _ _ e1)
    have fx := fresh1 (s1.trans (s2.trans (same_upd (o := .lst (stz extraWords)) nnm))) nx
    have fn := fresh1 (s1.trans s2) nnm
    have fd' := fresh1 s1 ndd
    have fp := hS.new npl
    have Hx : H x = none := none_of (s1.trans (s2.trans (same_upd (o := .lst (stz extraWords)) nnm))) nx
    have nxp : pl ≠ x := ne_of_none ((same_upd (o := .lst (stz extraWords)) nnm) _ _ (s2 _ _ e1)) nx
    have nxd : d ≠ x := ne_of_none ((same_upd (o := .lst (stz extraWords)) nnm) _ _ e2) nx
    have nxn : nm ≠ x := ne_of_none (show (upd H2 nm (.lst (stz extraWords))) nm = some (.lst (stz extraWords)) from upd_same) nx
    have bH3 : But st c H _ := But.of sH
    -- how many turns
    refine ⟨_, rfl, (by show 3 ≤ sizeLine; decide), fun l nl => ⟨_, rfl, ?_⟩⟩
    have sl := same_upd (o := .lst [V.int 4, V.int 4, V.int 9]) nl
    have fl := S3.new nl
    refine ⟨st, c, n, 3, rfl, S3.same sl, by omega, by decide, by decide, fun z H4 z0 z1 b4 S4 => ?_⟩
    obtain ⟨lim, el, l0, l9⟩ := lim_of z0 z1
    have e4l := b4 l _ fl.1 fl.2 upd_same
    refine ⟨l, _, _, .int lim, rfl, rfl, SqL.of e4l, at_of (j := z.toNat) (by omega) el, ?_⟩
    refine ⟨st, c, n + 1, lim, rfl, S4, by omega, l0, by omega, fun v H5 v0 v1 b5 S5 => ?_⟩
    have b35 : But st c _ H5 := (But.of sl).trans (b4.trans b5)
    refine ⟨_, _, rfl, rfl, (1 + v).toNat, by rw [Int.toNat_of_nonneg (by omega)], by omega, by omega, ?_⟩
    refine for_range (lo := 0) (n := (1 + v).toNat) (fun i σ H' => ∃ v7 v8 v13 X, σ = [some (.ref st), some (.ref a), some (.str s), some (.str e), some (.int 1), some (.ref pl), v6, v7, v8, some (.ref d), v10, some (.ref nm), some (.ref x), v13, none] ∧ But st c H H' ∧ H' pl = some (.lst (stz ps)) ∧ H' d = some (.dK (intD (rankI M ps) ps)) ∧ H' nm = some (.lst (stz extraWords)) ∧ StAt H' st c (n + 2 + 2 * i) ∧ LksAt H' x X ∧ Xok M X ∧ X.length ≤ i)
      ⟨_, _, none, [], rfl, bH3.trans b35, b35 _ _ fp.1 fp.2 e3p, b35 _ _ fd'.1 fd'.2 e3d, b35 _ _ fn.1 fn.2 e3n, S5, ⟨[], b35 _ _ fx.1 fx.2 e3x, .nil⟩, ⟨fun _ h => absurd h List.not_mem_nil, rfl, by simpa using hM⟩, Nat.zero_le _⟩ ?_ ?_
    · rintro i σ H6 hi ⟨v7, v8, v13, X, rfl, bH, e6p, e6d, e6n, S6, ⟨xs, e6x, triX⟩, xok, hXi⟩
      have hps : 0 < ps.length := List.length_pos_iff.mpr hne
      have hi9 : i < 9 := by omega
      -- the tail
      refine ⟨_, rfl, _, rfl, _, rfl, pl, _, rfl, .inl (SqL.of e6p), ?_⟩
      rw [stz_len]
      refine ⟨st, c, _, (ps.length : Int), rfl, S6, by omega, by omega, by omega, fun zt H7 t0 t1 b7 S7 => ?_⟩
      have e7p := b7 _ _ fp.1 fp.2 e6p
      obtain ⟨t, et⟩ := XL.get_some (show zt.toNat < ps.length by omega)
      refine ⟨pl, _, _, .str t, rfl, rfl, SqL.of e7p, at_of (j := zt.toNat) (by omega) (stz_get et), ?_⟩
      -- the head
      refine ⟨_, rfl, _, rfl, _, rfl, pl, _, rfl, .inl (SqL.of e7p), ?_⟩
      rw [stz_len]
      refine ⟨st, c, _, (ps.length : Int), rfl, S7, by omega, by omega, by omega, fun zh H8 h0 h1 b8 S8 => ?_⟩
      have e8p := b8 _ _ fp.1 fp.2 e7p
      obtain ⟨h, eh⟩ := XL.get_some (show zh.toNat < ps.length by omega)
      refine ⟨pl, _, _, .str h, rfl, rfl, SqL.of e8p, at_of (j := zh.toNat) (by omega) (stz_get eh), ?_⟩
      have e8d := b8 _ _ fd'.1 fd'.2 (b7 _ _ fd'.1 fd'.2 e6d)
      have e8n := b8 _ _ fn.1 fn.2 (b7 _ _ fn.1 fn.2 e6n)
      have e8x := b8 _ _ fx.1 fx.2 (b7 _ _ fx.1 fx.2 e6x)
      have b68 := b7.trans b8
      have tri8 : A2 (TriAt H8) xs X := triX.mono fun r y hy => b68.keep S6 hy (fun _ z => nomatch z)
      have bH8 := bH.trans b68
      -- in the order of the ranks
      refine ⟨fun σ H' => ∃ t h, σ = [some (.ref st), some (.ref a), some (.str s), some (.str e), some (.int 1), some (.ref pl), v6, some (.str t), some (.str h), some (.ref d), v10, some (.ref nm), some (.ref x), some (.int (0 + (i : Int))), none] ∧ Same H8 H', ?_, ?_⟩
      · refine ⟨_, rfl, _, rfl, d, .int (rankI M ps t), rfl, .inl ⟨_, Sum.inr t, .inl e8d, rfl, (intD_at _ (List.mem_of_getElem? et)).symm⟩, _, rfl, (by show 2 ≤ sizeLine; decide), fun p1 np1 => ?_⟩
        have q1 := same_upd (o := .tup [V.int (rankI M ps t), V.str t]) np1
        refine ⟨_, rfl, _, rfl, d, .int (rankI M ps h), rfl, .inl ⟨_, Sum.inr h, .inl (q1 _ _ e8d), rfl, (intD_at _ (List.mem_of_getElem? eh)).symm⟩, _, rfl, (by show 2 ≤ sizeLine; decide), fun p2 np2 => ?_⟩
        have q2 := same_upd (o := .tup [V.int (rankI M ps h), V.str h]) np2
        refine ⟨p1, p2, _, _, _, _, rfl, rfl, q2 _ _ upd_same, upd_same, fun g => ⟨_, rfl, ?_⟩⟩
        refine iteB (fun _ => ?_) (fun _ => ?_)
        · exact ⟨_, rfl, _, rfl, _, _, rfl, h, t, rfl, q1.trans q2⟩
        · exact ⟨t, h, rfl, q1.trans q2⟩
      rintro σ H9 ⟨t', h', rfl, s9⟩
      have LM : LksAt H9 a M := ⟨ts, s9 _ _ (bH8 _ _ a1 a2 ea), tri.mono fun r y hy => s9 _ _ (bH8.keep hS hy (fun _ z => nomatch z))⟩
      -- along the net
      refine ⟨fun σ H' => ∃ t h, Leads M t h ∧ σ = [some (.ref st), some (.ref a), some (.str s), some (.str e), some (.int 1), some (.ref pl), v6, some (.str t), some (.str h), some (.ref d), v10, some (.ref nm), some (.ref x), some (.int (0 + (i : Int))), none] ∧ Same H8 H', ?_, ?_⟩
      · have se : Leads M s e := by
          obtain ⟨w, hw⟩ : ∃ w, w ∈ pf M e 9 s := by
            cases hp : pf M e 9 s with
            | nil => exact absurd hp (pf_some net)
            | cons w r => exact ⟨w, List.mem_cons_self⟩
          exact ⟨w, pf_ne net w hw, pf_path 9 s w hw⟩
        refine ⟨_, rfl, _, rfl, rfl, _, rfl, ?_⟩
        refine iteB (fun _ => ?_) (fun _ => ?_)
        · exact ⟨_, rfl, _, rfl, _, _, rfl, s, e, se, rfl, s9⟩
        · refine ⟨_, rfl, _, rfl, ?_⟩
          refine iteB (fun _ => ?_) (fun hz => absurd hz (by decide))
          refine ⟨_, rfl, _, rfl, _, rfl, a, t', h', M, rfl, LM, hM, fun H10 s10 => ⟨_, rfl, ?_⟩⟩
          refine iteB (fun _ => ?_) (fun hf => ?_)
          · exact ⟨_, rfl, _, rfl, _, _, rfl, s, e, se, rfl, s9.trans s10⟩
          · have hl : h' ∈ (roundsF M 10 [t']).drop 1 := by
              have : (!decide (h' ∈ (roundsF M 10 [t']).drop 1)) = false := hf
              exact of_decide_eq_true (by simpa using this)
            exact ⟨t', h', (rounds_leads net.ranked net.low).mp hl, rfl, s9.trans s10⟩
      rintro σ H10 ⟨t2, h2, hlead, rfl, s10⟩
      have e10x := s10 _ _ e8x
      have e10n := s10 _ _ e8n
      have S10 : StAt H10 st c (n + 2 + 2 * (i + 1)) := by
        have := S8.same s10
        exact this
      have tri10 : A2 (TriAt H10) xs X := tri8.mono fun r y hy => s10 _ _ hy
      have hxl : (refs xs).length = X.length := by rw [refs_len, triX.len]
      refine ⟨_, rfl, a, _, rfl, .inl (SqL.of (s10 _ _ (bH8 _ _ a1 a2 ea))), _, rfl, x, _, rfl, .inl (SqL.of e10x), _, _, rfl, rfl, _, _, rfl, rfl, _, rfl, ?_⟩
      refine iteB (fun hlt => ?_) (fun _ => ?_)
      · have hlt : M.length + X.length < 10 := by
          have := of_decide_eq_true hlt
          rw [htl, hxl] at this
          omega
        have hX9 : X.length < extraWords.length := by show X.length < 9; omega
        obtain ⟨wd, ew⟩ := XL.get_some hX9
        refine ⟨_, rfl, .inl ⟨rfl, _, SqL.of e10x⟩, _, rfl, _, rfl, x, _, rfl, .inl (SqL.of e10x), nm, _, _, .str wd, rfl, rfl, SqL.of e10n, at_of (j := X.length) (by rw [hxl]) (stz_get ew), _, rfl, _, rfl, (by show 3 ≤ sizeLine; decide), fun p3 np3 => ?_⟩
        have s11 := same_upd (o := .tup [V.str wd, V.str t2, V.str h2]) np3
        refine ⟨x, _, _, rfl, rfl, s11 _ _ e10x, by rw [hxl]; exact small1000 (by omega), ?_⟩
        have bF : But st c H (upd (upd H10 p3 (.tup [V.str wd, V.str t2, V.str h2])) x (.lst (refs xs ++ [.ref p3]))) := (bH8.trans (But.of (s10.trans s11))).upd Hx
        have S11 := (S10.same s11).upd (o := .lst (refs xs ++ [.ref p3])) fx.1 fx.2
        refine ⟨_, _, _, X ++ [(wd, t2, h2)], rfl, bF, ?_, ?_, ?_, S11, ⟨xs ++ [p3], ?_, ?_⟩, ⟨?_, ?_, ?_⟩, ?_⟩
        · rw [upd_ne nxp]; exact s11 _ _ (s10 _ _ e8p)
        · rw [upd_ne nxd]; exact s11 _ _ (s10 _ _ e8d)
        · rw [upd_ne nxn]; exact s11 _ _ e10n
        · rw [upd_same]
          unfold refs
          rw [List.map_append]
          rfl
        · refine A2.snoc (tri10.mono fun r y hy => upd_apart (s11 _ _ e10x) (s11 _ _ hy)) ?_
          exact upd_apart (s11 _ _ e10x) upd_same
        · intro y hy
          rcases List.mem_append.mp hy with hy | hy
          · exact xok.lead y hy
          · rw [List.mem_singleton.mp hy]
            exact hlead
        · rw [List.map_append, xok.nm, List.length_append, List.length_singleton, inner_get ew]
          rfl
        · rw [List.length_append, List.length_singleton]; omega
        · rw [List.length_append, List.length_singleton]; omega
      · exact ⟨_, _, _, X, rfl, bH8.trans (But.of s10), s10 _ _ e8p, s10 _ _ e8d, e10n, S10, ⟨xs, e10x, tri10⟩, xok, by omega⟩
    · rintro σ H6 ⟨v7, v8, v13, X, rfl, bH, e6p, e6d, e6n, S6, hX, xok, hXi⟩
      exact ⟨_, rfl, k x H6 X _ bH S6 (by omega) hX xok fx.1 fx.2⟩
end
end XW

/-! Names. -/
namespace XW
open PySem L2 XL
def lettersS : Str := "abcdefghijklmnopqrstuvwxyz"
def digitsS : Str := "0123456789"
def inS (L c : Str) : Bool := !(Builtin.Str.occurrences L c 0 L.length 1).isEmpty
def okN (x : Str) : Bool := decide (1 ≤ x.length) && decide (x.length ≤ 6) && (match x.cps[0]? with | some c => inS lettersS ⟨#[c]⟩ | none => false) && x.cps.all fun c => inS lettersS ⟨#[c]⟩ || inS digitsS ⟨#[c]⟩
theorem ok_words : ∀ x ∈ placeWords ++ nameWords ++ extraWords, okN x = true := by decide +kernel
theorem okN_at {x : Str} (h : okN x = true) : 1 ≤ x.length ∧ x.length ≤ 6 ∧ (∃ c, x.cps[0]? = some c ∧ inS lettersS ⟨#[c]⟩ = true) ∧ ∀ (i : Nat) (c : Nat), x.cps[i]? = some c → inS lettersS ⟨#[c]⟩ = true ∨ inS digitsS ⟨#[c]⟩ = true := by
  unfold okN at h
  simp only [Bool.and_eq_true, decide_eq_true_eq] at h
  obtain ⟨⟨⟨h1, h2⟩, h3⟩, h4⟩ := h
  refine ⟨h1, h2, ?_, fun i c e => ?_⟩
  · split at h3
    · rename_i c e
      exact ⟨c, e, h3⟩
    · cases h3
  · rw [Array.all_eq_true] at h4
    obtain ⟨hi, e⟩ := Array.getElem?_eq_some_iff.mp e
    have := h4 i hi
    rw [e] at this
    simpa using this
/-- the named constants -/
structure Cst (mg : Str → Option Value) : Prop where
  letters : ∃ u, mg "LETTERS" = some u ∧ RelV (.str lettersS) u
  digits : ∃ u, mg "DIGITS" = some u ∧ RelV (.str digitsS) u
  longest : ∃ u, mg "LONGEST" = some u ∧ RelV (.int 6) u
section
variable {P : Program} {w : World} {K : PySem.W.Frag} {mg : Str → Option Value} {base : Heap}
theorem scValid : FnScope ["text", "char"] ["text"] (defScope sValid) := ⟨rfl, rfl, rfl, by decide +kernel, rfl, by decide +kernel, by decide +kernel⟩
def spValid : Sp := fun vs H Q _ => ∃ x : Str, vs = [.str x] ∧ okN x = true ∧ Q (.bl true) H
theorem ok_valid {f : Addr} {fd : FuncData} (F : Fun K "valid_name" "valid_name" sValid f fd) (B : Bl mg) (C : Cst mg) : FnOk P w K mg base CX0 1 f fd ["text"] spValid := by
  obtain ⟨uL, mL, rL⟩ := C.letters
  obtain ⟨uD, mD, rD⟩ := C.digits
  obtain ⟨u6, m6, r6⟩ := C.longest
  refine F.ok scValid (fun vs H Q E h => ?_) (fun cdv A outer s H vs Q E hr h => ?_)
  · obtain ⟨x, rfl, _⟩ := h
    rfl
  · obtain ⟨x, rfl, hx, k⟩ := h
    have nd := scValid.nd
    refine ⟨_, pss_cons (ps_if (PW.pt (pw_or (pt_not (pt_chain op_le op_le pe_int (pe_callB call_len (by rfl) B.len PySem.boot_len (pa_cons (pv 0) pa_nil)) (pe_glob (v := .int 6) (by rfl) m6 r6))) (pw_or1 (pt_cmpR op_notIn_str (pe_ix ix_str (pv 0) pe_int (fun _ _ => rfl)) (pe_glob (v := .str lettersS) (by rfl) mL rL) (by rfl)))))
        (pss_one ps_never) pss_nil)
      (pss_cons (ps_for PassesOwn.never rfl (pi_str (pv 0)) (pg_name (i := 1) nd rfl (.inl rfl))
        (pss_one (ps_if (PW.pt (pw_and (pt_cmpR op_notIn_str (pv 1) (pe_glob (v := .str lettersS) (by rfl) mL rL) (by rfl)) (pw_and1 (pt_cmpR op_notIn_str (pv 1) (pe_glob (v := .str digitsS) (by rfl) mD rD) (by rfl)))))
          (pss_one ps_never) pss_nil)))
      (pss_one (ps_ret pe_bl))), ?_⟩
    obtain ⟨h1, h6, ⟨c0, e0, i0⟩, hall⟩ := okN_at hx
    refine ⟨_, rfl, _, _, rfl, ⟨Nat.le_trans h6 (by decide), rfl⟩, _, _, rfl, rfl, _, rfl, iteKT (decide_eq_true (by omega)) ⟨_, _, rfl, rfl, _, rfl, ?_⟩⟩
    refine iteKF (by show (!decide ((x.length : Int) ≤ 6)) = false; rw [decide_eq_true (by omega)]; rfl) ?_
    have e0' : atI x.cps.toList ((0 : Nat) : Int) = some c0 := atI_nat (by simpa using e0)
    refine ⟨_, rfl, _, 0, c0, rfl, rfl, Nat.le_trans h6 (by decide), e0', _, _, rfl, rfl, _, rfl, iteKF (by show (!inS lettersS ⟨#[c0]⟩) = false; rw [i0]; rfl) ?_⟩
    refine ⟨_, rfl, x, rfl, for_it walk_str (fun i σ H' => ∃ v, σ = [some (.str x), v] ∧ H' = H) ⟨none, rfl, rfl⟩ (fun _ _ _ _ _ => True.intro) ?_ ?_⟩
    · rintro i y σ H1 H2 hi ⟨v, rfl, rfl⟩ ⟨rfl, c, ec, rfl⟩
      have hc := hall i c ec
      refine ⟨_, rfl, _, _, rfl, rfl, _, rfl, ?_⟩
      refine iteB (fun h1 => ?_) (fun _ => ?_)
      · have h1 : inS lettersS ⟨#[c]⟩ = false := by
          have : (!inS lettersS ⟨#[c]⟩) = true := h1
          simpa using this
        refine ⟨_, rfl, _, _, rfl, rfl, _, rfl, ?_⟩
        refine iteKF ?_ ⟨_, rfl, rfl⟩
        show (!inS digitsS ⟨#[c]⟩) = false
        rcases hc with hc | hc
        · rw [h1] at hc
          cases hc
        · rw [hc]
          rfl
      · exact iteF ⟨_, rfl, rfl⟩
    · rintro σ H1 ⟨v, rfl, rfl⟩
      exact k
/-! ### check_names -/
theorem scCheck : FnScope ["links", "start", "end", "name", "known", "tail", "head", "place"] ["links", "start", "end"] (defScope sCheckNames) := ⟨rfl, rfl, rfl, by decide +kernel, rfl, by decide +kernel, by decide +kernel⟩
/-- names as they ought to be -/
structure Nmd (M : Lks) (s e : Str) : Prop where
  lk : ∀ l ∈ M, okN l.1 = true ∧ okN l.2.1 = true ∧ okN l.2.2 = true
  hs : okN s = true
  he : okN e = true
  nd : (M.map (·.1)).Nodup
  ne : s ≠ e
def spCheck : Sp := fun vs H Q _ => ∃ (a : Addr) (M : Lks) (s e : Str), vs = [.ref a, .str s, .str e] ∧ LksAt H a M ∧ Nmd M s e ∧ M.length ≤ 10 ∧ ∀ H', Same H H' → Q .non H'
theorem ok_check {f fV : Addr} {fd fdV : FuncData} (F : Fun K "check_names" "check_names" sCheckNames f fd) (B : Bl mg) (C : Cst mg) (S : Df K mg "valid_name" sValid ["text"] fV fdV) : FnOk P w K mg base CX0 2 f fd ["links", "start", "end"] spCheck := by
  have GV : FnOk P w K mg base CX0 1 fV fdV ["text"] spValid := ok_valid S.F B C
  refine F.ok scCheck (fun vs H Q E h => ?_) (fun cdv A outer s H vs Q E hr h => ?_)
  · obtain ⟨a, M, s, e, rfl, _⟩ := h
    rfl
  · obtain ⟨a, M, s, e, rfl, ⟨ts, ea, tri⟩, N, hM, k⟩ := h
    have nd := scCheck.nd
    refine ⟨_, pss_cons (ps_for PassesOwn.never rfl (pi_tup (pe_tup (pa_cons (pv 1) (pa_cons (pv 2) pa_nil)))) (pg_name (i := 3) nd rfl (.inl rfl))
        (pss_one (ps_if (pt_not (pt_truth (pe_call GV hr (by rfl) S.g S.F.kp S.b .nil pass0 (pa_cons (pv 3) pa_nil)) (by intro _; rfl))) (pss_one ps_never) pss_nil)))
      (pss_cons (ps_if (pt_cmpR op_eq (pv 1) (pv 2) (nomark _)) (pss_one ps_never) pss_nil)
      (pss_cons (ps_set (i := 4) nd rfl (.inl rfl) (pe_callTy0 cr_set0K (by rfl) B.set (by decide +kernel)))
      (pss_one (ps_for PassesOwn.never rfl (pi_list (pv 0)) (pg_tup rfl (pgs_cons (pg_name (i := 3) nd rfl (.inl rfl)) (pgs_cons (pg_name (i := 5) nd rfl (.inl rfl)) (pgs_cons (pg_name (i := 6) nd rfl (.inl rfl)) pgs_nil))))
        (pss_cons (ps_if (pt_not (pt_truth (pe_call GV hr (by rfl) S.g S.F.kp S.b .nil pass0 (pa_cons (pv 3) pa_nil)) (by intro _; rfl))) (pss_one ps_never) pss_nil)
        (pss_cons (ps_if (pt_cmpR or_sinK (pv 3) (pv 4) (by rfl)) (pss_one ps_never) pss_nil)
        (pss_cons (ps_expr (pe_saddK (pv 4) (pa_cons (pv 3) pa_nil)))
        (pss_one (ps_for PassesOwn.never rfl (pi_tup (pe_tup (pa_cons (pv 5) (pa_cons (pv 6) pa_nil)))) (pg_name (i := 7) nd rfl (.inl rfl))
          (pss_one (ps_if (pt_not (pt_truth (pe_call GV hr (by rfl) S.g S.F.kp S.b .nil pass0 (pa_cons (pv 7) pa_nil)) (by intro _; rfl))) (pss_one ps_never) pss_nil))))))))))), ?_⟩
    have htl : (refs ts).length = M.length := by rw [refs_len, tri.len]
    refine ⟨_, rfl, _, rfl, (by show 2 ≤ sizeLine; decide), fun p0 np0 => ?_⟩
    refine ⟨p0, rfl, ⟨_, SqT.of upd_same⟩, for_tup (K := K) (a := p0) (xs := [V.str s, V.str e]) (fun i σ H' => ∃ v, σ = [some (.ref a), some (.str s), some (.str e), v, none, none, none, none] ∧ H' = upd H p0 (.tup [V.str s, V.str e]))
      ⟨none, rfl, rfl⟩ (fun i σ H' _ ⟨_, _, q⟩ => by rw [q]; exact SqT.of upd_same) ?_ ?_⟩
    · rintro i r σ H' hr' ⟨v, rfl, rfl⟩
      have : r = .str s ∨ r = .str e := by
        match i, hr' with
        | 0, h => exact .inl (by simpa using h.symm)
        | 1, h => exact .inr (by simpa using h.symm)
      rcases this with rfl | rfl
      · exact ⟨_, rfl, s, rfl, N.hs, _, rfl, iteF ⟨_, rfl, rfl⟩⟩
      · exact ⟨_, rfl, e, rfl, N.he, _, rfl, iteF ⟨_, rfl, rfl⟩⟩
    rintro σ H' ⟨v, rfl, rfl⟩
    have s0 := same_upd (o := .tup [V.str s, V.str e]) np0
    refine ⟨_, rfl, _, rfl, rfl, _, rfl, iteKF (decide_eq_false fun z => N.ne (by injection z)) ?_⟩
    refine ⟨rfl, fun kn nkn => ?_⟩
    generalize upd H p0 (.tup [V.str s, V.str e]) = H0 at s0 nkn
    have nk0 : H kn = none := none_of s0 nkn
    refine ⟨_, rfl, a, rfl, ⟨_, SqL.of (same_upd nkn _ _ (s0 _ _ ea))⟩, for_list (K := K) (a := a) (xs := refs ts) (fun i σ H' => ∃ v3 v5 v6 v7 S, σ = [some (.ref a), some (.str s), some (.str e), v3, some (.ref kn), v5, v6, v7] ∧ Same H H' ∧ H' kn = some (SetK P w kn S i) ∧ ∀ x, S (Sum.inr x) = true ↔ x ∈ (M.take i).map (·.1))
      ⟨_, none, none, none, _, rfl, s0.trans (same_upd nkn), upd_same, fun x => by simp⟩ (fun i σ H' _ ⟨_, _, _, _, _, _, s1, _⟩ => SqL.of (s1 _ _ ea)) ?_ ?_⟩
    · rintro i r σ H1 hr' ⟨v3, v5, v6, v7, S, rfl, s1, e1, hS⟩
      have hi : i < M.length := by rw [← htl]; exact (List.getElem?_eq_some_iff.mp hr').1
      obtain ⟨⟨x, t, h⟩, em⟩ := XL.get_some hi
      obtain ⟨ra, era, tra⟩ := tri.get em
      rw [refs_get era] at hr'
      cases hr'
      obtain ⟨o1, o2, o3⟩ := N.lk _ (List.mem_of_getElem? em)
      refine ⟨ra, _, rfl, SqT.of (s1 _ _ tra), rfl, _, _, rfl, _, _, rfl, _, _, rfl, rfl, ?_⟩
      refine ⟨_, rfl, x, rfl, o1, _, rfl, iteF ?_⟩
      have hx : S (Sum.inr x) = false := by
        cases q : S (Sum.inr x) with
        | false => rfl
        | true =>
          exfalso
          have hm := (hS x).mp q
          rw [List.map_take] at hm
          obtain ⟨j, hj⟩ := List.mem_iff_getElem?.mp hm
          have hji : j < i := by
            have := get_lt hj
            rw [List.length_take] at this
            omega
          rw [List.getElem?_take_of_lt hji] at hj
          have hi' : (M.map (·.1))[i]? = some x := by rw [List.getElem?_map, em]; rfl
          have := get_inj N.nd hj hi'
          omega
      refine ⟨_, rfl, _, rfl, Sum.inr x, kn, S, i, rfl, rfl, e1, _, rfl, iteKF hx ?_⟩
      refine ⟨_, rfl, ⟨kn, S, i, rfl, e1⟩, _, rfl, kn, Sum.inr x, S, i, rfl, rfl, e1, Nat.lt_of_le_of_lt (m := 11) (by omega) (by decide), ?_⟩
      rw [if_neg (by rw [hx]; exact Bool.false_ne_true)]
      have s2 : Same H (upd H1 kn (SetK P w kn (fun j => S j || decide (j = Sum.inr x)) (i + 1))) := fun y o ey => by
        rw [upd_ne (ne_of_none ey nk0)]
        exact s1 _ _ ey
      refine ⟨_, rfl, _, rfl, (by show 2 ≤ sizeLine; decide), fun p1 np1 => ?_⟩
      have nk1 : kn ≠ p1 := ne_of_none (show (upd H1 kn (SetK P w kn (fun j => S j || decide (j = Sum.inr x)) (i + 1))) kn = some _ from upd_same) np1
      refine ⟨p1, rfl, ⟨_, SqT.of upd_same⟩, for_tup (K := K) (a := p1) (xs := [V.str t, V.str h]) (fun j σ H' => ∃ v, σ = [some (.ref a), some (.str s), some (.str e), some (.str x), some (.ref kn), some (.str t), some (.str h), v] ∧ H' = upd (upd H1 kn (SetK P w kn (fun j => S j || decide (j = Sum.inr x)) (i + 1))) p1 (.tup [V.str t, V.str h]))
        ⟨_, rfl, rfl⟩ (fun i σ H' _ ⟨_, _, q⟩ => by rw [q]; exact SqT.of upd_same) ?_ ?_⟩
      · rintro j r σ H' hr' ⟨v, rfl, rfl⟩
        have : r = .str t ∨ r = .str h := by
          match j, hr' with
          | 0, h => exact .inl (by simpa using h.symm)
          | 1, h => exact .inr (by simpa using h.symm)
        rcases this with rfl | rfl
        · exact ⟨_, rfl, t, rfl, o2, _, rfl, iteF ⟨_, rfl, rfl⟩⟩
        · exact ⟨_, rfl, h, rfl, o3, _, rfl, iteF ⟨_, rfl, rfl⟩⟩
      · rintro σ H' ⟨v, rfl, rfl⟩
        refine ⟨_, _, _, _, _, rfl, s2.trans (same_upd np1), by rw [upd_ne nk1, upd_same], fun y => ?_⟩
        rw [inner_get em, List.map_append, List.mem_append, Bool.or_eq_true, hS y, decide_eq_true_eq]
        exact or_congr Iff.rfl ⟨fun q => by injection q with q; rw [q]; exact List.mem_singleton.mpr rfl, fun q => by rw [List.mem_singleton.mp q]⟩
    · rintro σ H1 ⟨v3, v5, v6, v7, S, rfl, s1, _⟩
      exact k H1 s1
end
end XW

/-! What a place leads to. -/
namespace XW
open PySem L2 XL
/-- an entry of a table of links -/
def PairAt (H : Hp) (kv : Key × V) (l : Str × Str × Str) : Prop := ∃ r, kv = (Sum.inr l.1, .ref r) ∧ H r = some (.tup [.str l.2.1, .str l.2.2])
theorem PairAt.same {H H' : Hp} {kv : Key × V} {l : Str × Str × Str} (h : PairAt H kv l) (s : Same H H') : PairAt H' kv l := let ⟨r, e, t⟩ := h; ⟨r, e, s _ _ t⟩
section
variable {P : Program} {w : World} {K : PySem.W.Frag} {mg : Str → Option Value} {base : Heap}
theorem scFollow : FnScope ["links", "place", "found", "waiting", "start", "tail", "head"] ["links", "place"] (defScope sFollowed) := ⟨rfl, rfl, rfl, by decide +kernel, rfl, by decide +kernel, by decide +kernel⟩
def spFollow : Sp := fun vs H Q _ => ∃ (d : Addr) (od : Obj) (kvs : List (Key × V)) (M : Lks) (x : Str), vs = [.ref d, .str x] ∧ H d = some (.frz od (.dK kvs)) ∧ A2 (PairAt H) kvs M ∧ M.length ≤ 10 ∧
  ∀ p H' fs, Same H H' → H p = none → H' p = some (.lst (stz fs)) → (∀ y, y ∈ fs ↔ Leads M x y) → fs.length ≤ 10 → Q (.ref p) H'
theorem ok_follow {f : Addr} {fd : FuncData} (F : Fun K "followed" "followed" sFollowed f fd) (B : Bl mg) : FnOk P w K mg base CX0 1 f fd ["links", "place"] spFollow := by
  refine F.ok scFollow (fun vs H Q E h => ?_) (fun cdv A outer s H vs Q E hr h => ?_)
  · obtain ⟨d, od, kvs, M, x, rfl, _⟩ := h
    rfl
  · obtain ⟨d, od, kvs, M, x, rfl, ed, tab, hM, k⟩ := h
    have nd := scFollow.nd
    refine ⟨_, pss_cons (ps_set (i := 2) nd rfl (.inl rfl) (pe_lst pa_nil)) (pss_cons (ps_set (i := 3) nd rfl (.inl rfl) (pe_lst (pa_cons (pv 1) pa_nil)))
      (pss_cons (ps_while PassesOwn.never (pt_truth (pv 3) (by intro _; rfl))
        (pss_cons (ps_set (i := 4) nd rfl (.inl rfl) (pe_bm0 PySem.F.plainAttrs_list PySem.F.slot_list_pop PySem.F.type_list_pop mt_pop (pv 3)))
        (pss_one (ps_for PassesOwn.never rfl (pi_values (pv 0)) (pg_tup rfl (pgs_cons (pg_name (i := 5) nd rfl (.inl rfl)) (pgs_cons (pg_name (i := 6) nd rfl (.inl rfl)) pgs_nil)))
          (pss_one (ps_if (PW.pt (pw_and (pt_cmpR op_eq (pv 5) (pv 4) (nomark _)) (pw_and1 (pt_cmpR op_notIn_seq (pv 6) (pv 2) (by rfl)))))
            (pss_cons (ps_expr (pe_bm PySem.F.plainAttrs_list PySem.F.slot_list_append PySem.F.type_list_append mt_append (pv 2) (pa_cons (pv 6) pa_nil))) (pss_one (ps_expr (pe_bm PySem.F.plainAttrs_list PySem.F.slot_list_append PySem.F.type_list_append mt_append (pv 3) (pa_cons (pv 6) pa_nil))))) pss_nil))))))
      (pss_one (ps_ret (pv 2))))), ?_⟩
    refine ⟨(by decide), fun fo nfo => ⟨_, rfl, (by show 1 ≤ sizeLine; decide), fun wt nwt => ?_⟩⟩
    have nfw : fo ≠ wt := ne_of_none (show (upd H fo (.lst [])) fo = some _ from upd_same) nwt
    have s0 := (same_upd (o := .lst []) nfo).upd (o := .lst [V.str x]) nwt
    have nw0 : H wt = none := none_of (same_upd (o := .lst []) nfo) nwt
    have hkl : kvs.length = M.length := tab.len
    refine ⟨fun m σ H' => ∃ v4 v5 v6 found waiting, σ = [some (.ref d), some (.str x), some (.ref fo), some (.ref wt), v4, v5, v6] ∧ Same H H' ∧ H' fo = some (.lst (stz found)) ∧ H' wt = some (.lst (stz waiting)) ∧ Wl M x found waiting ∧ waiting.length ≤ found.length + 1 ∧ m = waiting.length + (M.length - found.length),
      ⟨_, none, none, none, [], [x], rfl, s0, by rw [upd_ne nfw, upd_same]; rfl, upd_same, wl_start, Nat.le_refl _, rfl⟩, fun m σ H' hW => ?_⟩
    obtain ⟨v4, v5, v6, found, waiting, rfl, s1, ef, ew, wl, hwf, rfl⟩ := hW
    refine ⟨_, rfl, _, .inl ⟨_, SqL.of ew, rfl⟩, ?_⟩
    refine iteB (fun hw => ?_) (fun hw => ?_)
    · obtain ⟨r, b, rfl⟩ : ∃ r b, waiting = r ++ [b] := by
        rcases List.eq_nil_or_concat waiting with z | ⟨r, b, z⟩
        · subst z
          cases hw
        · exact ⟨r, b, by rw [z, List.concat_eq_append]⟩
      refine ⟨fun σ' H'' => ∃ m', m' < (r ++ [b]).length + (M.length - found.length) ∧ (∃ v4 v5 v6 found waiting, σ' = [some (.ref d), some (.str x), some (.ref fo), some (.ref wt), v4, v5, v6] ∧ Same H H'' ∧ H'' fo = some (.lst (stz found)) ∧ H'' wt = some (.lst (stz waiting)) ∧ Wl M x found waiting ∧ waiting.length ≤ found.length + 1 ∧ m' = waiting.length + (M.length - found.length)), fun σ' H'' q => q, ?_⟩
      have el : (stz (r ++ [b]))[(stz (r ++ [b])).length - 1]? = some (.str b) := by
        unfold stz
        rw [List.map_append, List.length_append]
        simp
      have ed2 : (stz (r ++ [b])).dropLast = stz r := by
        unfold stz
        rw [List.map_append]
        simp
      refine ⟨_, rfl, .inl ⟨rfl, _, SqL.of ew⟩, wt, _, .str b, rfl, rfl, ew, el, ?_⟩
      rw [ed2]
      have s2 : Same H (upd H' wt (.lst (stz r))) := fun y o ey => by
        rw [upd_ne (ne_of_none ey nw0)]
        exact s1 _ _ ey
      have ef2 : (upd H' wt (.lst (stz r))) fo = some (.lst (stz found)) := by rw [upd_ne nfw]; exact ef
      have ew2 : (upd H' wt (.lst (stz r))) wt = some (.lst (stz r)) := upd_same
      rw [List.length_append, List.length_singleton] at hwf
      generalize upd H' wt (.lst (stz r)) = H1 at s2 ef2 ew2
      refine ⟨_, rfl, d, od, _, rfl, s2 _ _ ed, for_it walk_values (fun i σ H' => ∃ v5 v6 found' w', σ = [some (.ref d), some (.str x), some (.ref fo), some (.ref wt), some (.str b), v5, v6] ∧ Same H H' ∧ H' fo = some (.lst (stz found')) ∧ H' wt = some (.lst (stz w')) ∧ Wm M (M.take i) x b found' w' ∧ w'.length + (M.length - found'.length) = r.length + (M.length - found.length) ∧ w'.length ≤ found'.length)
        ⟨v5, v6, found, r, rfl, s2, ef2, ew2, wl.pop, rfl, by omega⟩ (fun i σ H' _ ⟨_, _, _, _, _, s3, _⟩ => s3 _ _ ed) ?_ ?_⟩
      · rintro i y σ H2 H3 hi ⟨v5, v6, found', w', rfl, s3, e3, e4, wm, hm, hwl⟩ ⟨rfl, kk, ek⟩
        rw [hkl] at hi
        obtain ⟨⟨nm, t, h⟩, em⟩ := XL.get_some hi
        obtain ⟨kv, ekv, ra, rfl, era⟩ := tab.get em
        rw [ekv] at ek
        cases ek
        refine ⟨ra, _, rfl, SqT.of (s3 _ _ era), rfl, _, _, rfl, _, _, rfl, rfl, ?_⟩
        refine ⟨_, rfl, _, rfl, rfl, _, rfl, ?_⟩
        have eN := inner_get em
        have hf := wm.small
        refine iteB (fun h1 => ?_) (fun h1 => ?_)
        · have h1 : t = b := by
            have : V.str t = V.str b := of_decide_eq_true h1
            injection this
          refine ⟨_, rfl, _, rfl, fo, _, rfl, .inl (SqL.of e3), rfl, flat_stz _, _, rfl, ?_⟩
          refine iteB (fun h2 => ?_) (fun h2 => ?_)
          · have h2 : h ∉ found' := fun z => by
              have q : (!inV (.str h) (stz found')) = true := h2
              rw [in_stz, decide_eq_true z] at q
              cases q
            have wp := wm.push (l := (nm, t, h)) (List.mem_of_getElem? em) h1 h2
            rw [← eN] at wp
            have hf2 := wp.small
            rw [List.length_append, List.length_singleton] at hf2
            refine ⟨_, rfl, .inl ⟨rfl, _, SqL.of e3⟩, _, rfl, fo, _, _, rfl, rfl, e3, by rw [stz_len]; exact small1000 (by omega), ?_⟩
            have ew3 : (upd H3 fo (.lst (stz found' ++ [V.str h]))) wt = some (.lst (stz w')) := by rw [upd_ne nfw.symm]; exact e4
            refine ⟨_, rfl, .inl ⟨rfl, _, SqL.of ew3⟩, _, rfl, wt, _, _, rfl, rfl, ew3, by rw [stz_len]; exact small1000 (by omega), ?_⟩
            refine ⟨_, _, found' ++ [h], w' ++ [h], rfl, (fun y o ey => ?_), ?_, ?_, wp, ?_, ?_⟩
            · rw [upd_ne (ne_of_none ey nw0), upd_ne (ne_of_none ey nfo)]
              exact s3 _ _ ey
            · rw [upd_ne nfw, upd_same]
              unfold stz
              rw [List.map_append]
              rfl
            · rw [upd_same]
              unfold stz
              rw [List.map_append]
              rfl
            · simp only [List.length_append, List.length_singleton]
              omega
            · simp only [List.length_append, List.length_singleton]
              omega
          · have h2 : h ∈ found' := by
              have q : (!inV (.str h) (stz found')) = false := h2
              rw [in_stz] at q
              exact of_decide_eq_true (by simpa using q)
            refine ⟨_, _, found', w', rfl, s3, e3, e4, ?_, hm, by omega⟩
            rw [eN]
            exact wm.skip fun _ => h2
        · have h1 : t ≠ b := fun z => by
            subst z
            simp at h1
          refine iteF ⟨_, _, found', w', rfl, s3, e3, e4, ?_, hm, by omega⟩
          rw [eN]
          exact wm.skip fun z => absurd z h1
      · rintro σ H2 ⟨v5, v6, found', w', rfl, s3, e3, e4, wm, hm, hwl⟩
        rw [hkl, List.take_length] at wm
        refine ⟨_, ?_, _, _, _, found', w', rfl, s3, e3, e4, wm.close, by omega, rfl⟩
        rw [List.length_append, List.length_singleton]
        omega
    · have hw : waiting = [] := by
        cases waiting with
        | nil => rfl
        | cons _ _ => cases hw
      subst hw
      exact ⟨_, rfl, k fo H' found s1 nfo ef wl.all (Nat.le_trans wl.small hM)⟩
end
end XW

/-! Useful links. -/
namespace L2
open PySem PySem.Spec PyProof.Rows
section
variable {X : Cx}
/-- name = {..} on one line, the name a local -/
theorem ps_setDc {i : Nat} {y : Str} {py : Pos} {kx vx tg iter : Expr} {ifs : List Expr} {scope : Scope} {own : List (Str × Nat)} {pos spos : Pos} {wi : TI} {g : TG} {tt : TT} {tk tv : TE} (hc : X.calm = true) (hN : X.N.Nodup) (hy : X.N[i]? = some y) (hyl : X.env.scope.names.lookup y = some .local)
    (hsw : swapsWith (.DictComp kx vx [⟨tg, iter, ifs, 0⟩] scope pos) (some (.Name y py)) spos.line X.env = pure true) (hi : PI X tg iter wi) (ok : BlkOk X.N X.env.scope scope own)
    (hg : ∀ (s : Shared) (H : Hp) (C : Addr) (cl : List (Str × Addr)) (fp : List Addr), PG (X.blk s H scope (compEnvC scope cl C X.env) fp) tg g) (ht : ∀ (s : Shared) (H : Hp) (C : Addr) (cl : List (Str × Addr)) (fp : List Addr), PTs (X.blk s H scope (compEnvC scope cl C X.env) fp) ifs tt)
    (hk : ∀ (s : Shared) (H : Hp) (C : Addr) (cl : List (Str × Addr)) (fp : List Addr), PE (X.blk s H scope (compEnvC scope cl C X.env) fp) kx tk)
    (he : ∀ (s : Shared) (H : Hp) (C : Addr) (cl : List (Str × Addr)) (fp : List Addr), PE (X.blk s H scope (compEnvC scope cl C X.env) fp) vx tv) (hs : ∀ x, foldedSetIterable iter X.env x = pure x := by intro _; rfl) :
    PS X (.Assign [.Name y py] (.DictComp kx vx [⟨tg, iter, ifs, 0⟩] scope pos) spos) (tAsg (tDc wi g tt tk tv (own.map (·.2))) (gName i)) := by
  refine ⟨fun pins s σ H D I h => ?_⟩
  rw [exec_Assign_Name_used _ _ _ _ hsw]
  refine wpAny_bind (wpAny_standAt (wpAny_bind ?_))
  show wpAny _ X.A (do let _ ← comprehension (.DictComp kx vx [⟨tg, iter, ifs, 0⟩] scope pos) scope X.env (firstIterPos [⟨tg, iter, ifs, 0⟩] pos) newDict false (eval iter X.env) (some (assign (.Name y py) X.env))) _ _ s
  have h : tDc wi g tt tk tv (own.map (·.2)) σ H (fun x H1 => gName i x σ H1 D.nx) := h
  refine wpAny_bind (thn (dc_core (Qf := fun _ s' => SP X pins D .next s') hc hN I hi ok hg ht hk he hs h fun L C s' m H' I' q hn f => ?_) fun _ s' hq => wpAny_pure (wpAny_pure hq))
  show wpAny _ _ (assign (.Name y py) X.env (.ref L)) _ _ _
  refine wpAny_assign_Name (store_ok2 (v := V.ref L) I' hN hy (.inl hyl) rfl (fun s2 I2 ⟨a, sb, ha⟩ => ?_) (.inr hyl))
  obtain ⟨f0, f1, f2, f3, f4, f5⟩ := f
  have haC : C ≠ a := by
    rcases ha with z | z
    · rw [z]; exact f1
    · exact fun e => f4 y a z e.symm
  refine ⟨m, hn.sameBut sb haC, fun h3 sb3 => ?_⟩
  exact ⟨_, H', I2.turned (t' := s2.toks) (fun b o hb e => (sb3.2 b hb).trans e) f0 f1 f3 f4 f5, q⟩
theorem sw_trueD {kx vx : Expr} {gs : List Comprehension} {scope : Scope} {pos py : Pos} {y : Str} {l : Nat} {env : Env} (hk : env.scope.kind = .function) (hy : env.scope.names.lookup y = some .local) (hl : (py.line == pos.line) = true)
    (ha : (scope.names.any fun (n, k) => n == y && (k == .local || k == .cell)) = false) : swapsWith (.DictComp kx vx gs scope pos) (some (.Name y py)) l env = pure true := by
  have ky : env.kindOf y = some .local := hy
  have hb : env.blockKind = .function := by unfold Env.blockKind; rw [hk]; rfl
  unfold swapsWith
  simp only [hb, ky, ha, Expr.pos, hl]
  rfl
end
section
variable {J : It} {n : Nat} {G : Hp → Prop} {Y : Nat → Hp → V → Hp → Prop}
/-- a dict comprehension over any walk -/
theorem dc_it (w : Walk J n G Y) {g : TG} {tt : TT} {tk tv : TE} {vs : List Nat} {σ : St} {H1 : Hp} {D : Addr} {Qd : Hp → Prop} (Pv : Nat → Hp → Prop) (h0 : Pv 0 (upd H1 D (.dK []))) (hG : ∀ i H, i ≤ n → Pv i H → G H)
    (hs : ∀ i x H H', i < n → Pv i H → Y i H x H' → g x (wipe σ vs) H' fun σ2 H2 => wipe σ2 vs = wipe σ vs ∧ tt σ2 H2 fun b H3 =>
      if b = true then tk σ2 H3 fun y H4 => tv σ2 H4 fun z H5 => ∃ kvs k, y = kV k ∧ H5 D = some (.dK kvs) ∧ kvs.length < sizeLine ∧ Pv (i + 1) (upd H5 D (.dK (putK kvs k z))) else Pv (i + 1) H3) (hd : ∀ H, Pv n H → Qd H) :
    ∃ W : Nat → Nat → Hp → Prop, (∃ m, W 0 m (upd H1 D (.dK []))) ∧ ∀ i m H, W i m H →
      (J.stop i H ∧ Qd H) ∨ (J.go i H ∧ ∃ Nx : Hp → Prop, (∀ H', Nx H' → ∃ m', m' < m ∧ W (i + 1) m' H') ∧ ∀ x H', J.yld i H x H' → g x (wipe σ vs) H' fun σ2 H2 => wipe σ2 vs = wipe σ vs ∧ tt σ2 H2 fun b H3 =>
        if b = true then tk σ2 H3 fun y H4 => tv σ2 H4 fun z H5 => ∃ kvs k, y = kV k ∧ H5 D = some (.dK kvs) ∧ kvs.length < sizeLine ∧ Nx (upd H5 D (.dK (putK kvs k z))) else Nx H3) := by
  refine ⟨fun i m H => m = n - i ∧ i ≤ n ∧ Pv i H, ⟨n, by simp, Nat.zero_le _, h0⟩, ?_⟩
  rintro i m H ⟨rfl, hi, p⟩
  have q := hG i H hi p
  by_cases hlt : i < n
  · exact .inr ⟨w.goes i H hlt q, Pv (i + 1), fun H' p' => ⟨n - (i + 1), by omega, rfl, hlt, p'⟩, fun x H' y => hs i x H H' hlt p (w.yields i H x H' hlt q y)⟩
  · have e : i = n := by omega
    subst e
    exact .inl ⟨w.stops H q, hd H p⟩
end
end L2
namespace XW
open PySem L2 XL
theorem tab_no {H : Hp} : ∀ {kvs : List (Key × V)} {M : Lks} {n : Str}, A2 (PairAt H) kvs M → n ∉ M.map (·.1) → valV kvs (Sum.inr n) = none
  | _, _, _, .nil, _ => rfl
  | _, _, n, .cons (m := M) (b := l) ⟨r, e, _⟩ t, h => by
    subst e
    have e : ¬ (Sum.inr l.1 : Key) = Sum.inr n := fun q => h (by rw [← Sum.inr.inj q]; simp)
    rw [valV_neg (p := (Sum.inr l.1, V.ref r)) e]
    exact tab_no t fun q => h (by rw [List.map_cons]; exact List.mem_cons_of_mem _ q)
theorem tab_at {H : Hp} : ∀ {kvs : List (Key × V)} {M : Lks} {l : Str × Str × Str}, A2 (PairAt H) kvs M → (M.map (·.1)).Nodup → l ∈ M → ∃ r, valV kvs (Sum.inr l.1) = some (.ref r) ∧ H r = some (.tup [.str l.2.1, .str l.2.2])
  | _, _, _, .nil, _, h => absurd h List.not_mem_nil
  | _, _, l, .cons (m := M) (b := b) ⟨r, e, hr⟩ t, nd, h => by
    subst e
    rw [List.map_cons, List.nodup_cons] at nd
    rcases List.mem_cons.mp h with z | z
    · subst z
      exact ⟨r, valV_pos (p := (Sum.inr l.1, V.ref r)) rfl, hr⟩
    · have e : ¬ (Sum.inr b.1 : Key) = Sum.inr l.1 := fun q => nd.1 (by rw [Sum.inr.inj q]; exact List.mem_map.mpr ⟨l, z, rfl⟩)
      rw [valV_neg (p := (Sum.inr b.1, V.ref r)) e]
      exact tab_at t nd.2 z
theorem PairAt.put {H : Hp} {D : Addr} {k0 k1 : List (Key × V)} (e : H D = some (.dK k0)) {kv : Key × V} {l : Str × Str × Str} (h : PairAt H kv l) : PairAt (upd H D (.dK k1)) kv l := let ⟨r, e1, t⟩ := h; ⟨r, e1, by
  rw [upd_ne (ne_of t e (fun z => nomatch z))]
  exact t⟩
theorem PairAt.lock {H : Hp} {D : Addr} {k0 : List (Key × V)} {o : HO} (e : H D = some (.dK k0)) {kv : Key × V} {l : Str × Str × Str} (h : PairAt H kv l) : PairAt (upd H D o) kv l := let ⟨r, e1, t⟩ := h; ⟨r, e1, by
  rw [upd_ne (ne_of t e (fun z => nomatch z))]
  exact t⟩
/-- what a locked table's walk gives -/
theorem ypair {kvs : List (Key × V)} {M : Lks} {H0 : Hp} (tab : A2 (PairAt H0) kvs M) {i : Nat} {x : V} {H H' : Hp} (hi : i < kvs.length) (y : YPair (fun i => kvs[i]?.map fun kv => kV kv.1) (fun i => kvs[i]?.map Prod.snd) i H x H') :
    ∃ T n t h r, x = .ref T ∧ H T = none ∧ H' = upd H T (.tup [.str n, .ref r]) ∧ M[i]? = some (n, t, h) ∧ H0 r = some (.tup [.str t, .str h]) := by
  obtain ⟨T, a, b, rfl, nT, rfl, ea, eb⟩ := y
  rw [tab.len] at hi
  obtain ⟨⟨n, t, h⟩, em⟩ := XL.get_some hi
  obtain ⟨kv, ekv, r, rfl, er⟩ := tab.get em
  dsimp only at ea eb
  rw [ekv] at ea eb
  cases ea
  cases eb
  exact ⟨T, n, t, h, r, rfl, nT, rfl, em, er⟩
/-- one entry more -/
theorem tab_put {H : Hp} {D r : Addr} {kvs : List (Key × V)} {M : Lks} {l : Str × Str × Str} (e : H D = some (.dK kvs)) (t : A2 (PairAt H) kvs M) (hn : l.1 ∉ M.map (·.1)) (hr : H r = some (.tup [.str l.2.1, .str l.2.2])) :
    ∃ kvs', (upd H D (.dK (putK kvs (Sum.inr l.1) (.ref r)))) D = some (.dK kvs') ∧ A2 (PairAt (upd H D (.dK (putK kvs (Sum.inr l.1) (.ref r))))) kvs' (M ++ [l]) := by
  refine ⟨kvs ++ [(Sum.inr l.1, .ref r)], ?_, ?_⟩
  · rw [upd_same, putK_new _ (tab_no t hn)]
  · exact A2.snoc (t.mono fun _ _ h => h.put e) (PairAt.put e ⟨r, rfl, hr⟩)
theorem fresh_name {M : Lks} (nd : (M.map (·.1)).Nodup) {i : Nat} {l : Str × Str × Str} (e : M[i]? = some l) : l.1 ∉ (M.take i).map (·.1) := fun hm => by
  rw [List.map_take] at hm
  obtain ⟨j, hj⟩ := List.mem_iff_getElem?.mp hm
  have hji : j < i := by
    have := get_lt hj
    rw [List.length_take] at this
    omega
  rw [List.getElem?_take_of_lt hji] at hj
  have hi' : (M.map (·.1))[i]? = some l.1 := by rw [List.getElem?_map, e]; rfl
  have := get_inj nd hj hi'
  omega
section
variable {P : Program} {w : World} {K : PySem.W.Frag} {mg : Str → Option Value} {base : Heap}
theorem scUseful : FnScope ["links", "start", "end", "from_start", "turned", "to_end", "name", "tail", "head"] ["links", "start", "end"] (defScope sUseful) := ⟨rfl, rfl, rfl, by decide +kernel, rfl, by decide +kernel, by decide +kernel⟩
def spUseful : Sp := fun vs H Q _ => ∃ (d : Addr) (kvs : List (Key × V)) (M : Lks) (s e : Str) (rk : Str → Nat), vs = [.ref d, .str s, .str e] ∧ H d = some (.dK kvs) ∧ A2 (PairAt H) kvs M ∧ Net M s e rk ∧
  ∀ p H' kvs', Same H H' → H p = none → H' p = some (.dK kvs') → A2 (PairAt H') kvs' M → Q (.ref p) H'
abbrev gNTT (K : PySem.W.Frag) : TG := gTup K 2 (gCons (gName 6) (gCons (gTup K 2 (gCons (gName 7) (gCons (gName 8) gNil))) gNil))
theorem ok_useful {f fF : Addr} {fd fdF : FuncData} (F : Fun K "useful_links" "useful_links" sUseful f fd) (B : Bl mg) (S : Df K mg "followed" sFollowed ["links", "place"] fF fdF) : FnOk P w K mg base CX0 2 f fd ["links", "start", "end"] spUseful := by
  have GF : FnOk P w K mg base CX0 1 fF fdF ["links", "place"] spFollow := ok_follow S.F B
  refine F.ok scUseful (fun vs H Q E h => ?_) (fun cdv A outer s H vs Q E hr h => ?_)
  · obtain ⟨d, kvs, M, s, e, rk, rfl, _⟩ := h
    rfl
  · obtain ⟨d, kvs, M, s, e, rk, rfl, ed, tab, net, k⟩ := h
    have nd := scUseful.nd
    refine ⟨_, pss_cons (ps_lock (ps_set (i := 3) nd rfl (.inr rfl) (pe_op op_cat (pe_lst (pa_cons (pv 1) pa_nil)) (pe_call GF hr (by rfl) S.g S.F.kp S.b .nil pass0 (pa_cons (pv 0) (pa_cons (pv 1) pa_nil))))))
      (pss_cons (ps_lock (ps_setDc (i := 4) (own := [("name", 6), ("tail", 7), ("head", 8)]) (g := gNTT K) (tt := tYes) (tk := tVar 6) (tv := tTup (tCons (tVar 8) (tCons (tVar 7) tNil)))
          rfl nd rfl rfl (sw_trueD rfl rfl rfl (by decide +kernel)) (pi_items (pv 0))
          (blkOk_by (own := [("name", 6), ("tail", 7), ("head", 8)]) (N := ["links", "start", "end", "from_start", "turned", "to_end", "name", "tail", "head"]) (sc := defScope sUseful) (by decide +kernel))
          (fun _ _ _ _ _ => pg_tup rfl (pgs_cons (pg_name (i := 6) nd rfl (.inl rfl)) (pgs_cons (pg_tup rfl (pgs_cons (pg_name (i := 7) nd rfl (.inl rfl)) (pgs_cons (pg_name (i := 8) nd rfl (.inl rfl)) pgs_nil))) pgs_nil))) (fun _ _ _ _ _ => pts_nil) (fun _ _ _ _ _ => pv 6) (fun _ _ _ _ _ => pe_tup (pa_cons (pv 8) (pa_cons (pv 7) pa_nil)))))
      (pss_cons (ps_lock (ps_set (i := 5) nd rfl (.inr rfl) (pe_op op_cat (pe_lst (pa_cons (pv 2) pa_nil)) (pe_call GF hr (by rfl) S.g S.F.kp S.b .nil pass0 (pa_cons (pv 4) (pa_cons (pv 2) pa_nil))))))
      (pss_one (ps_lock (ps_ret (pe_dc (own := [("name", 6), ("tail", 7), ("head", 8)]) (g := gNTT K) (tt := tAnd (tTest (tOp (rIn K false) (tVar 7) (tVar 3))) (tTest (tOp (rIn K false) (tVar 8) (tVar 5)))) (tk := tVar 6) (tv := tTup (tCons (tVar 7) (tCons (tVar 8) tNil)))
          rfl nd (pi_items (pv 0))
          (blkOk_by (own := [("name", 6), ("tail", 7), ("head", 8)]) (N := ["links", "start", "end", "from_start", "turned", "to_end", "name", "tail", "head"]) (sc := defScope sUseful) (by decide +kernel))
          (fun _ _ _ _ _ => pg_tup rfl (pgs_cons (pg_name (i := 6) nd rfl (.inl rfl)) (pgs_cons (pg_tup rfl (pgs_cons (pg_name (i := 7) nd rfl (.inl rfl)) (pgs_cons (pg_name (i := 8) nd rfl (.inl rfl)) pgs_nil))) pgs_nil)))
          (fun _ _ _ _ _ => pts_one (PW.pt (pw_and (pt_cmpR op_in_seq (pv 7) (pv 3) (by rfl)) (pw_and1 (pt_cmpR op_in_seq (pv 8) (pv 5) (by rfl)))))) (fun _ _ _ _ _ => pv 6) (fun _ _ _ _ _ => pe_tup (pa_cons (pv 7) (pa_cons (pv 8) pa_nil))))))))), ?_⟩
    have hM := net.len
    have hkl : kvs.length = M.length := tab.len
    -- from the start
    refine ⟨d, .dK kvs, ed, True.intro, fun od => ?_⟩
    refine ⟨_, rfl, (by show 1 ≤ sizeLine; decide), fun l nl => ?_⟩
    have sl := same_upd (o := .lst [V.str s]) nl
    refine ⟨_, rfl, _, rfl, d, od, kvs, M, s, rfl, sl _ _ upd_same, tab.mono fun _ _ h => (h.lock ed).same sl, hM, fun p H1 fs s1 np ep lead fl => ?_⟩
    refine ⟨l, p, _, _, rfl, rfl, s1 _ _ upd_same, ep, ?_, fun fs1 nfs1 => ?_⟩
    · rw [stz_len]
      exact Nat.le_trans (m := 1000) (by show 1 + fs.length ≤ 1000; omega) (by decide)
    have s2 := sl.trans (s1.trans (same_upd (o := .lst ([V.str s] ++ stz fs)) nfs1))
    refine ⟨s2 _ _ upd_same, ?_⟩
    have e2f : (upd H1 fs1 (.lst ([V.str s] ++ stz fs))) fs1 = some (.lst (stz (s :: fs))) := upd_same
    generalize upd H1 fs1 (.lst ([V.str s] ++ stz fs)) = H2 at s2 e2f
    have s3 := same_unlock s2 ed
    have e3f : (upd H2 d (.dK kvs)) fs1 = some (.lst (stz (s :: fs))) := by
      rw [upd_ne]
      · exact e2f
      · rintro rfl
        rw [s2 _ _ upd_same] at e2f
        cases e2f
    generalize upd H2 d (.dK kvs) = H3 at s3 e3f
    have tab3 : A2 (PairAt H3) kvs M := tab.mono fun _ _ h => h.same s3
    -- turned about
    refine ⟨d, .dK kvs, s3 _ _ ed, True.intro, fun od2 => ?_⟩
    refine ⟨_, rfl, d, od2, kvs, rfl, upd_same, fun D nD => ?_⟩
    have ndD : d ≠ D := ne_of_none (show (upd H3 d (.frz od2 (.dK kvs))) d = some _ from upd_same) nD
    have tab3l : A2 (PairAt (upd H3 d (.frz od2 (.dK kvs)))) kvs M := tab3.mono fun _ _ h => h.lock (s3 _ _ ed)
    refine dc_it walk_items (fun i H' => Same (upd H3 d (.frz od2 (.dK kvs))) H' ∧ ∃ kvs', H' D = some (.dK kvs') ∧ A2 (PairAt H') kvs' ((turned M).take i))
      ⟨same_upd nD, [], upd_same, .nil⟩ (fun i H' _ ⟨s4, _⟩ => s4 _ _ upd_same) ?_ ?_
    · rintro i x H4 H5 hi ⟨s4, kvs', eD, tD⟩ y
      obtain ⟨T, n, t, h, r, rfl, nT, rfl, em, er⟩ := ypair tab3l hi y
      have s5 := s4.trans (same_upd (o := .tup [V.str n, V.ref r]) nT)
      refine ⟨T, _, rfl, SqT.of upd_same, rfl, _, _, rfl, _, _, rfl, ⟨r, _, rfl, SqT.of (s5 _ _ er), rfl, _, _, rfl, _, _, rfl, rfl, rfl, rfl, ?_⟩⟩
      refine ⟨_, rfl, _, rfl, _, rfl, (by show 2 ≤ sizeLine; decide), fun q nq => ?_⟩
      have s6 := s5.trans (same_upd (o := .tup [V.str h, V.str t]) nq)
      have s45 := (same_upd (o := .tup [V.str n, V.ref r]) nT).trans (same_upd (o := .tup [V.str h, V.str t]) nq)
      have emT : (turned M)[i]? = some (n, h, t) := by unfold turned; rw [List.getElem?_map, em]; rfl
      have ndT : ((turned M).map (·.1)).Nodup := by
        unfold turned
        rw [List.map_map]
        exact net.nd
      obtain ⟨kvs2, e2, t2⟩ := tab_put (r := q) (l := (n, h, t)) (s45 _ _ eD) (tD.mono fun _ _ z => z.same s45) (fresh_name ndT emT) upd_same
      refine ⟨kvs', Sum.inr n, rfl, s45 _ _ eD, ?_, (fun b o eb => ?_), kvs2, e2, ?_⟩
      · rw [tD.len, List.length_take]
        exact small1000 (by unfold turned; rw [List.length_map]; omega)
      · rw [upd_ne]
        · exact s6 _ _ eb
        · rintro rfl
          rw [nD] at eb
          cases eb
      · rw [inner_get emT]
        exact t2
    rintro H4 ⟨s4, kvT, eT, tT⟩
    have hTl : (turned M).length = M.length := by unfold turned; rw [List.length_map]
    rw [hkl, ← hTl, List.take_length] at tT
    refine ⟨s4 _ _ upd_same, ?_⟩
    have s34 := same_unlock s4 (s3 _ _ ed)
    have e4T : (upd H4 d (.dK kvs)) D = some (.dK kvT) := by rw [upd_ne ndD.symm]; exact eT
    have t4T : A2 (PairAt (upd H4 d (.dK kvs))) kvT (turned M) := tT.mono fun _ _ ⟨r, e1, t⟩ => ⟨r, e1, by
      rw [upd_ne]
      · exact t
      · rintro rfl
        rw [s4 _ _ upd_same] at t
        cases t⟩
    generalize upd H4 d (.dK kvs) = H5 at s34 e4T t4T
    -- to the end
    refine ⟨D, .dK kvT, e4T, True.intro, fun od3 => ?_⟩
    refine ⟨_, rfl, (by show 1 ≤ sizeLine; decide), fun l2 nl2 => ?_⟩
    have sl2 := same_upd (o := .lst [V.str e]) nl2
    refine ⟨_, rfl, _, rfl, D, od3, kvT, turned M, e, rfl, sl2 _ _ upd_same, t4T.mono fun _ _ h => (h.lock e4T).same sl2, by omega, fun p2 H6 gs s6 np2 ep2 lead2 gl => ?_⟩
    refine ⟨l2, p2, _, _, rfl, rfl, s6 _ _ upd_same, ep2, ?_, fun fs2 nfs2 => ?_⟩
    · rw [stz_len]
      exact Nat.le_trans (m := 1000) (by show 1 + gs.length ≤ 1000; omega) (by decide)
    have s7 := sl2.trans (s6.trans (same_upd (o := .lst ([V.str e] ++ stz gs)) nfs2))
    refine ⟨s7 _ _ upd_same, ?_⟩
    have e7f : (upd H6 fs2 (.lst ([V.str e] ++ stz gs))) fs2 = some (.lst (stz (e :: gs))) := upd_same
    generalize upd H6 fs2 (.lst ([V.str e] ++ stz gs)) = H7 at s7 e7f
    have s57 := same_unlock s7 e4T
    have e8g : (upd H7 D (.dK kvT)) fs2 = some (.lst (stz (e :: gs))) := by
      rw [upd_ne]
      · exact e7f
      · rintro rfl
        rw [s7 _ _ upd_same] at e7f
        cases e7f
    generalize upd H7 D (.dK kvT) = H8 at s57 e8g
    have s38 : Same H H8 := s3.trans (s34.trans s57)
    have e8f := s57 _ _ (s34 _ _ e3f)
    have e8d := s38 _ _ ed
    -- all the links are useful
    refine ⟨d, .dK kvs, e8d, True.intro, fun od4 => ?_⟩
    refine ⟨_, rfl, d, od4, kvs, rfl, upd_same, fun R nR => ?_⟩
    have ndR : d ≠ R := ne_of_none (show (upd H8 d (.frz od4 (.dK kvs))) d = some _ from upd_same) nR
    have tab8 : A2 (PairAt (upd H8 d (.frz od4 (.dK kvs)))) kvs M := tab.mono fun _ _ h => (h.same s38).lock e8d
    have e9f : (upd H8 d (.frz od4 (.dK kvs))) fs1 = some (.lst (stz (s :: fs))) := by
      rw [upd_ne (ne_of e8f e8d (fun z => nomatch z))]
      exact e8f
    have e9g : (upd H8 d (.frz od4 (.dK kvs))) fs2 = some (.lst (stz (e :: gs))) := by
      rw [upd_ne (ne_of e8g e8d (fun z => nomatch z))]
      exact e8g
    refine dc_it walk_items (fun i H' => Same (upd H8 d (.frz od4 (.dK kvs))) H' ∧ ∃ kvs', H' R = some (.dK kvs') ∧ A2 (PairAt H') kvs' (M.take i))
      ⟨same_upd nR, [], upd_same, .nil⟩ (fun i H' _ ⟨s9, _⟩ => s9 _ _ upd_same) ?_ ?_
    · rintro i x H9 H10 hi ⟨s9, kvs', eD, tD⟩ y
      obtain ⟨T, n, t, h, r, rfl, nT, rfl, em, er⟩ := ypair tab8 hi y
      have s10 := s9.trans (same_upd (o := .tup [V.str n, V.ref r]) nT)
      have hl := List.mem_of_getElem? em
      have ht : t ∈ s :: fs := by
        obtain ⟨wy, hw⟩ := net.frm _ hl
        by_cases z : wy = []
        · subst z
          cases hw
          exact List.mem_cons_self
        · exact List.mem_cons_of_mem _ ((lead t).mpr ⟨wy, z, hw⟩)
      have hh : h ∈ e :: gs := by
        obtain ⟨wy, hw⟩ := net.to _ hl
        by_cases z : wy = []
        · subst z
          cases hw
          exact List.mem_cons_self
        · exact List.mem_cons_of_mem _ ((lead2 h).mpr (turned_leads ⟨wy, z, hw⟩))
      refine ⟨T, _, rfl, SqT.of upd_same, rfl, _, _, rfl, _, _, rfl, ⟨r, _, rfl, SqT.of (s10 _ _ er), rfl, _, _, rfl, _, _, rfl, rfl, rfl, rfl, ?_⟩⟩
      refine ⟨_, rfl, _, rfl, fs1, _, rfl, .inl (SqL.of (s10 _ _ e9f)), rfl, flat_stz _, _, rfl, iteKT (by rw [in_stz]; exact decide_eq_true ht) ?_⟩
      refine ⟨_, rfl, _, rfl, fs2, _, rfl, .inl (SqL.of (s10 _ _ e9g)), rfl, flat_stz _, _, rfl, iteKT (by rw [in_stz]; exact decide_eq_true hh) ?_⟩
      refine ⟨_, rfl, _, rfl, _, rfl, (by show 2 ≤ sizeLine; decide), fun q nq => ?_⟩
      have s11 := s10.trans (same_upd (o := .tup [V.str t, V.str h]) nq)
      have s91 := (same_upd (o := .tup [V.str n, V.ref r]) nT).trans (same_upd (o := .tup [V.str t, V.str h]) nq)
      obtain ⟨kvs2, e2, t2⟩ := tab_put (r := q) (l := (n, t, h)) (s91 _ _ eD) (tD.mono fun _ _ z => z.same s91) (fresh_name net.nd em) upd_same
      refine ⟨kvs', Sum.inr n, rfl, s91 _ _ eD, ?_, (fun b o eb => ?_), kvs2, e2, ?_⟩
      · rw [tD.len, List.length_take]
        exact small1000 (by omega)
      · rw [upd_ne]
        · exact s11 _ _ eb
        · rintro rfl
          rw [nR] at eb
          cases eb
      · rw [inner_get em]
        exact t2
    rintro H9 ⟨s9, kvR, eR, tR⟩
    rw [hkl, List.take_length] at tR
    have nR8 : H8 R = none := by
      rw [upd_ne ndR.symm] at nR
      exact nR
    refine ⟨s9 _ _ upd_same, k R _ kvR (s38.trans (same_unlock s9 e8d)) (none_of s38 nR8) ?_ ?_⟩
    · rw [upd_ne ndR.symm]
      exact eR
    · exact tR.mono fun _ _ ⟨r, e1, t⟩ => ⟨r, e1, by
        rw [upd_ne]
        · exact t
        · rintro rfl
          rw [s9 _ _ upd_same] at t
          cases t⟩
end
end XW

/-! Sets of texts: made by a comprehension of two clauses, sorted. After the library's sets of truth values and lists of two clauses. -/
namespace XSt
open PySem PySem.Spec PyProof.Rows L2

def keyX (e : Int × Value) : Str := match e.2 with | .str k _ => k | _ => ""
def GoodX (w : World) (e : Int × Value) : Prop := ∃ k tk, e.2 = Value.str k tk ∧ e.1 = hashStr w k
/-- the set of bools at a: S its members, n their number; its table rises and can be walked -/
def SetX (w : World) (h : Heap) (a : Addr) (S : Str → Bool) (n : Nat) : Prop :=
  ∃ o es ep t, h.get? a = some o ∧ o.ExactSet ∧ o.data = .set es ep t ∧ (∀ e ∈ es.toList, GoodX w e) ∧ (es.toList.map keyX).Nodup ∧ (∀ k, S k = true ↔ k ∈ es.toList.map keyX) ∧
    es.size < scanBound ∧ t.fits es.size = true ∧ es.size = n ∧ Ris t.place.toList ∧ (w.params.followText "set-order" = true ∨ t.led = true)

section
variable {P : Program} {w : World} {h h' : Heap} {a : Addr} {S : Str → Bool} {n : Nat}

theorem SetX.at (R : SetX w h a S n) (k : ∀ o, h.get? a = some o → h'.get? a = some o) : SetX w h' a S n := by
  obtain ⟨o, es, ep, t, ho, r⟩ := R
  exact ⟨o, es, ep, t, k o ho, r⟩
theorem SetX.lt (R : SetX w h a S n) : a < h.objs.size := by
  obtain ⟨o, es, ep, t, ho, r⟩ := R
  exact Heap.lt_size ho
theorem SetX.congr {S' : Str → Bool} (R : SetX w h a S n) (e : ∀ k, S' k = S k) : SetX w h a S' n := by
  have q : S' = S := funext e
  rw [q]; exact R
theorem goodX_elems {l : List (Int × Value)} (g : ∀ e ∈ l, GoodX w e) : ElemsOf (strKind P w) l := fun e he => by
  obtain ⟨k, tk, h1, h2⟩ := g e he
  exact ⟨⟨k, by rw [h1]; exact strKind_is P w k tk, h2⟩, by rw [h1] <;> rfl⟩
theorem goodX_is {e : Int × Value} (g : GoodX w e) (k : Str) : (strKind P w).is k e.2 = true ↔ keyX e = k := by
  obtain ⟨k0, tk0, h1, _⟩ := g
  unfold keyX
  rw [h1]
  show ((k0 == k) = true) ↔ k0 = k
  exact beq_iff_eq
theorem goodX_mem {l : List (Int × Value)} (g : ∀ e ∈ l, GoodX w e) (k : Str) : k ∈ l.map keyX ↔ ∃ e ∈ l, (strKind P w).is k e.2 = true := by
  rw [List.mem_map]
  constructor
  · rintro ⟨e, he, q⟩
    exact ⟨e, he, (goodX_is (g e he) k).2 q⟩
  · rintro ⟨e, he, q⟩
    exact ⟨e, he, (goodX_is (g e he) k).1 q⟩
theorem SetX.setOf (R : SetX w h a S n) : h.SetOf (strKind P w) a S n := by
  obtain ⟨o, es, ep, t, ho, hx, hd, g, nd, hm, hb, hf, hn, _⟩ := R
  exact ⟨o, es, ep, t, ho, hx, hd, goodX_elems g, fun k => (hm k).trans (goodX_mem g k), hb, hf, hn⟩
end

section
variable {P : Program} {w : World} {A : Around} {E : Value → Shared → Prop} {s : Shared} {a : Addr} {S : Str → Bool} {n : Nat}

/-! ### add -/
theorem storeX_at {h : Heap} {a : Addr} {o : Obj} {es es' : Array (Int × Value)} {ep : Nat} {t t' : SetTable} (ho : h.get? a = some o) (hd : o.data = .set es ep t) :
    (h.update a (Obj.putSet es' t')).get? a = some { o with data := .set es' (ep + 1) t' } := by
  have q := Heap.get?_update_self (Obj.putSet es' t') ho (by rw [putSet_of es' t' hd]; rfl)
  rw [putSet_of es' t' hd] at q
  exact q

theorem setX_add_tail {g : Bool → Sem Unit} (hg : ∀ (b : Bool) (s₁ : Shared) (Q' : Unit → Shared → Prop), Q' () s₁ → wpAny (model P w) A (g b) Q' E s₁)
    {o : Obj} {es : Array (Int × Value)} {ep : Nat} {t : SetTable} (ho : s.heap.get? a = some o) (hex : o.ExactSet) (hd : o.data = .set es ep t)
    {es1 : Array (Int × Value)} {t2 : SetTable} {S' : Str → Bool} (g1 : ∀ e ∈ es1.toList, GoodX w e) (nd1 : (es1.toList.map keyX).Nodup) (m1 : ∀ k, S' k = true ↔ k ∈ es1.toList.map keyX)
    (hb1 : es1.size < scanBound) (hf2 : t2.fits es1.size = true) (hr : Ris t2.place.toList) (hl : w.params.followText "set-order" = true ∨ t2.led = true) {wasDummy : Bool} {R : Option Bool → Shared → Prop}
    (hR : ∀ h', Heap.SameBut a s.heap h' → SetX w h' a S' es1.size → R (some true) { s with heap := h' }) :
    wpAny (model P w) A (do
        storeSet a es1 t2
        if (!wasDummy && t2.tooFull) = true then do
            g (relayAll t2 es1 (SetTable.grown es1.size)).2.2
            storeSet a (relayAll t2 es1 (SetTable.grown es1.size)).1 (relayAll t2 es1 (SetTable.grown es1.size)).2.1
            pure (some true)
          else pure (some true)) R E s := by
  refine wpAny_bind (wpAny_storeSet_of ho hd ?_ (fits_of_scanBound hb1))
  have ho1 := storeX_at (es' := es1) (t' := t2) ho hd
  have sb1 := Heap.SameBut.update s.heap a (Obj.putSet es1 t2)
  split
  · have pm := relayAll_perm t2 es1 (SetTable.grown es1.size)
    have hf3 := relayAll_fits t2 es1 (SetTable.grown es1.size)
    have hr3 := relayAll_ris t2 es1 (SetTable.grown es1.size)
    have hl3 := relayAll_led t2 es1 (SetTable.grown es1.size)
    generalize relayAll t2 es1 (SetTable.grown es1.size) = Z at pm hf3 hr3 hl3 ⊢
    obtain ⟨es2, t3, gave⟩ := Z
    dsimp only at pm hf3 hr3 hl3 ⊢
    have hsz : es2.size = es1.size := by rw [← Array.length_toList, pm.length_eq, Array.length_toList]
    have hb2 : es2.size < scanBound := by rw [hsz]; exact hb1
    refine wpAny_bind (hg _ _ _ ?_)
    refine wpAny_bind (wpAny_storeSet_of ho1 rfl ?_ (fits_of_scanBound hb2))
    have ho2 := storeX_at (es' := es2) (t' := t3) ho1 rfl
    refine wpAny_pure (hR _ (sb1.trans (Heap.SameBut.update _ a _)) ?_)
    exact ⟨_, es2, _, t3, ho2, hex, rfl, fun e he => g1 e (pm.mem_iff.mp he), (pm.map keyX).nodup_iff.mpr nd1, fun k => (m1 k).trans (pm.map keyX).mem_iff.symm, hb2, hf3, hsz, hr3,
      hl.imp id fun z => by rw [hl3]; exact z⟩
  · exact wpAny_pure (hR _ sb1 ⟨_, es1, _, t2, ho1, hex, rfl, g1, nd1, m1, hb1, hf2, rfl, hr, hl⟩)

theorem setX_add_hashed {k : Str} {tk : Tok} {Q : Bool → Shared → Prop} (R : SetX w s.heap a S n) (room : n + 1 < scanBound)
    (hQ : ∀ h', Heap.SameBut a s.heap h' → SetX w h' a (fun j => S j || decide (j = k)) (if S k = true then n else n + 1) → Q (!S k) { s with heap := h' }) :
    wpAny (model P w) A (setAddHashed a (.str k tk) ((strKind P w).hash k)) Q E s := by
  obtain ⟨o, es, ep, t, ho, hex, hd, g, nd, hm, hb, hf, hn, hr, hl⟩ := R
  have hkey : (strKind P w).is k (.str k tk) = true := strKind_is P w k tk
  have hsc : (Value.str k tk).scannable = true := rfl
  have hel : ElemsOf (strKind P w) es.toList := goodX_elems g
  unfold setAddHashed setAddHashedIn
  refine wpAny_holding (wpAny_bind (wpAny_setState_of ho hd hf ?_))
  dsimp only
  rw [byScan_of hsc hb hel]
  simp only [↓reduceIte]
  unfold setAddByScan
  refine wpAny_bind ?_
  refine wpAny_bind (wpAny_rule ?_)
  refine wpAny_bind (wpAny_setScan_of hkey ho hd hf hel ?_)
  cases hfi : List.findIdx? (fun e => (strKind P w).is k e.2) es.toList with
  | some j =>
    dsimp only
    obtain ⟨hj, pj, _⟩ := List.findIdx?_eq_some_iff_getElem.mp hfi
    have hSk : S k = true := (hm k).2 ((goodX_mem (P := P) (w := w) g k).2 ⟨es.toList[j], List.getElem_mem hj, pj⟩)
    refine wpAny_pure (wpAny_pure ?_)
    have q := hQ s.heap (Heap.SameBut.refl a s.heap) ⟨o, es, ep, t, ho, hex, hd, g, nd, fun i => by
      rw [Bool.or_eq_true, decide_eq_true_eq, ← hm i]
      exact ⟨fun z => z.elim id (fun e => e ▸ hSk), .inl⟩, hb, hf, by rw [if_pos hSk]; exact hn, hr, hl⟩
    rw [hSk] at q
    exact q
  | none =>
    dsimp only
    have hnk : k ∉ es.toList.map keyX := fun z => by
      obtain ⟨e, he, q⟩ := (goodX_mem (P := P) (w := w) g k).1 z
      have c := List.findIdx?_eq_none_iff.mp hfi e he
      rw [q] at c
      cases c
    have hSk : S k = false := by
      cases q : S k with
      | false => rfl
      | true => exact absurd ((hm k).1 q) hnk
    have hgw : ∀ (b : Bool) {s₁ : Shared} {Q' : Unit → Shared → Prop}, Q' () s₁ → wpAny (model P w) A (match b with | true => rule "set.scan.the-table-gave-way" | false => pure ()) Q' E s₁ :=
      fun b s₁ Q' q => by cases b <;> first | exact wpAny_pure q | exact wpAny_rule q
    have pm := layNew_perm t es ((strKind P w).hash k) (.str k tk)
    have hf1 := layNew_fits t es ((strKind P w).hash k) (.str k tk)
    have hr1 := layNew_ris t es ((strKind P w).hash k) (.str k tk) hr
    have hl1 := layNew_led t es ((strKind P w).hash k) (.str k tk)
    generalize layNew t es ((strKind P w).hash k) (.str k tk) = Z at pm hf1 hr1 hl1 ⊢
    obtain ⟨es1, t1, wasDummy, gave⟩ := Z
    dsimp only at pm hf1 hr1 hl1 ⊢
    rw [Array.toList_push] at pm
    have pc : es1.toList.Perm (((strKind P w).hash k, Value.str k tk) :: es.toList) := pm.trans (List.perm_append_singleton _ _)
    have pk : (es1.toList.map keyX).Perm (k :: es.toList.map keyX) := pc.map keyX
    have g1 : ∀ e ∈ es1.toList, GoodX w e := fun e he => by
      rcases List.mem_cons.mp (pc.mem_iff.mp he) with z | z
      · rw [z]; exact ⟨k, tk, rfl, rfl⟩
      · exact g e z
    have nd1 : (es1.toList.map keyX).Nodup := pk.nodup_iff.mpr (List.nodup_cons.mpr ⟨hnk, nd⟩)
    have m1 : ∀ i, (S i || decide (i = k)) = true ↔ i ∈ es1.toList.map keyX := fun i => by
      rw [Bool.or_eq_true, decide_eq_true_eq, hm i, pk.mem_iff, List.mem_cons]
      exact Or.comm
    have hsz : es1.size = n + 1 := by rw [← Array.length_toList, pc.length_eq, List.length_cons, Array.length_toList, hn]
    have hb1 : es1.size < scanBound := by rw [hsz]; exact room
    have hled : w.params.followText "set-order" = true ∨ t1.led = true := hl.imp id fun z => by rw [hl1]; exact z
    have fin : ∀ h', Heap.SameBut a s.heap h' → SetX w h' a (fun j => S j || decide (j = k)) es1.size → Q true { s with heap := h' } := fun h' sb r => by
      have q := hQ h' sb
      rw [hSk] at q
      rw [hsz] at r
      exact q r
    refine wpAny_bind (hgw _ ?_)
    split
    · refine wpAny_bind ?_
      rw [hashByValue_scannable 8 hsc]
      refine wpAny_pure ?_
      refine setX_add_tail ?_ ho hex hd g1 nd1 m1 hb1 ?_ ?_ ?_ ?_
      · intro b s₁ Q' q; cases b <;> first | exact wpAny_pure q | exact wpAny_rule q
      · first | (split <;> first | exact hf1 | exact SetTable.fits_plain_off hf1) | exact hf1
      · first | (split <;> exact hr1) | exact hr1
      · first | (split <;> exact hled) | exact hled
      · intro h' sb r; dsimp only; exact wpAny_pure (fin h' sb r)
    · refine wpAny_bind (wpAny_pure ?_)
      simp only [↓reduceIte]
      refine setX_add_tail ?_ ho hex hd g1 nd1 m1 hb1 hf1 hr1 hled ?_
      · intro b s₁ Q' q; cases b <;> first | exact wpAny_pure q | exact wpAny_rule q
      · intro h' sb r; dsimp only; exact wpAny_pure (fin h' sb r)

/-- found.add(k) -/
theorem setX_add {k : Str} {tk : Tok} {Q : Value → Shared → Prop} (R : SetX w s.heap a S n) (room : n + 1 < scanBound)
    (hQ : ∀ h', Heap.SameBut a s.heap h' → SetX w h' a (fun j => S j || decide (j = k)) (if S k = true then n else n + 1) → Q .none { s with heap := h', toks := s.toks + 1 }) :
    wpAny (model P w) A (call (.builtin "set.add") [.ref a, .str k tk]) Q E s := by
  have hS : s.heap.SetOf (strKind P w) a S n := R.setOf
  refine wpAny_call_entry F.slot_set_add hS.typeIs F.entry_set_add ?_ (F.args_set_add_2 _ _)
  unfold Builtin.«set.add» Builtin.Frozenset.oneOther
  simp only [List.isEmpty_nil, bind_assoc]
  unfold Builtin.Frozenset.addrOf setAdd
  refine wpAny_bind (wpAny_pure ?_)
  try dsimp only
  refine wpAny_bind (wpAny_pure ?_)
  try dsimp only
  refine wpAny_bind ?_
  refine wpAny_holding ?_
  refine wpAny_bind ((strKind P w).pyHash (strKind_is P w k tk) ?_)
  refine setX_add_hashed (s := { s with toks := s.toks + 1 }) R room fun h' sb r => ?_
  show wpAny _ _ (ret Value.none) _ _ _
  exact wpAny_pure ⟨_, rfl, hQ h' sb r⟩

end
section
variable {P : Program} {w : World} {A : Around} {E : Value → Shared → Prop} {s : Shared}
/-! ### a new set -/
theorem setX_fresh {h : Heap} (w : World) : SetX w (h.push { cls := .type "set", dict := none, data := .set #[] 0 (.fresh 0 0 (!w.params.followText "set-order")) }) h.objs.size (fun _ => false) 0 :=
  ⟨_, #[], 0, _, Heap.get?_push_size _ rfl, ⟨rfl, rfl, rfl⟩, rfl, (fun e he => by simp at he), (by simp), (fun k => by simp), (by decide), (by rfl), rfl, List.Pairwise.nil, by
    show _ ∨ (!w.params.followText "set-order") = true
    cases w.params.followText "set-order"
    · exact .inr rfl
    · exact .inl rfl⟩
theorem newSet_ok {Q : Value → Shared → Prop} (h : Q (.ref s.heap.objs.size) { s with heap := s.heap.push { cls := .type "set", dict := none, data := .set #[] 0 (.fresh 0 0 (!w.params.followText "set-order")) } }) :
    wpAny (model P w) A (newSet (.type "set")) Q E s := by
  unfold newSet
  refine wpAny_bind (wpAny_byText ?_)
  dsimp only
  simp only [newObj]
  exact wpAny_bind (wpAny_alloc (wpAny_pure h))


/-- the set of truth values at a -/
def SetXO (w : World) (a : Addr) (S : Str → Bool) (n : Nat) : HO := .ext fun h => SetX w h a S n
theorem setXO_new {w : World} {P : Program} {H : Hp} {h : Heap} {a : Addr} {S : Str → Bool} {n : Nat} (R : SetX w h a S n) : ObjOk P w H h a (SetXO w a S n) := by
  have ⟨o, _, _, _, ho, _⟩ := R
  exact ⟨R, ⟨o, ho⟩, fun h1 h2 p k => SetX.at p k⟩
section
variable {X : Cx}
theorem setXO_get {pins : List (Addr × Obj)} {σ : L2.St} {H : Hp} {s : Shared} {a : Addr} {S : Str → Bool} {n : Nat} (I : Inv X pins σ H s) (ha : H a = some (SetXO X.w a S n)) : SetX X.w s.heap a S n := (I.hok a _ ha).1
/-- set.add of a truth value -/
theorem addX_ok {pins : List (Addr × Obj)} {σ : L2.St} {H : Hp} {s : Shared} {E : Value → Shared → Prop} {D : Addr} {S : Str → Bool} {n : Nat} {y : Str} {tk : Tok} {Q : Value → Shared → Prop} (I : Inv X pins σ H s) (hD : H D = some (SetXO X.w D S n)) (room : n + 1 < scanBound)
    (h : ∀ s', Inv X pins σ (upd H D (SetXO X.w D (fun j => S j || decide (j = y)) (if S y = true then n else n + 1))) s' → Q .none s') : wpAny (model X.prog X.w) X.A (call (.builtin "set.add") [.ref D, .str y tk]) Q E s := by
  have R := setXO_get I hD
  refine setX_add R room fun h' sb new => ?_
  have he : ∃ u, h'.get? D = some u := by
    have ⟨o, _, _, _, ho, _⟩ := new
    exact ⟨o, ho⟩
  exact h _ (I.write (e := D) (t' := s.toks + 1) (by rw [hD]; trivial) (.inl rfl) (fun b u hb hu => (sb.2 b hb).trans hu) he (setXO_new new))
end
section
variable {prog : Program} {w : World} {A : Around} {R : Result → Shared → Prop} {s : Shared} {env : Env}
theorem eval_SetComp (elt : Expr) (gens : List Comprehension) (scope : Scope) (pos : Pos) : eval (.SetComp elt gens scope pos) env =
    comprehension (.SetComp elt gens scope pos) scope env (firstIterPos gens pos) (newSet (.type "set")) (firstAsync gens) (firstIter gens env) := rfl
theorem codeAny_compStart_set {elt target iter : Expr} {ifs : List Expr} {rest : List Comprehension} {scope : Scope} {pos : Pos} {it acc : Value}
    (h0 : codeAny (model prog w) A (.compLoop (.SetComp elt (⟨target, iter, ifs, 0⟩ :: rest) scope pos) 0 it acc env) R s)
    (h : wpAny (model prog w) A (pyIter it) (fun it' s' => codeAny (model prog w) A (.compLoop (.SetComp elt (⟨target, iter, ifs, 0⟩ :: rest) scope pos) 0 it' acc env) R s')
      (notedBy (model prog w) A env fun x s' => R (.error x) s') s) :
    codeAny (model prog w) A (.compStart (.SetComp elt (⟨target, iter, ifs, 0⟩ :: rest) scope pos) 0 it acc env) R s := by
  refine codeAny_of_tree ?_
  show wpAny _ _ ((compStart (.SetComp elt (⟨target, iter, ifs, 0⟩ :: rest) scope pos) 0 it acc env).onRaise (fun x => do noteFrame x env; standAt theWindowsPlace)) _ _ s
  refine wpAny_notedAt ?_
  unfold compStart
  show wpAny _ _ (ask >>= _) _ _ s
  refine wpAny_bind (wpAny_askSetting (wpAny_ite ?_))
  split
  · first
      | exact wpAny_bind (wpAny_pure (wpAny_pure (And.intro rfl h0)))
      | exact wpAny_pure (And.intro rfl h0)
  · first
      | exact wpAny_bind (wpAny_rule (wpAny_bind (wpAny_standAt (wpAny_bind (wpAny_mono h (fun it' s' h' => wpAny_pure (And.intro rfl h')) fun _ _ x => x)))))
      | (refine wpAny_bind (wpAny_rule ?_); show wpAny _ _ (standAt iter.pos >>= _) _ _ s; exact wpAny_bind (wpAny_standAt (wpAny_bind (wpAny_mono h (fun it' s' h' => wpAny_pure (And.intro rfl h')) fun _ _ x => x))))
end
theorem compTurnS2_out (elt t0 i0 t1 i1 : Expr) (ifs0 ifs1 : List Expr) (scope : Scope) (pos : Pos) (it acc : Value) (env : Env) :
    compTurn (.SetComp elt [⟨t0, i0, ifs0, 0⟩, ⟨t1, i1, ifs1, 0⟩] scope pos) 0 it acc env = (do
      standAt i0.pos
      match ← pyNext it with
      | none => pure (.done .next)
      | some v =>
        letOwnedTupleGo t0 it v
        assign t0 env v
        let mut ok := true
        for c in ifs0 do
          if ok then ok ← isTrue c env (eval c env)
        if ok then
          let x ← eval i1 env
          standAt i1.pos
          let x ← foldedSetIterable i1 env x
          let _ ← runOwn (.compStart (.SetComp elt [⟨t0, i0, ifs0, 0⟩, ⟨t1, i1, ifs1, 0⟩] scope pos) 1 (← holding [x] (pyIter x)) acc env) env
        again (.compLoop (.SetComp elt [⟨t0, i0, ifs0, 0⟩, ⟨t1, i1, ifs1, 0⟩] scope pos) 0 it acc env)) := by rfl
theorem compTurnS2_in (elt t0 i0 t1 i1 : Expr) (ifs0 ifs1 : List Expr) (scope : Scope) (pos : Pos) (it acc : Value) (env : Env) :
    compTurn (.SetComp elt [⟨t0, i0, ifs0, 0⟩, ⟨t1, i1, ifs1, 0⟩] scope pos) 1 it acc env = (do
      standAt i1.pos
      match ← pyNext it with
      | none => pure (.done .next)
      | some v =>
        letOwnedTupleGo t1 it v
        assign t1 env v
        let mut ok := true
        for c in ifs1 do
          if ok then ok ← isTrue c env (eval c env)
        if ok then
          (do let v ← eval elt env; standAt elt.pos; let _ ← call (.builtin "set.add") [acc, v])
        again (.compLoop (.SetComp elt [⟨t0, i0, ifs0, 0⟩, ⟨t1, i1, ifs1, 0⟩] scope pos) 1 it acc env)) := by rfl

section
variable {prog : Program} {w : World} {A : Around} {R : Result → Shared → Prop} {s : Shared} {elt t0 i0 t1 i1 : Expr} {ifs0 ifs1 : List Expr} {scope : Scope} {pos : Pos} {it acc : Value} {env : Env}
/-- the loop of the first clause -/
theorem compLoopS2_out (hs : ∀ x, foldedSetIterable i1 env x = pure x) (I : Nat → Shared → Prop)
    (turn : ∀ n s, I n s → wpAny (model prog w) A (pyNext it) (fun r s₁ => match r with
      | none => R (.ok .next) s₁
      | some v => wpAny (model prog w) A (letOwnedTupleGo t0 it v) (fun _ s₁' => wpAny (model prog w) A (assign t0 env v) (fun _ s₂ =>
          wpAny (model prog w) A (forIn ifs0 true fun c r => if r = true then do let ok ← isTrue c env (eval c env); pure (ForInStep.yield ok) else pure (ForInStep.yield r)) (fun ok s₃ =>
            if ok = true then wpAny (model prog w) A (eval i1 env) (fun x s₄ => wpAny (model prog w) A (pyIter x) (fun it1 s₅ =>
              codeAny (model prog w) A (.compStart (.SetComp elt [⟨t0, i0, ifs0, 0⟩, ⟨t1, i1, ifs1, 0⟩] scope pos) 1 it1 acc env) (fun r s' => match r with
                | .ok _ => ∃ m, m < n ∧ I m s'
                | .error _ => False) s₅) (notedBy (model prog w) A env fun e s' => R (.error e) s') s₄) (notedBy (model prog w) A env fun e s' => R (.error e) s') s₃
            else ∃ m, m < n ∧ I m s₃) (notedBy (model prog w) A env fun e s' => R (.error e) s') s₂) (notedBy (model prog w) A env fun e s' => R (.error e) s') s₁') (notedBy (model prog w) A env fun e s' => R (.error e) s') s₁) (notedBy (model prog w) A env fun e s' => R (.error e) s') s)
    (n : Nat) (h : I n s) :
    codeAny (model prog w) A (.compLoop (.SetComp elt [⟨t0, i0, ifs0, 0⟩, ⟨t1, i1, ifs1, 0⟩] scope pos) 0 it acc env) R s := by
  refine codeAny_loop rfl I (fun n s hI => ?_) n h
  show wpAny _ A ((compTurn (.SetComp elt [⟨t0, i0, ifs0, 0⟩, ⟨t1, i1, ifs1, 0⟩] scope pos) 0 it acc env).onRaise (fun x => do noteFrame x env; theTreesLotGoes x)) _ _ s
  refine wpAny_noted ?_
  rw [compTurnS2_out]
  refine wpAny_bind (wpAny_standAt (wpAny_bind (wpAny_mono (turn n s hI) (fun r s₁ h₁ => ?_) fun _ _ h' => h')))
  cases r with
  | none => exact wpAny_pure h₁
  | some v =>
    refine wpAny_bind (wpAny_mono h₁ (fun _ s₁' h₁' => ?_) fun _ _ h' => h')
    refine wpAny_bind (wpAny_mono h₁' (fun _ s₂ h₂ => wpAny_bind (wpAny_mono h₂ (fun ok s₃ h₃ => ?_) fun _ _ h' => h')) fun _ _ h' => h')
    cases ok with
    | false => exact wpAny_pure ⟨rfl, h₃⟩
    | true =>
      refine wpAny_bind (wpAny_mono h₃ (fun x s₄ h₄ => ?_) fun _ _ h' => h')
      refine wpAny_bind (wpAny_standAt (wpAny_bind (wpAny_of_eq (hs x) (wpAny_bind (wpAny_holding (wpAny_mono h₄ (fun it1 s₅ h₅ => ?_) fun _ _ h' => h'))))))
      refine wpAny_bind (wpAny_runOwn ?_)
      rw [Around.mark_none]
      refine codeAny_mono h₅ fun r s' hr => ?_
      cases r with
      | ok f =>
        first
          | exact wpAny_pure ⟨rfl, hr⟩
          | exact wpAny_bind (wpAny_pure (wpAny_pure ⟨rfl, hr⟩))
      | error e => exact hr.elim
/-- the loop of the second -/
theorem compLoopS2_in (I : Nat → Shared → Prop)
    (turn : ∀ n s, I n s → wpAny (model prog w) A (pyNext it) (fun r s₁ => match r with
      | none => R (.ok .next) s₁
      | some v => wpAny (model prog w) A (letOwnedTupleGo t1 it v) (fun _ s₁' => wpAny (model prog w) A (assign t1 env v) (fun _ s₂ =>
          wpAny (model prog w) A (forIn ifs1 true fun c r => if r = true then do let ok ← isTrue c env (eval c env); pure (ForInStep.yield ok) else pure (ForInStep.yield r)) (fun ok s₃ =>
            if ok = true then wpAny (model prog w) A (eval elt env) (fun x s₄ =>
              wpAny (model prog w) A (call (.builtin "set.add") [acc, x]) (fun _ s₅ => ∃ m, m < n ∧ I m s₅) (notedBy (model prog w) A env fun e s' => R (.error e) s') s₄) (notedBy (model prog w) A env fun e s' => R (.error e) s') s₃
            else ∃ m, m < n ∧ I m s₃) (notedBy (model prog w) A env fun e s' => R (.error e) s') s₂) (notedBy (model prog w) A env fun e s' => R (.error e) s') s₁') (notedBy (model prog w) A env fun e s' => R (.error e) s') s₁) (notedBy (model prog w) A env fun e s' => R (.error e) s') s)
    (n : Nat) (h : I n s) :
    codeAny (model prog w) A (.compLoop (.SetComp elt [⟨t0, i0, ifs0, 0⟩, ⟨t1, i1, ifs1, 0⟩] scope pos) 1 it acc env) R s := by
  refine codeAny_loop rfl I (fun n s hI => ?_) n h
  show wpAny _ A ((compTurn (.SetComp elt [⟨t0, i0, ifs0, 0⟩, ⟨t1, i1, ifs1, 0⟩] scope pos) 1 it acc env).onRaise (fun x => do noteFrame x env; theTreesLotGoes x)) _ _ s
  refine wpAny_noted ?_
  rw [compTurnS2_in]
  refine wpAny_bind (wpAny_standAt (wpAny_bind (wpAny_mono (turn n s hI) (fun r s₁ h₁ => ?_) fun _ _ h' => h')))
  cases r with
  | none => exact wpAny_pure h₁
  | some v =>
    refine wpAny_bind (wpAny_mono h₁ (fun _ s₁' h₁' => ?_) fun _ _ h' => h')
    refine wpAny_bind (wpAny_mono h₁' (fun _ s₂ h₂ => wpAny_bind (wpAny_mono h₂ (fun ok s₃ h₃ => ?_) fun _ _ h' => h')) fun _ _ h' => h')
    cases ok with
    | false => exact wpAny_pure ⟨rfl, h₃⟩
    | true =>
      exact wpAny_bind (wpAny_bind (wpAny_mono h₃ (fun x s₄ h₄ => wpAny_bind (wpAny_standAt (wpAny_bind (wpAny_mono h₄ (fun _ s₅ h₅ => wpAny_pure (wpAny_pure ⟨rfl, h₅⟩)) fun _ _ h' => h')))) fun _ _ h' => h'))
/-- the second clause's start -/
theorem compStartS1_ok (h0 : codeAny (model prog w) A (.compLoop (.SetComp elt [⟨t0, i0, ifs0, 0⟩, ⟨t1, i1, ifs1, 0⟩] scope pos) 1 it acc env) R s)
    (h : wpAny (model prog w) A (pyIter it) (fun it' s' => codeAny (model prog w) A (.compLoop (.SetComp elt [⟨t0, i0, ifs0, 0⟩, ⟨t1, i1, ifs1, 0⟩] scope pos) 1 it' acc env) R s')
      (notedBy (model prog w) A env fun x s' => R (.error x) s') s) :
    codeAny (model prog w) A (.compStart (.SetComp elt [⟨t0, i0, ifs0, 0⟩, ⟨t1, i1, ifs1, 0⟩] scope pos) 1 it acc env) R s := by
  refine codeAny_of_tree ?_
  show wpAny _ _ ((compStart (.SetComp elt [⟨t0, i0, ifs0, 0⟩, ⟨t1, i1, ifs1, 0⟩] scope pos) 1 it acc env).onRaise (fun x => do noteFrame x env; standAt theWindowsPlace)) _ _ s
  refine wpAny_notedAt ?_
  unfold compStart
  show wpAny _ _ (ask >>= _) _ _ s
  refine wpAny_bind (wpAny_askSetting (wpAny_ite ?_))
  split
  · first
      | exact wpAny_bind (wpAny_pure (wpAny_pure (And.intro rfl h0)))
      | exact wpAny_pure (And.intro rfl h0)
  · first
      | exact wpAny_bind (wpAny_rule (wpAny_bind (wpAny_standAt (wpAny_bind (wpAny_mono h (fun it' s' h' => wpAny_pure (And.intro rfl h')) fun _ _ x => x)))))
      | (refine wpAny_bind (wpAny_rule ?_); show wpAny _ _ (standAt i1.pos >>= _) _ _ s; exact wpAny_bind (wpAny_standAt (wpAny_bind (wpAny_mono h (fun it' s' h' => wpAny_pure (And.intro rfl h')) fun _ _ x => x))))
end
section
variable {X : Cx}
/-- [elt for tg in iter if .. for tg1 in iter1 if ..]: behind the first clause's store and tests the second source's own loop, from which Nx is reached. vs: the block's names; vs1: those of the second target -/
def tSc2 (w : World) (wi : TI) (g : TG) (tt : TT) (wi1 : TI) (g1 : TG) (tt1 : TT) (te : TE) (vs vs1 : List Nat) : TE := fun σ H Q => wi σ H fun J H1 => ∀ D, H1 D = none → ∃ W : Nat → Nat → Hp → Prop, (∃ m, W 0 m (upd H1 D (SetXO w D (fun _ => false) 0))) ∧ ∀ i m H, W i m H →
  (J.stop i H ∧ Q (.ref D) H) ∨ (J.go i H ∧ ∃ Nx : Hp → Prop, (∀ H', Nx H' → ∃ m', m' < m ∧ W (i + 1) m' H') ∧ ∀ x H', J.yld i H x H' → g x (wipe σ vs) H' fun σ2 H2 => wipe σ2 vs = wipe σ vs ∧ tt σ2 H2 fun b H3 =>
    if b = true then wi1 σ2 H3 fun J1 H4 => ∃ W1 : Nat → Nat → Hp → Prop, (∃ m, W1 0 m H4) ∧ ∀ j k H, W1 j k H →
      (J1.stop j H ∧ Nx H) ∨ (J1.go j H ∧ ∃ Nx1 : Hp → Prop, (∀ H', Nx1 H' → ∃ k', k' < k ∧ W1 (j + 1) k' H') ∧ ∀ x H', J1.yld j H x H' → g1 x (wipe σ2 vs1) H' fun σ3 H5 => wipe σ3 vs1 = wipe σ2 vs1 ∧ tt1 σ3 H5 fun b H6 =>
        if b = true then te σ3 H6 fun y H7 => ∃ (c : Str) (S : Str → Bool) (n : Nat), y = .str c ∧ H7 D = some (SetXO w D S n) ∧ n + 1 < scanBound ∧ Nx1 (upd H7 D (SetXO w D (fun j => S j || decide (j = c)) (if S c = true then n else n + 1))) else Nx1 H6)
    else Nx H3)
theorem sc2_core {pins : List (Addr × Obj)} {s : Shared} {σ : L2.St} {H : Hp} {Q : VK} {elt tg iter tg1 iter1 : Expr} {ifs ifs1 : List Expr} {scope : Scope} {own : List (Str × Nat)} {vs1 : List Nat} {pos pos' : Pos} {wi wi1 : TI} {g g1 : TG} {tt tt1 : TT} {te : TE} {use : Option (Value → Sem Unit)} {Qf : Value → Shared → Prop}
    (hc : X.calm = true) (hN : X.N.Nodup) (I : Inv X pins σ H s) (hi : PI X tg iter wi) (ok : BlkOk X.N X.env.scope scope own) (hv : ∀ i ∈ vs1, i ∈ own.map (·.2))
    (hg : ∀ (s : Shared) (H : Hp) (C : Addr) (cl : List (Str × Addr)) (fp : List Addr), PG (X.blk s H scope (compEnvC scope cl C X.env) fp) tg g) (ht : ∀ (s : Shared) (H : Hp) (C : Addr) (cl : List (Str × Addr)) (fp : List Addr), PTs (X.blk s H scope (compEnvC scope cl C X.env) fp) ifs tt)
    (he : ∀ (s : Shared) (H : Hp) (C : Addr) (cl : List (Str × Addr)) (fp : List Addr), PE (X.blk s H scope (compEnvC scope cl C X.env) fp) elt te) (hs : ∀ x, foldedSetIterable iter X.env x = pure x)
    (hi1 : ∀ (s : Shared) (H : Hp) (C : Addr) (cl : List (Str × Addr)) (fp : List Addr), PI (X.blk s H scope (compEnvC scope cl C X.env) fp) tg1 iter1 wi1)
    (hg1 : ∀ (s : Shared) (H : Hp) (C : Addr) (cl : List (Str × Addr)) (fp : List Addr), PG (X.blk s H scope (compEnvC scope cl C X.env) fp) tg1 g1)
    (ht1 : ∀ (s : Shared) (H : Hp) (C : Addr) (cl : List (Str × Addr)) (fp : List Addr), PTs (X.blk s H scope (compEnvC scope cl C X.env) fp) ifs1 tt1)
    (hs1 : ∀ env x, foldedSetIterable iter1 env x = pure x)
    (h : tSc2 X.w wi g tt wi1 g1 tt1 te (own.map (·.2)) vs1 σ H Q)
    (hRR : ∀ D C s' m H', Inv X pins σ H' s' → Q (.ref D) H' → s'.heap.Ns C m → FpOk X pins H' C → compPost (model X.prog X.w) X.A X.xe use Qf (.ref D) C (.ok .next) s') :
    wpAny (model X.prog X.w) X.A (comprehension (.SetComp elt [⟨tg, iter, ifs, 0⟩, ⟨tg1, iter1, ifs1, 0⟩] scope pos) scope X.env pos' (newSet (.type "set")) false (eval iter X.env) use) Qf X.xe s := by
  have hfree : ∀ y ∈ scope.names, y.2 = .free → ∃ c, X.env.cells.lookup y.1 = some c := fun y hy e => by
    rcases ok.free y hy e with k | k
    · exact I.ok.has _ (.inl k)
    · exact I.ok.has _ (.inr k)
  refine wpAny_comprehension_free (use := use) rfl hs (closure_ok hfree) ok.kind (fun y hy e => by rw [ok.uniq y hy, e])
    (thn (hi.run pins s σ H _ I h) fun xv s1 hx => thn hx fun itv s2 h2 => ?_)
  obtain ⟨it, fp, tn, J, H2, e, I2, T, st2, f2, q⟩ := h2
  subst e
  refine newSet_ok (newEnv_comp ?_)
  generalize hD : s2.heap.objs.size = D
  have hDn : H2 D = none := I2.hok.fresh (Nat.le_of_eq hD)
  obtain ⟨W, ⟨m0, w0⟩, turn⟩ := q D hDn
  -- the new list
  generalize hs3 : ({ s2 with heap := s2.heap.push { cls := .type "set", dict := none, data := .set #[] 0 (.fresh 0 0 (!X.w.params.followText "set-order")) } } : Shared) = s3
  have I3 : Inv X pins σ (upd H2 D (SetXO X.w D (fun _ => false) 0)) s3 := by
    rw [← hs3]
    refine I2.laid (t' := s2.toks) (fun b o e => Heap.get?_push_of_some _ e) (Nat.le_of_eq hD) ?_
    rw [← hD]
    exact setXO_new (setX_fresh X.w)
  have h3 : s3.heap = s2.heap.push { cls := .type "set", dict := none, data := .set #[] 0 (.fresh 0 0 (!X.w.params.followText "set-order")) } := by rw [← hs3]
  have sz : ∀ b ∈ fp, b < s2.heap.objs.size := fun b hb => by
    obtain ⟨o, e, _⟩ := T.obj _ _ st2 b hb
    exact Heap.lt_size e
  have f3 : ∀ b ∈ fp, FpOk X pins (upd H2 D (SetXO X.w D (fun _ => false) 0)) b ∧ b < s3.heap.objs.size := fun b hb => by
    have hlt := sz b hb
    refine ⟨⟨?_, (f2 b hb).2⟩, by rw [h3, Heap.size_push]; exact Nat.lt_succ_of_lt hlt⟩
    rw [upd_ne (by rw [← hD]; exact Nat.ne_of_lt hlt)]
    exact (f2 b hb).1
  have st3 : tn 0 s3.heap := T.keep _ _ _ st2 fun b _ o e => by rw [h3]; exact Heap.get?_push_of_some _ e
  have I4 := block_start I3 ok hN f3
  have pg := hg s3 (upd H2 D (SetXO X.w D (fun _ => false) 0)) s3.heap.objs.size (cellsFrom (s3.heap.objs.size + 1) scope.names (cloFrom X.env.cells scope.names [])) fp
  have pt := ht s3 (upd H2 D (SetXO X.w D (fun _ => false) 0)) s3.heap.objs.size (cellsFrom (s3.heap.objs.size + 1) scope.names (cloFrom X.env.cells scope.names [])) fp
  have pe := he s3 (upd H2 D (SetXO X.w D (fun _ => false) 0)) s3.heap.objs.size (cellsFrom (s3.heap.objs.size + 1) scope.names (cloFrom X.env.cells scope.names [])) fp
  have pi1 := hi1 s3 (upd H2 D (SetXO X.w D (fun _ => false) 0)) s3.heap.objs.size (cellsFrom (s3.heap.objs.size + 1) scope.names (cloFrom X.env.cells scope.names [])) fp
  have pg1 := hg1 s3 (upd H2 D (SetXO X.w D (fun _ => false) 0)) s3.heap.objs.size (cellsFrom (s3.heap.objs.size + 1) scope.names (cloFrom X.env.cells scope.names [])) fp
  have pt1 := ht1 s3 (upd H2 D (SetXO X.w D (fun _ => false) 0)) s3.heap.objs.size (cellsFrom (s3.heap.objs.size + 1) scope.names (cloFrom X.env.cells scope.names [])) fp
  show codeAny _ _ (.compStart (.SetComp elt [⟨tg, iter, ifs, 0⟩, ⟨tg1, iter1, ifs1, 0⟩] scope pos) 0 (.ref it) (.ref D) (compEnvC scope (cellsFrom (s3.heap.objs.size + 1) scope.names (cloFrom X.env.cells scope.names [])) s3.heap.objs.size X.env)) (compPost (model X.prog X.w) X.A X.xe use Qf (.ref D) s3.heap.objs.size) { s3 with heap := pushCells (s3.heap.push { cls := .type "dict", data := .dict #[] }) scope.names }
  have nfp : ∀ b ∈ fp, (upd H2 D (SetXO X.w D (fun _ => false) 0)) b = none := fun b hb => (f3 b hb).1.1
  generalize hce : compEnvC scope (cellsFrom (s3.heap.objs.size + 1) scope.names (cloFrom X.env.cells scope.names [])) s3.heap.objs.size X.env = ce at I4 pg pt pe pi1 pg1 pt1 ⊢
  have cL : ce.locals = s3.heap.objs.size := by subst hce; rfl
  generalize hH3 : upd H2 D (SetXO X.w D (fun _ => false) 0) = H3 at I3 I4 pg pt pe pi1 pg1 pt1 w0 nfp f3
  generalize hs4 : ({ s3 with heap := pushCells (s3.heap.push { cls := .type "dict", data := .dict #[] }) scope.names } : Shared) = s4 at I4 ⊢
  have st4 : tn 0 s4.heap := T.keep _ _ _ st3 fun b _ o e => by rw [← hs4]; exact pushCells_keeps _ _ _ _ (Heap.get?_push_of_some _ e)
  have stat : ∀ {σ' : L2.St} {H' : Hp} {s' : Shared}, Inv (X.blk s3 H3 scope ce fp) [] σ' H' s' → (∀ b ∈ fp, H' b = none) → ∀ b ∈ fp, FpOk (X.blk s3 H3 scope ce fp) [] H' b := fun {σ' H' s'} I' hn b hb =>
    ⟨hn b hb, (I'.ok.exf b hb).1, I'.ok.exfs b hb, .inl hb, fun x c e => (I'.ok.exf b hb).2 x c e, fun p hp => absurd (show p ∈ ([] : List (Addr × Obj)) ++ [] from hp) (by simp)⟩
  have loop : codeAny (model X.prog X.w) X.A (.compLoop (.SetComp elt [⟨tg, iter, ifs, 0⟩, ⟨tg1, iter1, ifs1, 0⟩] scope pos) 0 (.ref it) (.ref D) ce) (compPost (model X.prog X.w) X.A X.xe use Qf (.ref D) s3.heap.objs.size) s4 := by
    refine compLoopS2_out (hs1 ce) (fun n s' => ∃ i H', Inv (X.blk s3 H3 scope ce fp) [] (wipe σ (own.map (·.2))) H' s' ∧ tn i s'.heap ∧ (∀ b ∈ fp, H' b = none) ∧ W i n H') ?_ m0 ⟨0, H3, I4, st4, nfp, w0⟩
    rintro n s5 ⟨i, H5, I5, st5, n5, w5⟩
    rcases turn i n H5 w5 with ⟨stop, qq⟩ | ⟨go, Nx, hNx, step⟩
    · have td := T.done (X.blk s3 H3 scope ce fp) rfl rfl rfl hc i [] s5 _ H5 (fun _ _ => False) I5 (stat I5 n5) st5 stop
      refine thnF td fun r s6 ⟨hr, I6⟩ => ?_
      subst hr
      -- back in the def's context
      have I7 : Inv X pins σ H5 s6 := I3.call' (ch := fp) I6.os I6.base I6.hok I6.bare fun b hb => ⟨(f3 b hb).1.2.2.2.1, (f3 b hb).1.2.1, (f3 b hb).1.2.2.2.2.1, (f3 b hb).1.2.2.2.2.2⟩
      have nC : H5 s3.heap.objs.size = none := by
        have z : H5 ce.locals = none := I6.free
        rw [cL] at z
        exact z
      obtain ⟨m, hn, _⟩ := I6.loc
      have hn : s6.heap.Ns ce.locals m := hn
      rw [cL] at hn
      exact hRR D s3.heap.objs.size s6 m H5 I7 qq hn (I3.fpOk (Nat.le_refl _) nC)
    · have ti := T.item (X.blk s3 H3 scope ce fp) rfl rfl rfl hc i [] s5 _ H5 (fun _ _ => False) I5 (stat I5 n5) st5 go
      refine thnF ti fun r s6 ⟨u, hr, h6⟩ => ?_
      subst hr
      refine thnF h6 fun _ s7 ⟨x, H7, I7, r7, y7, st7, n7⟩ => ?_
      have I7' := I7.pinned (stat I7 n7) (T.obj _ _ st7)
      refine thnF (pg.run _ s7 _ H7 x u _ I7' r7 (step x H7 y7)) fun _ s8 ⟨σ8, H8, I8, hw8, q8⟩ => ?_
      refine thnF (pt.run _ s8 σ8 H8 _ I8 q8) fun b s9 ⟨H9, I9, q9⟩ => ?_
      -- the turn's end, from any slots that know what the block knew at its start
      have fin : ∀ {σ9 : L2.St} {s' : Shared} {H' : Hp}, Inv (X.blk s3 H3 scope ce fp) ([] ++ pinsAt fp s7.heap) σ9 H' s' → (wipe σ (own.map (·.2))).length = σ9.length → (∀ (j : Nat) v, (wipe σ (own.map (·.2)))[j]? = some (some v) → σ9[j]? = some (some v)) → Nx H' →
          ∃ m, m < n ∧ ∃ i H', Inv (X.blk s3 H3 scope ce fp) [] (wipe σ (own.map (·.2))) H' s' ∧ tn i s'.heap ∧ (∀ b ∈ fp, H' b = none) ∧ W i m H' := fun {σ9 s' H'} I' hl hk nx => by
        obtain ⟨m', hm, w'⟩ := hNx H' nx
        have pin' : ∀ b ∈ fp, ∀ o, s7.heap.get? b = some o → s'.heap.get? b = some o ∧ H' b = none := fun b hb o e =>
          let z := I'.pin (b, o) (List.mem_append_right _ (List.mem_append_right _ (mem_pinsAt hb e)))
          ⟨z.1, z.2.1⟩
        refine ⟨m', hm, i + 1, H', (I'.unpinned (pins := [])).weak hl hk, T.keep _ _ _ st7 fun b hb o e => (pin' b hb o e).1, fun b hb => ?_, w'⟩
        obtain ⟨o, e, _⟩ := T.obj _ _ st7 b hb
        exact (pin' b hb o e).2
      have hl8 : (wipe σ (own.map (·.2))).length = σ8.length := by rw [← hw8, wipe_length]
      have hk8 : ∀ (j : Nat) v, (wipe σ (own.map (·.2)))[j]? = some (some v) → σ8[j]? = some (some v) := fun j v e => by
        rw [← hw8] at e
        exact (wipe_some e).1
      have hk9 : ∀ (j : Nat) v, (wipe σ (own.map (·.2)))[j]? = some (some v) → (wipe σ8 vs1)[j]? = some (some v) := fun j v e => by
        rw [← hw8] at e
        obtain ⟨e1, e2⟩ := wipe_some e
        rw [wipe_out fun z => e2 (hv j z)]
        exact e1
      cases b with
      | false =>
        simp only [Bool.false_eq_true, if_false] at q9 ⊢
        exact fin I9 hl8 hk8 q9
      | true =>
        simp only [if_true] at q9 ⊢
        refine thnF (pi1.run _ s9 σ8 H9 _ I9 q9) fun xv s10 hx => thnF hx fun itv s11 h11 => ?_
        obtain ⟨it1, fp1, tn1, J1, H11, e1, I11, T1, st11, f11, W1, ⟨m1, w1⟩, turn1⟩ := h11
        subst e1
        -- the inner loop
        have stat1 : ∀ {H' : Hp}, (∀ b ∈ fp1, H' b = none) → ∀ b ∈ fp1, FpOk (X.blk s3 H3 scope ce fp) ([] ++ pinsAt fp s7.heap) H' b := fun hn b hb => ⟨hn b hb, (f11 b hb).2⟩
        have loop1 : codeAny (model X.prog X.w) X.A (.compLoop (.SetComp elt [⟨tg, iter, ifs, 0⟩, ⟨tg1, iter1, ifs1, 0⟩] scope pos) 1 (.ref it1) (.ref D) ce)
            (fun r s' => match r with
              | .ok _ => ∃ m, m < n ∧ ∃ i H', Inv (X.blk s3 H3 scope ce fp) [] (wipe σ (own.map (·.2))) H' s' ∧ tn i s'.heap ∧ (∀ b ∈ fp, H' b = none) ∧ W i m H'
              | .error _ => False) s11 := by
          refine compLoopS2_in (fun k s' => ∃ j H', Inv (X.blk s3 H3 scope ce fp) ([] ++ pinsAt fp s7.heap) (wipe σ8 vs1) H' s' ∧ tn1 j s'.heap ∧ (∀ b ∈ fp1, H' b = none) ∧ W1 j k H') ?_ m1 ⟨0, H11, I11.weak (wipe_length _ _) (fun j v e => (wipe_some e).1), st11, fun b hb => (f11 b hb).1, w1⟩
          rintro k s12 ⟨j, H12, I12, st12, n12, w12⟩
          rcases turn1 j k H12 w12 with ⟨stop1, nx1⟩ | ⟨go1, Nx1, hNx1, step1⟩
          · refine thnF (T1.done (X.blk s3 H3 scope ce fp) rfl rfl rfl hc j _ s12 (wipe σ8 vs1) H12 (fun _ _ => False) I12 (stat1 n12) st12 stop1) fun r s13 ⟨hr, I13⟩ => ?_
            subst hr
            exact fin I13 (hl8.trans (wipe_length σ8 vs1).symm) hk9 nx1
          · refine thnF (T1.item (X.blk s3 H3 scope ce fp) rfl rfl rfl hc j _ s12 (wipe σ8 vs1) H12 (fun _ _ => False) I12 (stat1 n12) st12 go1) fun r s13 ⟨u1, hr, h13⟩ => ?_
            subst hr
            refine thnF h13 fun _ s14 ⟨x1, H14, I14, r14, y14, st14, n14⟩ => ?_
            have I14' := I14.pinned (stat1 n14) (T1.obj _ _ st14)
            refine thnF (pg1.run _ s14 (wipe σ8 vs1) H14 x1 u1 _ I14' r14 (step1 x1 H14 y14)) fun _ s15 ⟨σ15, H15, I15, hw15, q15⟩ => ?_
            refine thnF (pt1.run _ s15 σ15 H15 _ I15 q15) fun b1 s16 ⟨H16, I16, q16⟩ => ?_
            have fin1 : ∀ {s' : Shared} {H' : Hp}, Inv (X.blk s3 H3 scope ce fp) (([] ++ pinsAt fp s7.heap) ++ pinsAt fp1 s14.heap) σ15 H' s' → Nx1 H' → ∃ m, m < k ∧ ∃ j H', Inv (X.blk s3 H3 scope ce fp) ([] ++ pinsAt fp s7.heap) (wipe σ8 vs1) H' s' ∧ tn1 j s'.heap ∧ (∀ b ∈ fp1, H' b = none) ∧ W1 j m H' := fun {s' H'} I' nx => by
              obtain ⟨m', hm, w'⟩ := hNx1 H' nx
              have pin' : ∀ b ∈ fp1, ∀ o, s14.heap.get? b = some o → s'.heap.get? b = some o ∧ H' b = none := fun b hb o e =>
                let z := I'.pin (b, o) (List.mem_append_right _ (List.mem_append_right _ (mem_pinsAt hb e)))
                ⟨z.1, z.2.1⟩
              refine ⟨m', hm, j + 1, H', I'.unpinned.weak (by rw [← hw15, wipe_length]) (fun j v e => by rw [← hw15] at e; exact (wipe_some e).1), T1.keep _ _ _ st14 fun b hb o e => (pin' b hb o e).1, fun b hb => ?_, w'⟩
              obtain ⟨o, e, _⟩ := T1.obj _ _ st14 b hb
              exact (pin' b hb o e).2
            cases b1 with
            | false =>
              simp only [Bool.false_eq_true, if_false] at q16 ⊢
              exact fin1 I16 q16
            | true =>
              simp only [if_true] at q16 ⊢
              refine thnF (pe.run _ s16 σ15 H16 _ I16 q16) fun z s17 ⟨yv, H17, I17, r17, cb, S0, n0, ey, hD17, hz17, nx⟩ => ?_
              subst ey
              obtain ⟨tkc, rfl⟩ := r17
              exact addX_ok (X := X.blk s3 H3 scope ce fp) I17 hD17 hz17 fun s18 I18 => fin1 I18 nx
        exact compStartS1_ok loop1 (T1.self X.A 0 _ _ _ st11 loop1)
  exact codeAny_compStart_set loop (T.self X.A 0 _ _ _ st4 loop)
/-- as a value -/
theorem pe_sc2 {elt tg iter tg1 iter1 : Expr} {ifs ifs1 : List Expr} {scope : Scope} {own : List (Str × Nat)} {vs1 : List Nat} {pos : Pos} {wi wi1 : TI} {g g1 : TG} {tt tt1 : TT} {te : TE} (hc : X.calm = true) (hN : X.N.Nodup) (hi : PI X tg iter wi) (ok : BlkOk X.N X.env.scope scope own) (hv : ∀ i ∈ vs1, i ∈ own.map (·.2))
    (hg : ∀ (s : Shared) (H : Hp) (C : Addr) (cl : List (Str × Addr)) (fp : List Addr), PG (X.blk s H scope (compEnvC scope cl C X.env) fp) tg g) (ht : ∀ (s : Shared) (H : Hp) (C : Addr) (cl : List (Str × Addr)) (fp : List Addr), PTs (X.blk s H scope (compEnvC scope cl C X.env) fp) ifs tt)
    (hi1 : ∀ (s : Shared) (H : Hp) (C : Addr) (cl : List (Str × Addr)) (fp : List Addr), PI (X.blk s H scope (compEnvC scope cl C X.env) fp) tg1 iter1 wi1)
    (hg1 : ∀ (s : Shared) (H : Hp) (C : Addr) (cl : List (Str × Addr)) (fp : List Addr), PG (X.blk s H scope (compEnvC scope cl C X.env) fp) tg1 g1) (ht1 : ∀ (s : Shared) (H : Hp) (C : Addr) (cl : List (Str × Addr)) (fp : List Addr), PTs (X.blk s H scope (compEnvC scope cl C X.env) fp) ifs1 tt1)
    (he : ∀ (s : Shared) (H : Hp) (C : Addr) (cl : List (Str × Addr)) (fp : List Addr), PE (X.blk s H scope (compEnvC scope cl C X.env) fp) elt te) (hs : ∀ x, foldedSetIterable iter X.env x = pure x := by intro _; rfl) (hs1 : ∀ env x, foldedSetIterable iter1 env x = pure x := by intro _ _; rfl) :
    PE X (.SetComp elt [⟨tg, iter, ifs, 0⟩, ⟨tg1, iter1, ifs1, 0⟩] scope pos) (tSc2 X.w wi g tt wi1 g1 tt1 te (own.map (·.2)) vs1) := by
  refine ⟨fun pins s σ H Q I h => ?_⟩
  rw [eval_SetComp]
  refine sc2_core hc hN I hi ok hv hg ht he hs hi1 hg1 ht1 hs1 h fun D C s' m H' I' q hn f => ⟨m, hn, fun h'' sb => ?_⟩
  obtain ⟨f0, f1, f2, f3, f4, f5⟩ := f
  exact ⟨.ref D, H', I'.turned (t' := s'.toks) (fun b o hb e => (sb.2 b hb).trans e) f0 f1 f3 f4 f5, rfl, q⟩
end
end
/-! ### sorted -/
section
variable {P : Program} {w : World} {A : Around} {E : Value → Shared → Prop} {s : Shared} {a : Addr} {S : Str → Bool} {n : Nat}
theorem each_str : ∀ (l : List Value), (∀ v ∈ l, ∃ k tk, v = Value.str k tk) → PySem.W.EachIs (fun v (x : Str) => ∃ tk, v = Value.str x tk) l (l.map fun v => match v with | .str k _ => k | _ => "")
  | [], _ => .nil
  | v :: l, h => by
    obtain ⟨k, tk, rfl⟩ := h v List.mem_cons_self
    exact .cons ⟨tk, rfl⟩ (each_str l fun u hu => h u (List.mem_cons_of_mem _ hu))
theorem sorted_setX {Q : Value → Shared → Prop} (R : SetX w s.heap a S n) (hh : A.handled = none) (hu : A.units + 64 < cLine)
    (hQ : ∀ s' p (out : Array Value) (c : Nat) (xs : List Str), (∀ b o, s.heap.get? b = some o → s'.heap.get? b = some o) → s'.gens = s.gens → s'.os = s.os → s.heap.objs.size ≤ p →
      s'.heap.get? p = some (seqObj "list" out c) → PySem.W.EachIs (fun v (x : Str) => ∃ tk, v = Value.str x tk) out.toList xs → xs.Nodup → (∀ k, k ∈ xs ↔ S k = true) → xs.length = n → xs.length ≤ sizeLine → Q (.ref p) s') :
    wpAny (model P w) A (call (.builtin "sorted") [.ref a]) Q E s := by
  obtain ⟨o, es, ep, t, ho, hex, hd, g, nd, hm, hb, hf, hn, hr, hl⟩ := R
  refine Calls.call_function_entry kind_sorted plain_sorted entry_sorted (args_sorted1 _) ?_
  unfold Builtin.«sorted»
  refine wpAny_bind (m := checkCount "sorted" 1 1 _) (wpAny_pure ?_)
  refine wpAny_bind (collect_set (A := A.in1) hh ⟨o, ho, hex.1, hd⟩ hf hb hr hl fun s1 vs k1 hz g1 o1 pm => ?_)
  have hvl : vs.length = n := by rw [pm.length_eq, List.length_map, Array.length_toList]; exact hn
  have hL : vs.length ≤ sizeLine := by
    rw [hvl, ← hn]
    exact fits_of_scanBound hb
  have hI := each_str vs fun v hv => by
    obtain ⟨e, he, q⟩ := List.mem_map.mp (pm.mem_iff.mp hv)
    obtain ⟨k, tk, h1, _⟩ := g e he
    exact ⟨k, tk, by rw [← q]; exact h1⟩
  have pk : (vs.map fun v => match v with | .str k _ => k | _ => ("" : Str)).Perm (es.toList.map keyX) := by
    have q := pm.map fun v => match v with | Value.str k _ => k | _ => ("" : Str)
    rw [List.map_map] at q
    exact q
  generalize (vs.map fun v => match v with | .str k _ => k | _ => ("" : Str)) = ks at hI pk
  refine wpAny_bind (wpAny_newList ?_ hL)
  have hoL : (s1.heap.push (seqObj "list" vs.toArray 0)).get? s1.heap.objs.size = some (seqObj "list" vs.toArray 0) := Heap.get?_push_size _ rfl
  have hkl : ks.length = vs.length := hI.length.symm
  refine wpAny_bind (wpAny_holding (PySem.W.list_sort_data (enc := PyData.str) (bs := ks) (R := fun v (x : Str) => ∃ tk, v = Value.str x tk) hoL hI (hI.mono fun v x ⟨tk, e⟩ => ⟨[], by rw [e]; exact Reads.str x tk, List.not_mem_nil⟩) (PySem.W.AllAlike.of fun b b' => rfl) ?_ (by rw [hkl]; exact hL) (fun b _ => ?_) fun out ho' eo => ?_))
  · exact PySem.W.Sortable.others (enc := PyData.str) fun b => ⟨(fun z => nomatch z), (fun _ z => nomatch z)⟩
  · show A.units + 1 + 1 + 0 < cLine
    omega
  · obtain ⟨c, hc⟩ := sortedHeap_at (vs := vs) (out := out.toArray) hoL
    have pn : (ks.mergeSort (PySem.W.dataLe false PyData.str)).Perm (es.toList.map keyX) := (List.mergeSort_perm _ _).trans pk
    refine wpAny_pure ⟨_, rfl, hQ _ s1.heap.objs.size out.toArray c _ (fun b u e => ?_) g1 o1 hz hc eo (pn.nodup_iff.mpr nd) (fun k => by rw [pn.mem_iff, ← hm k]) ?_ ?_⟩
    · have q := k1 b u e
      have hlt := Heap.lt_size q
      show (sortedHeap (s1.heap.push (seqObj "list" vs.toArray 0)) s1.heap.objs.size vs out.toArray).get? b = some u
      rw [sortedHeap_old (Nat.ne_of_lt hlt) (by rw [size_push']; exact Nat.lt_succ_of_lt hlt)]
      exact Heap.get?_push_of_some _ q
    · rw [pn.length_eq, List.length_map, Array.length_toList]; exact hn
    · rw [pn.length_eq, List.length_map, Array.length_toList]; exact fits_of_scanBound hb
end
section
variable {X : Cx}
/-- sorted(a set of texts) -/
def rSortX (w : World) : List V → Hp → VK → Prop := fun vs H Q => ∃ (a : Addr) (S : Str → Bool) (n : Nat), vs = [.ref a] ∧ H a = some (SetXO w a S n) ∧ ∀ p (xs : List Str), H p = none → xs.Nodup → (∀ k, k ∈ xs ↔ S k = true) → xs.length = n → Q (.ref p) (upd H p (.lst (xs.map V.str)))
theorem vals_str : ∀ {its : List Value} {xs : List Str}, PySem.W.EachIs (fun v (x : Str) => ∃ tk, v = Value.str x tk) its xs → Vals (xs.map V.str) its
  | _, _, .nil => .nil
  | _, _, .cons a t => .cons a (vals_str t)
theorem cr_sortX (hc : X.calm = true) (hu : X.A.units + 64 < cLine) : CallR X (.builtin "sorted") (rSortX X.w) := by
  intro pins s σ H vs us Q I r h
  obtain ⟨a, S, n, rfl, ha, q⟩ := h
  rw [Vals.ref1 r]
  refine sorted_setX (setXO_get I ha) (I.ok.hd hc) hu fun s' p out c xs k1 g1 o1 hp hc2 eo nd hm hn hz => ?_
  have hlen : (xs.map V.str).length ≤ sizeLine := by rw [List.length_map]; exact hz
  have hnone : H p = none := I.hok.fresh hp
  have hv : Vals (xs.map V.str) out.toList := vals_str eo
  have J : Inv X pins σ (upd H p (.lst (xs.map V.str))) s' :=
    I.call' (ch := []) o1 (Un.laid k1 hp hnone) (I.hok.laid k1 hp ⟨hlen, out.toList, c, hv, hc2⟩) (by rw [g1]; exact I.bare) (fun _ z => nomatch z)
  exact ⟨.ref p, _, J, rfl, q p xs hnone nd hm hn⟩
end
end XSt

/-! A network's places. -/
namespace XW
open PySem L2 XL XSt
/-- any loop over a walk -/
theorem wk_it {J : It} {n : Nat} {G : Hp → Prop} {Y : Nat → Hp → V → Hp → Prop} (w : Walk J n G Y) (Pv : Nat → Hp → Prop) {H0 : Hp} {Qd : Hp → Prop} {Bd : V → Hp → (Hp → Prop) → Prop} (h0 : Pv 0 H0) (hG : ∀ i H, i ≤ n → Pv i H → G H)
    (hs : ∀ i x H H', i < n → Pv i H → Y i H x H' → Bd x H' (Pv (i + 1))) (hd : ∀ H, Pv n H → Qd H) :
    ∃ W : Nat → Nat → Hp → Prop, (∃ m, W 0 m H0) ∧ ∀ i m H, W i m H →
      (J.stop i H ∧ Qd H) ∨ (J.go i H ∧ ∃ Nx : Hp → Prop, (∀ H', Nx H' → ∃ m', m' < m ∧ W (i + 1) m' H') ∧ ∀ x H', J.yld i H x H' → Bd x H' Nx) := by
  refine ⟨fun i m H => m = n - i ∧ i ≤ n ∧ Pv i H, ⟨n, by simp, Nat.zero_le _, h0⟩, ?_⟩
  rintro i m H ⟨rfl, hi, p⟩
  have q := hG i H hi p
  by_cases hlt : i < n
  · exact .inr ⟨w.goes i H hlt q, Pv (i + 1), fun H' p' => ⟨n - (i + 1), by omega, rfl, hlt, p'⟩, fun x H' y => hs i x H H' hlt p (w.yields i H x H' hlt q y)⟩
  · have e : i = n := by omega
    subst e
    exact .inl ⟨w.stops H q, hd H p⟩
/-- facts of the class -/
structure NTx (K : PySem.W.Frag) (mg : Str → Option Value) (C : Addr) : Prop where
  cl : Cls K C
  nS : NoAttr K C "source"
  nT : NoAttr K C "target"
  nB : NoAttr K C "table"
  mgC : mg "Network" = some (.ref C)
  ml : ∃ mc u, ClX.CRead K C mc ∧ ClX.CVal K C mc "MOST_LINKS" (.int 10) u
  mp : ∃ mc u, ClX.CRead K C mc ∧ ClX.CVal K C mc "MOST_PLACES" (.int 8) u
def nf (d : Addr) (s e : Str) : List (Str × V) := putF "table" (.ref d) (putF "target" (.str e) (putF "source" (.str s) []))
theorem nf_tab (d : Addr) (s e : Str) : (nf d s e).lookup ("table" : Str) = some (.ref d) := by
  unfold nf
  rw [lookup_putF, if_pos rfl]
theorem nf_tgt (d : Addr) (s e : Str) : (nf d s e).lookup ("target" : Str) = some (.str e) := by
  unfold nf
  rw [lookup_putF, if_neg (by decide +kernel), lookup_putF, if_pos rfl]
theorem nf_src (d : Addr) (s e : Str) : (nf d s e).lookup ("source" : Str) = some (.str s) := by
  unfold nf
  rw [lookup_putF, if_neg (by decide +kernel), lookup_putF, if_neg (by decide +kernel), lookup_putF, if_pos rfl]
/-- a network at p: its table M -/
def NetA (C : Addr) (H : Hp) (p : Addr) (s e : Str) (M : Lks) : Prop := ∃ dx d kvs, H p = some (.ins C dx (nf d s e)) ∧ H d = some (.dK kvs) ∧ A2 (PairAt H) kvs M
theorem NetA.same {C : Addr} {H H' : Hp} {p : Addr} {s e : Str} {M : Lks} (n : NetA C H p s e M) (sm : Same H H') : NetA C H' p s e M := let ⟨dx, d, kvs, h1, h2, h3⟩ := n; ⟨dx, d, kvs, sm _ _ h1, sm _ _ h2, h3.mono fun _ _ z => z.same sm⟩
section
variable {P : Program} {w : World} {K : PySem.W.Frag} {mg : Str → Option Value} {base : Heap}
theorem scPlaces : FnScope ["self", "found", "inner", "place", "pair"] ["self"] (defScope sNPlaces) := ⟨rfl, rfl, rfl, by decide +kernel, rfl, by decide +kernel, by decide +kernel⟩
/-- the places between -/
structure Inner (M : Lks) (s e : Str) (ps : List Str) : Prop where
  nd : ps.Nodup
  mem : ∀ x, x ∈ ps ↔ x ≠ s ∧ x ≠ e ∧ ∃ l ∈ M, x = l.2.1 ∨ x = l.2.2
def spPlaces (C : Addr) : Sp := fun vs H Q _ => ∃ (p : Addr) (s e : Str) (M : Lks), vs = [.ref p] ∧ NetA C H p s e M ∧ M.length ≤ 10 ∧
  ∀ q H' ps, Same H H' → H q = none → H' q = some (.tup (stz (s :: ps ++ [e]))) → Inner M s e ps → Q (.ref q) H'
theorem ok_places {f C : Addr} {fd : FuncData} (F : Fun K "places" "Network.places" sNPlaces f fd) (B : Bl mg) (T : NTx K mg C) : FnOk P w K mg base CX0 1 f fd ["self"] (spPlaces C) := by
  refine F.ok scPlaces (fun vs H Q E h => ?_) (fun cdv A outer s H vs Q E hr h => ?_)
  · obtain ⟨p, s, e, M, rfl, _⟩ := h
    rfl
  · obtain ⟨p, s, e, M, rfl, ⟨dx, d, kvs, ep, ed, tab⟩, hM, k⟩ := h
    have nd := scPlaces.nd
    refine ⟨_, pss_cons (ps_lock (ps_set (i := 1) nd rfl (.inl rfl) (pe_callB (cr_sortX rfl hr.units) (by rfl) B.sorted (by decide +kernel) (pa_cons (pe_sc2 (own := [("pair", 4), ("place", 3)]) (vs1 := [3]) (g := gName 4) (tt := tYes) (wi1 := iTup K (tVar 4)) (g1 := gName 3) (tt1 := tYes) (te := tVar 3)
          rfl nd (pi_values (pe_fld (pv 0) rfl))
          (blkOk_by (own := [("pair", 4), ("place", 3)]) (N := ["self", "found", "inner", "place", "pair"]) (sc := defScope sNPlaces) (by decide +kernel)) (by decide)
          (fun _ _ _ _ _ => pg_name (i := 4) nd rfl (.inl rfl)) (fun _ _ _ _ _ => pts_nil) (fun _ _ _ _ _ => pi_tup (pv 4)) (fun _ _ _ _ _ => pg_name (i := 3) nd rfl (.inl rfl)) (fun _ _ _ _ _ => pts_nil) (fun _ _ _ _ _ => pv 3)) pa_nil))))
      (pss_cons (ps_setLc (i := 2) (own := [("place", 3)]) (g := gName 3) (tt := tAnd (tTest (tOp rNe (tVar 3) (tFld K (tVar 0) "source"))) (tTest (tOp rNe (tVar 3) (tFld K (tVar 0) "target")))) (te := tVar 3)
          rfl nd rfl rfl (sw_true rfl rfl rfl (by decide +kernel)) (pi_list (pv 1))
          (blkOk_by (own := [("place", 3)]) (N := ["self", "found", "inner", "place", "pair"]) (sc := defScope sNPlaces) (by decide +kernel))
          (fun _ _ _ _ _ => pg_name (i := 3) nd rfl (.inl rfl)) (fun _ _ _ _ _ => pts_one (PW.pt (pw_and (pt_cmpR op_ne (pv 3) (pe_fld (pv 0) rfl) (nomark _)) (pw_and1 (pt_cmpR op_ne (pv 3) (pe_fld (pv 0) rfl) (nomark _)))))) (fun _ _ _ _ _ => pv 3))
      (pss_one (ps_ret (pe_callTy call_tuple_of (by rfl) B.tuple (by decide +kernel) (pa_cons (pe_op op_cat (pe_op op_cat (pe_lst (pa_cons (pe_fld (pv 0) rfl) pa_nil)) (pv 2)) (pe_lst (pa_cons (pe_fld (pv 0) rfl) pa_nil))) pa_nil))))), ?_⟩
    have hkl : kvs.length = M.length := tab.len
    refine ⟨d, .dK kvs, ed, True.intro, fun od => ?_⟩
    have hpd : p ≠ d := ne_of ep ed (fun z => nomatch z)
    have epl : (upd H d (.frz od (.dK kvs))) p = some (.ins C dx (nf d s e)) := by rw [upd_ne hpd]; exact ep
    have tabl : A2 (PairAt (upd H d (.frz od (.dK kvs)))) kvs M := tab.mono fun _ _ h => h.lock ed
    refine ⟨_, rfl, p, C, dx, _, _, rfl, epl, T.cl, T.nB, nf_tab d s e, d, od, kvs, rfl, upd_same, fun D nD => ?_⟩
    have nDd : d ≠ D := ne_of_none (show (upd H d (.frz od (.dK kvs))) d = some _ from upd_same) nD
    refine wk_it walk_values (fun i H' => Same (upd H d (.frz od (.dK kvs))) H' ∧ ∃ S n, H' D = some (SetXO w D S n) ∧ n ≤ 2 * i ∧ ∀ x, S x = true ↔ ∃ l ∈ M.take i, x = l.2.1 ∨ x = l.2.2)
      ⟨same_upd nD, _, 0, upd_same, Nat.le_refl _, fun x => by simp⟩ (fun i H' _ ⟨s1, _⟩ => s1 _ _ upd_same) ?_ ?_
    · rintro i x H1 H2 hi ⟨s1, S, n, eD, hn, hS⟩ ⟨rfl, kk, ek⟩
      rw [hkl] at hi
      obtain ⟨⟨nm, t, h⟩, em⟩ := XL.get_some hi
      obtain ⟨kv, ekv, r, rfl, er⟩ := tabl.get em
      rw [ekv] at ek
      cases ek
      refine ⟨rfl, _, rfl, r, rfl, ⟨_, SqT.of (s1 _ _ er)⟩, ?_⟩
      refine wk_it (walk_tup (xs := [V.str t, V.str h])) (fun j H' => Same (upd H d (.frz od (.dK kvs))) H' ∧ ∃ S n, H' D = some (SetXO w D S n) ∧ n ≤ 2 * i + j ∧ ∀ x, S x = true ↔ (∃ l ∈ M.take i, x = l.2.1 ∨ x = l.2.2) ∨ (1 ≤ j ∧ x = t) ∨ (2 ≤ j ∧ x = h))
        ⟨s1, S, n, eD, by omega, fun x => by rw [hS x]; exact ⟨.inl, fun z => z.elim id fun z => by omega⟩⟩ (fun j H' _ ⟨s3, _⟩ => SqT.of (s3 _ _ er)) ?_ ?_
      · rintro j y H3 H4 hj ⟨s3, S3, n3, eD3, hn3, hS3⟩ ⟨rfl, ey⟩
        obtain ⟨z, rfl, hz⟩ : ∃ z, y = .str z ∧ (j = 0 ∧ z = t ∨ j = 1 ∧ z = h) := by
          match j, ey with
          | 0, ey => exact ⟨t, by simpa using ey.symm, .inl ⟨rfl, rfl⟩⟩
          | 1, ey => exact ⟨h, by simpa using ey.symm, .inr ⟨rfl, rfl⟩⟩
        have hj2 : j < 2 := hj
        refine ⟨rfl, _, rfl, z, S3, n3, rfl, eD3, Nat.lt_of_le_of_lt (m := 100) (by omega) (by decide), (fun b o eb => ?_), _, _, upd_same, ?_, fun x => ?_⟩
        · rw [upd_ne]
          · exact s3 _ _ eb
          · rintro rfl
            rw [nD] at eb
            cases eb
        · split <;> omega
        · rw [Bool.or_eq_true, hS3 x, decide_eq_true_eq]
          constructor
          · rintro ((q | ⟨q, rfl⟩ | ⟨q, rfl⟩) | rfl)
            · exact .inl q
            · exact .inr (.inl ⟨by omega, rfl⟩)
            · exact .inr (.inr ⟨by omega, rfl⟩)
            · rcases hz with ⟨rfl, rfl⟩ | ⟨rfl, rfl⟩
              · exact .inr (.inl ⟨by omega, rfl⟩)
              · exact .inr (.inr ⟨by omega, rfl⟩)
          · rintro (q | ⟨q, rfl⟩ | ⟨q, rfl⟩)
            · exact .inl (.inl q)
            · rcases hz with ⟨rfl, rfl⟩ | ⟨rfl, rfl⟩
              · exact .inr rfl
              · exact .inl (.inr (.inl ⟨by omega, rfl⟩))
            · rcases hz with ⟨rfl, rfl⟩ | ⟨rfl, rfl⟩
              · omega
              · exact .inr rfl
      · rintro H3 ⟨s3, S3, n3, eD3, hn3, hS3⟩
        refine ⟨s3, S3, n3, eD3, by simpa [Nat.mul_succ] using hn3, fun x => ?_⟩
        rw [hS3 x, inner_get em]
        constructor
        · rintro (⟨l, hl, z⟩ | ⟨_, z⟩ | ⟨_, z⟩)
          · exact ⟨l, List.mem_append_left _ hl, z⟩
          · exact ⟨_, List.mem_append_right _ (List.mem_singleton.mpr rfl), .inl z⟩
          · exact ⟨_, List.mem_append_right _ (List.mem_singleton.mpr rfl), .inr z⟩
        · rintro ⟨l, hl, z⟩
          rcases List.mem_append.mp hl with hl | hl
          · exact .inl ⟨l, hl, z⟩
          · rw [List.mem_singleton.mp hl] at z
            rcases z with z | z
            · exact .inr (.inl ⟨by simp, z⟩)
            · exact .inr (.inr ⟨by simp, z⟩)
    rintro H1 ⟨s1, S, n, eD, hn, hS⟩
    rw [hkl, List.take_length] at hS
    refine ⟨D, S, n, rfl, eD, fun q xs nq xnd xm xl => ?_⟩
    have s2 := s1.trans (same_upd (o := .lst (xs.map V.str)) nq)
    refine ⟨s2 _ _ upd_same, ?_⟩
    have s3 := same_unlock s2 ed
    have ndq : d ≠ q := ne_of_none (s1 _ _ upd_same) nq
    have e3q : (upd (upd H1 q (.lst (xs.map V.str))) d (.dK kvs)) q = some (.lst (stz xs)) := by
      rw [upd_ne ndq.symm]
      exact upd_same
    generalize upd (upd H1 q (.lst (xs.map V.str))) d (.dK kvs) = H3 at s3 e3q
    have hxl : xs.length ≤ 20 := by omega
    -- the places between
    refine ⟨_, rfl, q, rfl, ⟨_, SqL.of e3q⟩, fun D2 nD2 => ?_⟩
    refine wk_it (walk_list (xs := stz xs)) (fun i H' => Same H3 H' ∧ H' D2 = some (.lst (stz ((xs.take i).filter fun x => decide (x ≠ s) && decide (x ≠ e)))))
      ⟨same_upd nD2, upd_same⟩ (fun i H' _ ⟨s4, _⟩ => SqL.of (s4 _ _ e3q)) ?_ ?_
    · rintro i y H4 H5 hi ⟨s4, e4⟩ ⟨rfl, ey⟩
      rw [stz_len] at hi
      obtain ⟨x, ex⟩ := XL.get_some hi
      rw [stz_get ex] at ey
      cases ey
      have ep4 := s4 _ _ (s3 _ _ ep)
      have eN : ((xs.take (i + 1)).filter fun x => decide (x ≠ s) && decide (x ≠ e)) = ((xs.take i).filter fun x => decide (x ≠ s) && decide (x ≠ e)) ++ if x ≠ s ∧ x ≠ e then [x] else [] := by
        rw [inner_get ex, List.filter_append]
        congr 1
        by_cases z1 : x = s <;> by_cases z2 : x = e <;> simp [z1, z2]
      have hbad : ¬ (x ≠ s ∧ x ≠ e) → Same H3 H5 ∧ H5 D2 = some (.lst (stz ((xs.take (i + 1)).filter fun x => decide (x ≠ s) && decide (x ≠ e)))) := fun z => by
        rw [eN, if_neg z, List.append_nil]
        exact ⟨s4, e4⟩
      refine ⟨rfl, _, rfl, _, rfl, p, C, dx, _, _, rfl, ep4, T.cl, T.nS, nf_src d s e, rfl, _, rfl, ?_⟩
      refine iteB (fun h1 => ?_) (fun h1 => ?_)
      · have h1 : x ≠ s := fun z => by
          subst z
          simp at h1
        refine ⟨_, rfl, _, rfl, p, C, dx, _, _, rfl, ep4, T.cl, T.nT, nf_tgt d s e, rfl, _, rfl, ?_⟩
        refine iteB (fun h2 => ?_) (fun h2 => ?_)
        · have h2 : x ≠ e := fun z => by
            subst z
            simp at h2
          rw [if_pos ⟨h1, h2⟩] at eN
          refine ⟨_, rfl, _, e4, ?_, ?_, ?_⟩
          · rw [stz_len]
            have := List.length_filter_le (fun x => decide (x ≠ s) && decide (x ≠ e)) (xs.take i)
            rw [List.length_take] at this
            exact small1000 (by omega)
          · intro b o eb
            rw [upd_ne (ne_of_none eb nD2)]
            exact s4 _ _ eb
          · rw [upd_same, eN]
            unfold stz
            rw [List.map_append]
            rfl
        · refine hbad fun z => z.2 ?_
          have : (!decide (V.str x = V.str e)) = false := h2
          have : V.str x = V.str e := by simpa using this
          injection this
      · refine iteF (hbad fun z => z.1 ?_)
        have : (!decide (V.str x = V.str s)) = false := h1
        have : V.str x = V.str s := by simpa using this
        injection this
    rintro H4 ⟨s4, e4⟩
    rw [stz_len, List.take_length] at e4
    generalize hps : (xs.filter fun x => decide (x ≠ s) && decide (x ≠ e)) = ps at e4
    have hpl : ps.length ≤ 20 := by
      rw [← hps]
      exact Nat.le_trans (List.length_filter_le _ _) hxl
    have inn : Inner M s e ps := by
      refine ⟨by rw [← hps]; exact xnd.filter _, fun x => ?_⟩
      rw [← hps, List.mem_filter, xm x, hS x]
      constructor
      · rintro ⟨h1, h2⟩
        simp only [Bool.and_eq_true, decide_eq_true_eq] at h2
        exact ⟨h2.1, h2.2, h1⟩
      · rintro ⟨h1, h2, h3⟩
        exact ⟨h3, by simp [h1, h2]⟩
    have ep4 := s4 _ _ (s3 _ _ ep)
    -- all of them
    refine ⟨_, rfl, p, C, dx, _, _, rfl, ep4, T.cl, T.nS, nf_src d s e, (by show 1 ≤ sizeLine; decide), fun l1 nl1 => ?_⟩
    have t1 := same_upd (o := .lst [V.str s]) nl1
    refine ⟨_, rfl, l1, D2, _, _, rfl, rfl, upd_same, t1 _ _ e4, ?_, fun l2 nl2 => ?_⟩
    · rw [stz_len]
      exact Nat.le_trans (m := 1000) (by show 1 + ps.length ≤ 1000; omega) (by decide)
    have t2 := t1.trans (same_upd (o := .lst ([V.str s] ++ stz ps)) nl2)
    refine ⟨_, rfl, p, C, dx, _, _, rfl, t2 _ _ ep4, T.cl, T.nT, nf_tgt d s e, (by show 1 ≤ sizeLine; decide), fun l3 nl3 => ?_⟩
    have t3 := t2.trans (same_upd (o := .lst [V.str e]) nl3)
    refine ⟨l2, l3, _, _, rfl, rfl, same_upd nl3 _ _ upd_same, upd_same, ?_, fun l4 nl4 => ?_⟩
    · rw [List.length_append, stz_len]
      exact Nat.le_trans (m := 1000) (by show 1 + ps.length + 1 ≤ 1000; omega) (by decide)
    have t4 := t3.trans (same_upd (o := .lst ([V.str s] ++ stz ps ++ [V.str e])) nl4)
    refine ⟨l4, _, rfl, .inl ⟨SqL.of upd_same, fun r nr => ?_⟩⟩
    have sF := s3.trans (s4.trans t4)
    refine k r _ ps (sF.trans (same_upd nr)) (none_of sF nr) ?_ inn
    rw [upd_same]
    unfold stz
    rw [List.map_append]
    rfl
end
end XW

/-! Networks. -/
namespace XW
open PySem L2 XL XSt
def toL (l : Str × Str × Str) : List Str := [l.1, l.2.1, l.2.2]
theorem tri_way {H : Hp} {rs : List Addr} {M : Lks} (h : A2 (TriAt H) rs M) : A2 (WayAt H) rs (M.map toL) := by
  induction h with
  | nil => exact .nil
  | cons r _ ih => exact .cons r ih
theorem way_tri {H : Hp} : ∀ {M : Lks} {rs : List Addr}, A2 (WayAt H) rs (M.map toL) → A2 (TriAt H) rs M
  | [], _, h => by
    cases h
    exact .nil
  | l :: M, _, h => by
    cases h with
    | cons r t => exact .cons r (way_tri t)
theorem tri_sorted {H : Hp} {rs : List Addr} {M : Lks} (h : A2 (WayAt H) rs (sortW (M.map toL))) : ∃ T : Lks, T.Perm M ∧ A2 (TriAt H) rs T := by
  obtain ⟨T, p, e⟩ := perm_lift toL (sortW_perm (M.map toL)) M rfl
  rw [← e] at h
  exact ⟨T, p, way_tri h⟩
/-- all but one thing stays -/
def Sx (p : Addr) (H H' : Hp) : Prop := ∀ a o, a ≠ p → H a = some o → H' a = some o
theorem Sx.trans {p : Addr} {H H1 H2 : Hp} (a : Sx p H H1) (b : Sx p H1 H2) : Sx p H H2 := fun x o h e => b x o h (a x o h e)
theorem Sx.of {p : Addr} {H H' : Hp} (s : Same H H') : Sx p H H' := fun x o _ e => s x o e
theorem Sx.fld {p : Addr} {H H1 : Hp} (a : Sx p H H1) (o : HO) : Sx p H (upd H1 p o) := fun x u h e => by
  rw [upd_ne h]
  exact a x u h e
section
variable {P : Program} {w : World} {K : PySem.W.Frag} {mg : Str → Option Value} {base : Heap}
/-! ### start, end, names, [..] -/
theorem scNStart : FnScope ["self"] ["self"] (defScope sNStart) := ⟨rfl, rfl, rfl, by decide +kernel, rfl, by decide +kernel, by decide +kernel⟩
theorem scNEnd : FnScope ["self"] ["self"] (defScope sNEnd) := ⟨rfl, rfl, rfl, by decide +kernel, rfl, by decide +kernel, by decide +kernel⟩
def spNStart (C : Addr) : Sp := fun vs H Q _ => ∃ (p : Addr) (s e : Str) (M : Lks), vs = [.ref p] ∧ NetA C H p s e M ∧ Q (.str s) H
def spNEnd (C : Addr) : Sp := fun vs H Q _ => ∃ (p : Addr) (s e : Str) (M : Lks), vs = [.ref p] ∧ NetA C H p s e M ∧ Q (.str e) H
theorem ok_nstart {f C : Addr} {fd : FuncData} (F : Fun K "start" "Network.start" sNStart f fd) (T : NTx K mg C) : FnOk P w K mg base CX0 1 f fd ["self"] (spNStart C) := by
  refine F.ok scNStart (fun vs H Q E h => ?_) (fun cdv A outer s H vs Q E hr h => ?_)
  · obtain ⟨p, s, e, M, rfl, _⟩ := h
    rfl
  · obtain ⟨p, s, e, M, rfl, ⟨dx, d, kvs, ep, ed, tab⟩, k⟩ := h
    refine ⟨_, pss_one (ps_ret (pe_fld (pv 0) rfl)), ?_⟩
    exact ⟨_, rfl, p, C, dx, _, _, rfl, ep, T.cl, T.nS, nf_src d s e, k⟩
theorem ok_nend {f C : Addr} {fd : FuncData} (F : Fun K "end" "Network.end" sNEnd f fd) (T : NTx K mg C) : FnOk P w K mg base CX0 1 f fd ["self"] (spNEnd C) := by
  refine F.ok scNEnd (fun vs H Q E h => ?_) (fun cdv A outer s H vs Q E hr h => ?_)
  · obtain ⟨p, s, e, M, rfl, _⟩ := h
    rfl
  · obtain ⟨p, s, e, M, rfl, ⟨dx, d, kvs, ep, ed, tab⟩, k⟩ := h
    refine ⟨_, pss_one (ps_ret (pe_fld (pv 0) rfl)), ?_⟩
    exact ⟨_, rfl, p, C, dx, _, _, rfl, ep, T.cl, T.nT, nf_tgt d s e, k⟩
theorem scNNames : FnScope ["self"] ["self"] (defScope sNNames) := ⟨rfl, rfl, rfl, by decide +kernel, rfl, by decide +kernel, by decide +kernel⟩
def spNNames (C : Addr) : Sp := fun vs H Q _ => ∃ (p : Addr) (s e : Str) (M : Lks), vs = [.ref p] ∧ NetA C H p s e M ∧ ∀ q H', Same H H' → H q = none → H' q = some (.tup (stz (M.map (·.1)))) → Q (.ref q) H'
theorem tab_keys {H : Hp} {kvs : List (Key × V)} {M : Lks} (t : A2 (PairAt H) kvs M) : kvs.map (fun kv => kV kv.1) = stz (M.map (·.1)) := by
  induction t with
  | nil => rfl
  | cons r _ ih =>
    obtain ⟨q, e, _⟩ := r
    rw [List.map_cons, ih, e]
    rfl
theorem ok_nnames {f C : Addr} {fd : FuncData} (F : Fun K "names" "Network.names" sNNames f fd) (B : Bl mg) (T : NTx K mg C) : FnOk P w K mg base CX0 1 f fd ["self"] (spNNames C) := by
  refine F.ok scNNames (fun vs H Q E h => ?_) (fun cdv A outer s H vs Q E hr h => ?_)
  · obtain ⟨p, s, e, M, rfl, _⟩ := h
    rfl
  · obtain ⟨p, s, e, M, rfl, ⟨dx, d, kvs, ep, ed, tab⟩, k⟩ := h
    refine ⟨_, pss_one (ps_ret (pe_callTy call_tuple_of (by rfl) B.tuple (by decide +kernel) (pa_cons (pe_callTy (call_list_dK rfl) (by rfl) B.list (by decide +kernel) (pa_cons (pe_fld (pv 0) rfl) pa_nil)) pa_nil))), ?_⟩
    refine ⟨_, rfl, p, C, dx, _, _, rfl, ep, T.cl, T.nB, nf_tab d s e, d, kvs, rfl, ed, fun l nl => ?_⟩
    have s1 := same_upd (o := .lst (kvs.map fun kv => kV kv.1)) nl
    refine ⟨l, _, rfl, .inl ⟨SqL.of upd_same, fun q nq => ?_⟩⟩
    refine k q _ (s1.trans (same_upd nq)) (none_of s1 nq) ?_
    rw [upd_same, tab_keys tab]
theorem scNGet : FnScope ["self", "name"] ["self", "name"] (defScope sNGet) := ⟨rfl, rfl, rfl, by decide +kernel, rfl, by decide +kernel, by decide +kernel⟩
def spNGet (C : Addr) : Sp := fun vs H Q _ => ∃ (p : Addr) (s e : Str) (M : Lks) (l : Str × Str × Str), vs = [.ref p, .str l.1] ∧ NetA C H p s e M ∧ (M.map (·.1)).Nodup ∧ l ∈ M ∧ ∀ r, H r = some (.tup [.str l.2.1, .str l.2.2]) → Q (.ref r) H
theorem ok_nget {f C : Addr} {fd : FuncData} (F : Fun K "__getitem__" "Network.__getitem__" sNGet f fd) (T : NTx K mg C) : FnOk P w K mg base CX0 1 f fd ["self", "name"] (spNGet C) := by
  refine F.ok scNGet (fun vs H Q E h => ?_) (fun cdv A outer s H vs Q E hr h => ?_)
  · obtain ⟨p, s, e, M, l, rfl, _⟩ := h
    rfl
  · obtain ⟨p, s, e, M, l, rfl, ⟨dx, d, kvs, ep, ed, tab⟩, nd', hl, k⟩ := h
    have nd := scNGet.nd
    have hu := hu_of hr
    refine ⟨_, pss_cons (ps_if (pt_cmp (pc_dnotin hu (pv 1) (pe_fld (pv 0) rfl))) (pss_one ps_never) pss_nil) (pss_one (ps_ret (pe_dget hu (pe_fld (pv 0) rfl) (pv 1) (fun _ _ => rfl)))), ?_⟩
    obtain ⟨r, er, hr'⟩ := tab_at tab nd' hl
    refine ⟨_, rfl, _, rfl, p, C, dx, _, _, rfl, ep, T.cl, T.nB, nf_tab d s e, d, some (.ref r), rfl, .inl ⟨_, Sum.inr l.1, .inl ed, rfl, er.symm⟩, _, rfl, iteF ?_⟩
    refine ⟨_, rfl, p, C, dx, _, _, rfl, ep, T.cl, T.nB, nf_tab d s e, _, rfl, d, _, rfl, .inl ⟨_, Sum.inr l.1, .inl ed, rfl, er.symm⟩, k r hr'⟩
/-! ### __init__ -/
theorem scNInit : FnScope ["self", "links", "start", "end", "name", "tail", "head", "useful"] ["self", "links", "start", "end"] (defScope sNInit) := ⟨rfl, rfl, rfl, by decide +kernel, rfl, by decide +kernel, by decide +kernel⟩
/-- a net with names as they ought to be -/
structure NetOk (M : Lks) (s e : Str) (rk : Str → Nat) : Prop where
  net : Net M s e rk
  nmd : Nmd M s e
  plc : ∀ l ∈ M, l.2.1 ∈ placeWords ∧ l.2.2 ∈ placeWords
  ps : s ∈ placeWords
  pe : e ∈ placeWords
theorem Inner.few {M : Lks} {s e : Str} {rk : Str → Nat} (N : NetOk M s e rk) {T : Lks} (hp : T.Perm M) {ps : List Str} (i : Inner T s e ps) : (s :: ps ++ [e]).length ≤ 8 := by
  have hn : (s :: ps ++ [e]).Nodup := by
    rw [List.cons_append, List.nodup_cons]
    refine ⟨fun h => ?_, List.nodup_append.mpr ⟨i.nd, List.nodup_cons.mpr ⟨List.not_mem_nil, List.nodup_nil⟩, fun x hx y hy z => ?_⟩⟩
    · rcases List.mem_append.mp h with h | h
      · exact ((i.mem s).mp h).1 rfl
      · exact N.nmd.ne (List.mem_singleton.mp h)
    · rw [List.mem_singleton.mp hy] at z
      exact ((i.mem x).mp hx).2.1 z
  refine nodup_sub_len (m := placeWords) hn fun x hx => ?_
  rw [List.cons_append] at hx
  rcases List.mem_cons.mp hx with rfl | hx
  · exact N.ps
  · rcases List.mem_append.mp hx with hx | hx
    · obtain ⟨_, _, l, hl, z⟩ := (i.mem x).mp hx
      have := N.plc l (hp.mem_iff.mp hl)
      rcases z with rfl | rfl
      · exact this.1
      · exact this.2
    · rw [List.mem_singleton.mp hx]
      exact N.pe
def spNInit (C : Addr) : Sp := fun vs H Q _ => ∃ (p dx a : Addr) (M : Lks) (s e : Str) (rk : Str → Nat), vs = [.ref p, .ref a, .str s, .str e] ∧ H p = some (.ins C dx []) ∧ LksAt H a M ∧ NetOk M s e rk ∧
  ∀ H' T, T.Perm M → Sx p H H' → NetA C H' p s e T → Q .non H'
theorem ok_ninit {f fC fF fU fP gP C : Addr} {fd fdC fdF fdU fdP : FuncData} (F : Fun K "__init__" "Network.__init__" sNInit f fd) (B : Bl mg) (Cs : Cst mg) (T : NTx K mg C)
    (DC : Df K mg "check_names" sCheckNames ["links", "start", "end"] fC fdC) (DV : ∃ fV fdV, Df K mg "valid_name" sValid ["text"] fV fdV) (DF : Df K mg "followed" sFollowed ["links", "place"] fF fdF) (DU : Df K mg "useful_links" sUseful ["links", "start", "end"] fU fdU)
    (FP : Fun K "places" "Network.places" sNPlaces fP fdP) (bP : Binds K fdP ["self"] []) (PP : PropOf K C "places" gP fP) : FnOk P w K mg base CX0 3 f fd ["self", "links", "start", "end"] (spNInit C) := by
  obtain ⟨fV, fdV, DV⟩ := DV
  have GC : FnOk P w K mg base CX0 2 fC fdC ["links", "start", "end"] spCheck := ok_check DC.F B Cs DV
  have GF : FnOk P w K mg base CX0 1 fF fdF ["links", "place"] spFollow := ok_follow DF.F B
  have GU : FnOk P w K mg base CX0 2 fU fdU ["links", "start", "end"] spUseful := ok_useful DU.F B DF
  have GP : FnOk P w K mg base CX0 1 fP fdP ["self"] (spPlaces C) := ok_places FP B T
  refine F.ok scNInit (fun vs H Q E h => ?_) (fun cdv A outer s H vs Q E hr h => ?_)
  · obtain ⟨p, dx, a, M, s, e, rk, rfl, _⟩ := h
    rfl
  · obtain ⟨p, dx, a, M, s, e, rk, rfl, ep, ⟨ts, ea, tri⟩, N, k⟩ := h
    have nd := scNInit.nd
    have hu := hu_of hr
    obtain ⟨mc, u10, cr, c10⟩ := T.ml
    obtain ⟨mc8, u8, cr8, c8⟩ := T.mp
    have net := N.net
    refine ⟨_, pss_cons (ps_if (pt_not (pt_chain op_le op_le pe_int (pe_callB call_len_seq (by rfl) B.len PySem.boot_len (pa_cons (pv 1) pa_nil)) (ClX.pe_cval (pe_glob (v := .ref C) (by rfl) T.mgC rfl)))) (pss_one ps_never) pss_nil)
      (pss_cons (ps_expr (pe_call GC hr (by rfl) DC.g DC.F.kp DC.b .nil pass0 (pa_cons (pv 1) (pa_cons (pv 2) (pa_cons (pv 3) pa_nil)))))
      (pss_cons (ps_fld (pv 0) (pv 2) rfl)
      (pss_cons (ps_fld (pv 0) (pv 3) rfl)
      (pss_cons (ps_fld (pv 0) (pe_dc (own := [("name", 4), ("tail", 5), ("head", 6)]) (g := gTup K 3 (gCons (gName 4) (gCons (gName 5) (gCons (gName 6) gNil)))) (tt := tYes) (tk := tVar 4) (tv := tTup (tCons (tVar 5) (tCons (tVar 6) tNil)))
          rfl nd (pi_list (pe_callB (cr_sortT hr.units) (by rfl) B.sorted (by decide +kernel) (pa_cons (pv 1) pa_nil)))
          (blkOk_by (own := [("name", 4), ("tail", 5), ("head", 6)]) (N := ["self", "links", "start", "end", "name", "tail", "head", "useful"]) (sc := defScope sNInit) (by decide +kernel))
          (fun _ _ _ _ _ => pg_tup rfl (pgs_cons (pg_name (i := 4) nd rfl (.inl rfl)) (pgs_cons (pg_name (i := 5) nd rfl (.inl rfl)) (pgs_cons (pg_name (i := 6) nd rfl (.inl rfl)) pgs_nil)))) (fun _ _ _ _ _ => pts_nil) (fun _ _ _ _ _ => pv 4) (fun _ _ _ _ _ => pe_tup (pa_cons (pv 5) (pa_cons (pv 6) pa_nil)))) rfl)
      (pss_cons (ps_lock (ps_for PassesOwn.never rfl (pi_items (pe_fld (pv 0) rfl)) (pg_tup rfl (pgs_cons (pg_name (i := 4) nd rfl (.inl rfl)) (pgs_cons (pg_tup rfl (pgs_cons (pg_name (i := 5) nd rfl (.inl rfl)) (pgs_cons (pg_name (i := 6) nd rfl (.inl rfl)) pgs_nil))) pgs_nil)))
        (pss_one (ps_if (PW.pt (pw_or (pt_cmpR op_eq (pv 5) (pv 6) (nomark _)) (pw_or1 (pt_cmpR op_in_seq (pv 5) (pe_call GF (hr.mono (by decide)) (by rfl) DF.g DF.F.kp DF.b .nil pass0 (pa_cons (pe_fld (pv 0) rfl) (pa_cons (pv 6) pa_nil))) (by rfl))))) (pss_one ps_never) pss_nil))))
      (pss_cons (ps_set (i := 7) nd rfl (.inl rfl) (pe_call GU hr (by rfl) DU.g DU.F.kp DU.b .nil pass0 (pa_cons (pe_fld (pv 0) rfl) (pa_cons (pv 2) (pa_cons (pv 3) pa_nil)))))
      (pss_cons (ps_lock (ps_for PassesOwn.never rfl (pi_keys (pe_fld (pv 0) rfl)) (pg_name (i := 4) nd rfl (.inl rfl)) (pss_one (ps_if (pt_cmp (pc_dnotin hu (pv 4) (pv 7))) (pss_one ps_never) pss_nil))))
      (pss_one (ps_if (pt_cmpR op_gt (pe_callB call_len_seq (by rfl) B.len PySem.boot_len (pa_cons (pe_prop (pv 0) T.cl PP GP hr bP .nil pass0 rfl) pa_nil)) (ClX.pe_cval (pe_glob (v := .ref C) (by rfl) T.mgC rfl)) (nomark _)) (pss_one ps_never) pss_nil))))))))), ?_⟩
    have htl : (refs ts).length = M.length := by rw [refs_len, tri.len]
    have hM := net.len
    have hM1 := net.pos
    have hap : a ≠ p := ne_of ea ep (fun z => nomatch z)
    refine ⟨_, rfl, a, _, rfl, .inl (SqL.of ea), _, _, rfl, rfl, _, rfl, iteKT (decide_eq_true (by rw [htl]; omega)) ⟨C, mc, .int 10, u10, rfl, cr, c10, _, _, rfl, rfl, _, rfl, ?_⟩⟩
    refine iteKF (by show (!decide (((refs ts).length : Int) ≤ 10)) = false; rw [decide_eq_true (by rw [htl]; omega)]; rfl) ?_
    -- the names
    refine ⟨_, rfl, _, rfl, _, rfl, a, M, s, e, rfl, ⟨ts, ea, tri⟩, N.nmd, hM, fun H1 s1 => ?_⟩
    have ep1 := s1 _ _ ep
    -- the fields
    refine ⟨_, rfl, _, rfl, p, C, dx, _, rfl, ep1, T.cl, T.nS, (by show 0 < 1000; decide), ?_⟩
    refine ⟨_, rfl, _, rfl, p, C, dx, _, rfl, upd_same, T.cl, T.nT, (by show 1 < 1000; decide), ?_⟩
    generalize hH2 : upd (upd H1 p (.ins C dx (putF "source" (.str s) []))) p (.ins C dx (putF "target" (.str e) (putF "source" (.str s) []))) = H2
    have x2 : Sx p H H2 := by
      rw [← hH2]
      exact ((Sx.of s1).fld _).fld _
    have ep2 : H2 p = some (.ins C dx (putF "target" (.str e) (putF "source" (.str s) []))) := by rw [← hH2]; exact upd_same
    have ea2 := x2 a _ hap ea
    have tri2 : A2 (TriAt H2) ts M := tri.mono fun r l hr => x2 r _ (ne_of hr ep (fun z => nomatch z)) hr
    -- the table
    refine ⟨_, rfl, a, ts, M.map toL, rfl, ea2, tri_way tri2, (fun w hw => ?_), ?_, fun q rs' nq tw => ?_⟩
    · obtain ⟨l, _, rfl⟩ := List.mem_map.mp hw
      exact fun z => nomatch z
    · rw [List.length_map]
      exact Nat.le_of_lt (small1000 (by omega))
    obtain ⟨Tb, hT, tT⟩ := tri_sorted tw
    have sq := same_upd (o := .lst (refs rs')) nq
    have tT3 : A2 (TriAt (upd H2 q (.lst (refs rs')))) rs' Tb := tT.mono fun _ _ h => sq _ _ h
    have hTl : Tb.length = M.length := hT.length_eq
    have hrl : (refs rs').length = Tb.length := by rw [refs_len, tT.len]
    have netT := net.perm hT.symm
    refine ⟨q, rfl, ⟨_, SqL.of upd_same⟩, fun D nD => ?_⟩
    have e3q : (upd H2 q (.lst (refs rs'))) q = some (.lst (refs rs')) := upd_same
    have e3p := sq _ _ ep2
    generalize upd H2 q (.lst (refs rs')) = H3 at sq tT3 nD e3q e3p
    refine wk_it (walk_list (xs := refs rs')) (fun i H' => Same H3 H' ∧ ∃ kvs, H' D = some (.dK kvs) ∧ A2 (PairAt H') kvs (Tb.take i))
      ⟨same_upd nD, [], upd_same, .nil⟩ (fun i H' _ ⟨s4, _⟩ => SqL.of (s4 _ _ e3q)) ?_ ?_
    · rintro i y H4 H5 hi ⟨s4, kvs, eD, tD⟩ ⟨rfl, ey⟩
      rw [hrl] at hi
      obtain ⟨⟨n, t, h⟩, em⟩ := XL.get_some hi
      obtain ⟨r, er, hr'⟩ := tT3.get em
      rw [refs_get er] at ey
      cases ey
      refine ⟨r, _, rfl, SqT.of (s4 _ _ hr'), rfl, _, _, rfl, _, _, rfl, _, _, rfl, rfl, rfl, ?_⟩
      refine ⟨_, rfl, _, rfl, _, rfl, (by show 2 ≤ sizeLine; decide), fun z nz => ?_⟩
      have sz := same_upd (o := .tup [V.str t, V.str h]) nz
      obtain ⟨kvs2, e2, t2⟩ := tab_put (r := z) (l := (n, t, h)) (sz _ _ eD) (tD.mono fun _ _ q => q.same sz) (fresh_name netT.nd em) upd_same
      refine ⟨kvs, Sum.inr n, rfl, sz _ _ eD, ?_, (fun b o eb => ?_), kvs2, e2, ?_⟩
      · rw [tD.len, List.length_take]
        exact small1000 (by omega)
      · rw [upd_ne]
        · exact sz _ _ (s4 _ _ eb)
        · rintro rfl
          rw [nD] at eb
          cases eb
      · rw [inner_get em]
        exact t2
    rintro H4 ⟨s4, kvs, eD, tD⟩
    rw [hrl, List.take_length] at tD
    have e4p := s4 _ _ e3p
    have hDp : D ≠ p := ne_of eD e4p (fun z => nomatch z)
    refine ⟨_, rfl, p, C, dx, _, rfl, e4p, T.cl, T.nB, (by show 2 < 1000; decide), ?_⟩
    have x5 : Sx p H (upd H4 p (.ins C dx (nf D s e))) := (x2.trans (Sx.of (sq.trans s4))).fld _
    have e5p : (upd H4 p (.ins C dx (nf D s e))) p = some (.ins C dx (nf D s e)) := upd_same
    have e5D : (upd H4 p (.ins C dx (nf D s e))) D = some (.dK kvs) := by rw [upd_ne hDp]; exact eD
    have t5 : A2 (PairAt (upd H4 p (.ins C dx (nf D s e)))) kvs Tb := tD.mono fun _ _ ⟨r, e1, t⟩ => ⟨r, e1, by
      rw [upd_ne (ne_of t e4p (fun z => nomatch z))]
      exact t⟩
    have hkl : kvs.length = Tb.length := t5.len
    -- no round
    refine ⟨D, .dK kvs, e5D, True.intro, fun od => ?_⟩
    have e6p : (upd (upd H4 p (.ins C dx (nf D s e))) D (.frz od (.dK kvs))) p = some (.ins C dx (nf D s e)) := by rw [upd_ne hDp.symm]; exact e5p
    have t6 : A2 (PairAt (upd (upd H4 p (.ins C dx (nf D s e))) D (.frz od (.dK kvs)))) kvs Tb := t5.mono fun _ _ h => h.lock e5D
    refine ⟨_, rfl, p, C, dx, _, _, rfl, e6p, T.cl, T.nB, nf_tab D s e, D, od, kvs, rfl, upd_same, ?_⟩
    refine for_it walk_items (fun i σ H' => ∃ v4 v5 v6, σ = [some (.ref p), some (.ref a), some (.str s), some (.str e), v4, v5, v6, none] ∧ Same (upd (upd H4 p (.ins C dx (nf D s e))) D (.frz od (.dK kvs))) H')
      ⟨none, none, none, rfl, fun _ _ z => z⟩ (fun i σ H' _ ⟨_, _, _, _, s7⟩ => s7 _ _ upd_same) ?_ ?_
    · rintro i x σ H6 H7 hi ⟨v4, v5, v6, rfl, s7⟩ y
      obtain ⟨Tp, n, t, h, r, rfl, nT, rfl, em, er⟩ := ypair t6 hi y
      have s8 := s7.trans (same_upd (o := .tup [V.str n, V.ref r]) nT)
      have hlt := netT.ranked _ (List.mem_of_getElem? em)
      dsimp only at hlt
      refine ⟨Tp, _, rfl, SqT.of upd_same, rfl, _, _, rfl, _, _, rfl, ⟨r, _, rfl, SqT.of (s8 _ _ er), rfl, _, _, rfl, _, _, rfl, rfl, rfl, ?_⟩⟩
      refine ⟨_, rfl, _, rfl, rfl, _, rfl, iteKF (decide_eq_false fun z => ?_) ?_⟩
      · have : t = h := by injection z
        rw [this] at hlt
        omega
      refine ⟨_, rfl, _, rfl, p, C, dx, _, _, rfl, s8 _ _ e6p, T.cl, T.nB, nf_tab D s e, _, rfl, D, od, kvs, Tb, h, rfl, s8 _ _ upd_same, t6.mono fun _ _ q => q.same s8, by omega, fun q H8 fs s9 nq eq lead fl => ?_⟩
      refine ⟨q, _, rfl, .inl (SqL.of eq), rfl, flat_stz _, _, rfl, iteKF ?_ ⟨_, _, _, rfl, s8.trans s9⟩⟩
      show inV (.str t) (stz fs) = false
      rw [in_stz]
      refine decide_eq_false fun z => ?_
      have := Leads.ne netT.ranked ((lead t).mp z)
      omega
    rintro σ H6 ⟨v4, v5, v6, rfl, s7⟩
    refine ⟨s7 _ _ upd_same, ?_⟩
    have s57 := same_unlock s7 e5D
    have e7p := s57 _ _ e5p
    have e7D := s57 _ _ e5D
    have t7 : A2 (PairAt (upd H6 D (.dK kvs))) kvs Tb := t5.mono fun _ _ q => q.same s57
    generalize upd H6 D (.dK kvs) = H7 at s57 e7p e7D t7
    -- all are useful
    refine ⟨_, rfl, p, C, dx, _, _, rfl, e7p, T.cl, T.nB, nf_tab D s e, _, rfl, _, rfl, D, kvs, Tb, s, e, rk, rfl, e7D, t7, netT, fun u H8 kvsU s8 nu eu tU => ?_⟩
    have e8p := s8 _ _ e7p
    have e8D := s8 _ _ e7D
    have hDu : u ≠ D := fun z => by
      rw [z, e7D] at nu
      cases nu
    refine ⟨D, .dK kvs, e8D, True.intro, fun od2 => ?_⟩
    have e9p : (upd H8 D (.frz od2 (.dK kvs))) p = some (.ins C dx (nf D s e)) := by rw [upd_ne hDp.symm]; exact e8p
    have e9u : (upd H8 D (.frz od2 (.dK kvs))) u = some (.dK kvsU) := by rw [upd_ne hDu]; exact eu
    refine ⟨_, rfl, p, C, dx, _, _, rfl, e9p, T.cl, T.nB, nf_tab D s e, D, od2, rfl, .inl ⟨kvs, upd_same, ?_⟩⟩
    refine for_it walk_keys (fun i σ H' => ∃ v4, σ = [some (.ref p), some (.ref a), some (.str s), some (.str e), v4, v5, v6, some (.ref u)] ∧ H' = upd H8 D (.frz od2 (.dK kvs)))
      ⟨v4, rfl, rfl⟩ (fun i σ H' _ ⟨_, _, q⟩ => by rw [q]; exact upd_same) ?_ ?_
    · rintro i x σ H9 H10 hi ⟨v4', rfl, rfl⟩ ⟨rfl, kk, vv, ek, rfl⟩
      rw [hkl] at hi
      obtain ⟨l, em⟩ := XL.get_some hi
      obtain ⟨kv, ekv, r, rfl, er⟩ := t7.get em
      rw [ekv] at ek
      cases ek
      obtain ⟨ru, eru, _⟩ := tab_at tU netT.nd (List.mem_of_getElem? em)
      exact ⟨_, rfl, _, rfl, u, some (.ref ru), rfl, .inl ⟨_, Sum.inr l.1, .inl e9u, rfl, eru.symm⟩, _, rfl, iteF ⟨_, rfl, rfl⟩⟩
    rintro σ H9 ⟨v4', rfl, rfl⟩
    refine ⟨upd_same, ?_⟩
    have sA : Same H8 (upd (upd H8 D (.frz od2 (.dK kvs))) D (.dK kvs)) := same_unlock (fun _ _ z => z) e8D
    have s5A := s57.trans (s8.trans sA)
    have netA : NetA C (upd (upd H8 D (.frz od2 (.dK kvs))) D (.dK kvs)) p s e Tb := ⟨dx, D, kvs, sA _ _ e8p, sA _ _ e8D, t7.mono fun _ _ q => (q.same s8).same sA⟩
    generalize upd (upd H8 D (.frz od2 (.dK kvs))) D (.dK kvs) = HA at sA s5A netA
    -- few places
    obtain ⟨dxA, dA, kA, eA, hA⟩ := id netA
    refine ⟨_, rfl, p, dxA, _, rfl, eA, p, s, e, Tb, rfl, netA, by omega, fun q HB ps sB nq eq inn => ?_⟩
    have few := inn.few N hT
    refine ⟨q, _, rfl, .inr (SqT.of eq), C, mc8, .int 8, u8, rfl, cr8, c8, _, _, rfl, rfl, _, rfl, iteKF (decide_eq_false ?_) ?_⟩
    · rw [stz_len]
      omega
    · exact k HB Tb hT (x5.trans (Sx.of (s5A.trans sB))) (netA.same sB)
end
end XW

/-! Networks opened. -/
namespace XW
open PySem L2 XL XSt
/-- a property of a class by its def -/
def PrpD (K : PySem.W.Frag) (C : Addr) (x q : Str) (st : Stmt) : Prop := ∃ g f fd, Fun K x q st f fd ∧ Binds K fd ["self"] [] ∧ PropOf K C x g f
def DfE (K : PySem.W.Frag) (mg : Str → Option Value) (x : Str) (st : Stmt) (ps : List Str) : Prop := ∃ f fd, Df K mg x st ps f fd
/-- the module's defs that networks need -/
structure ModX (K : PySem.W.Frag) (mg : Str → Option Value) : Prop where
  B : Bl mg
  Cs : Cst mg
  valid : DfE K mg "valid_name" sValid ["text"]
  check : DfE K mg "check_names" sCheckNames ["links", "start", "end"]
  follow : DfE K mg "followed" sFollowed ["links", "place"]
  useful : DfE K mg "useful_links" sUseful ["links", "start", "end"]
/-- the class of networks with its defs -/
structure NetX (K : PySem.W.Frag) (mg : Str → Option Value) (C : Addr) : Prop where
  T : NTx K mg C
  names : PrpD K C "names" "Network.names" sNNames
  start : PrpD K C "start" "Network.start" sNStart
  stop : PrpD K C "end" "Network.end" sNEnd
  places : PrpD K C "places" "Network.places" sNPlaces
  get : ∃ f fd, Fun K "__getitem__" "Network.__getitem__" sNGet f fd ∧ Binds K fd ["self", "name"] [] ∧ PySem.W.findIn K (.ref C) "__getitem__" = some (some (.ref f)) ∧ PySem.W.fnIn K f = true ∧ PySem.W.isFn K (.ref f) = true
  init : ∃ f fd, Fun K "__init__" "Network.__init__" sNInit f fd ∧ Binds K fd ["self", "links", "start", "end"] [] ∧ Mk K C f
section
variable {P : Program} {w : World} {K : PySem.W.Frag} {mg : Str → Option Value} {base : Heap}
theorem NetX.mk_ok {C : Addr} (N : NetX K mg C) (X : ModX K mg) : ∃ f fd, Binds K fd ["self", "links", "start", "end"] [] ∧ Mk K C f ∧ FnOk P w K mg base CX0 3 f fd ["self", "links", "start", "end"] (spNInit C) := by
  obtain ⟨f, fd, F, b, M⟩ := N.init
  obtain ⟨fC, fdC, DC⟩ := X.check
  obtain ⟨fF, fdF, DF⟩ := X.follow
  obtain ⟨fU, fdU, DU⟩ := X.useful
  obtain ⟨gP, fP, fdP, FP, bP, PP⟩ := N.places
  exact ⟨f, fd, b, M, ok_ninit F X.B X.Cs N.T DC X.valid DF DU FP bP PP⟩
theorem scOpened : FnScope ["network", "extra", "links", "name", "tail", "head"] ["network", "extra"] (defScope sOpened) := ⟨rfl, rfl, rfl, by decide +kernel, rfl, by decide +kernel, by decide +kernel⟩
def spOpened (C : Addr) : Sp := fun vs H Q _ => ∃ (p x : Addr) (s e : Str) (T X : Lks) (rk : Str → Nat), vs = [.ref p, .ref x] ∧ NetA C H p s e T ∧ LksAt H x X ∧ NetOk (T ++ X) s e rk ∧
  ∀ q H' U, U.Perm (T ++ X) → Same H H' → H q = none → NetA C H' q s e U → Q (.ref q) H'
theorem ok_opened {f C : Addr} {fd : FuncData} (F : Fun K "opened" "opened" sOpened f fd) (X : ModX K mg) (N : NetX K mg C) : FnOk P w K mg base CX0 5 f fd ["network", "extra"] (spOpened C) := by
  have B := X.B
  have T := N.T
  obtain ⟨fI, fdI, bI, MI, GI⟩ := N.mk_ok (P := P) (w := w) (base := base) X
  obtain ⟨gN, fN, fdN, FN, bN, PN⟩ := N.names
  obtain ⟨gS, fS, fdS, FS, bS, PS⟩ := N.start
  obtain ⟨gE, fE, fdE, FE, bE, PE⟩ := N.stop
  obtain ⟨fG, fdG, FG, bG, aG, nG, iG⟩ := N.get
  have GN : FnOk P w K mg base CX0 1 fN fdN ["self"] (spNNames C) := ok_nnames FN B T
  have GS : FnOk P w K mg base CX0 1 fS fdS ["self"] (spNStart C) := ok_nstart FS T
  have GE : FnOk P w K mg base CX0 1 fE fdE ["self"] (spNEnd C) := ok_nend FE T
  have GG : FnOk P w K mg base CX0 1 fG fdG ["self", "name"] (spNGet C) := ok_nget FG T
  refine F.ok scOpened (fun vs H Q E h => ?_) (fun cdv A outer s H vs Q E hr h => ?_)
  · obtain ⟨p, x, s, e, Tb, Xs, rk, rfl, _⟩ := h
    rfl
  · obtain ⟨p, x, s, e, Tb, Xs, rk, rfl, netA, ⟨xs, ex, trx⟩, ok, k⟩ := h
    have nd := scOpened.nd
    refine ⟨_, pss_cons (ps_set (i := 2) nd rfl (.inl rfl) (pe_lst pa_nil))
      (pss_cons (ps_for PassesOwn.never rfl (pi_tup (pe_prop (pv 0) T.cl PN GN (hr.mono (by decide)) bN .nil pass0 rfl)) (pg_name (i := 3) nd rfl (.inl rfl))
        (pss_cons (ps_asg (pe_ownix (E := E) (GG.raw bG .nil) (hr.mono (by decide)) (fun _ _ _ _ _ _ _ h => h.elim) aG nG iG (pv 0) (pv 3) (fun _ _ => rfl)) (pg_tup rfl (pgs_cons (pg_name (i := 4) nd rfl (.inl rfl)) (pgs_cons (pg_name (i := 5) nd rfl (.inl rfl)) pgs_nil))))
        (pss_one (ps_expr (pe_bm PySem.F.plainAttrs_list PySem.F.slot_list_append PySem.F.type_list_append mt_append (pv 2) (pa_cons (pe_tup (pa_cons (pv 3) (pa_cons (pv 4) (pa_cons (pv 5) pa_nil)))) pa_nil))))))
      (pss_one (ps_ret (pe_make MI GI hr (by rfl) T.mgC bI .nil pass0 (pa_cons (pe_op op_cat (pv 2) (pe_callTy call_list_of (by rfl) B.list (by decide +kernel) (pa_cons (pv 1) pa_nil))) (pa_cons (pe_prop (pv 0) T.cl PS GS (hr.mono (by decide)) bS .nil pass0 rfl) (pa_cons (pe_prop (pv 0) T.cl PE GE (hr.mono (by decide)) bE .nil pass0 rfl) pa_nil))))))), ?_⟩
    have hU := ok.net.len
    rw [List.length_append] at hU
    have ndT : (Tb.map (·.1)).Nodup := by
      have := ok.net.nd
      rw [List.map_append] at this
      exact (List.nodup_append.mp this).1
    refine ⟨(by decide), fun l nl => ?_⟩
    have s1 := same_upd (o := .lst []) nl
    obtain ⟨dx, d, kvs, ep, ed, tab⟩ := id netA
    refine ⟨_, rfl, p, dx, _, rfl, s1 _ _ ep, p, s, e, Tb, rfl, netA.same s1, fun q H2 s2 nq eq => ?_⟩
    have e2l := s2 _ _ (show (upd H l (.lst [])) l = some (.lst (refs [])) from upd_same)
    have s02 := s1.trans s2
    have nmsl : (stz (Tb.map (·.1))).length = Tb.length := by rw [stz_len, List.length_map]
    refine ⟨q, rfl, ⟨_, SqT.of eq⟩, for_tup (K := K) (a := q) (xs := stz (Tb.map (·.1))) (fun i σ H' => ∃ v3 v4 v5 ts, σ = [some (.ref p), some (.ref x), some (.ref l), v3, v4, v5] ∧ Same H H' ∧ H' q = some (.tup (stz (Tb.map (·.1)))) ∧ H' l = some (.lst (refs ts)) ∧ A2 (TriAt H') ts (Tb.take i))
      ⟨none, none, none, [], rfl, s02, eq, e2l, .nil⟩ (fun i σ H' _ ⟨_, _, _, _, _, _, q, _⟩ => SqT.of q) ?_ ?_⟩
    · rintro i r σ H3 hr' ⟨v3, v4, v5, ts, rfl, s3, e3q, e3l, tr⟩
      have hi : i < Tb.length := by rw [← nmsl]; exact (List.getElem?_eq_some_iff.mp hr').1
      obtain ⟨⟨n, t, h⟩, em⟩ := XL.get_some hi
      have en : (Tb.map (·.1))[i]? = some n := by rw [List.getElem?_map, em]; rfl
      rw [stz_get en] at hr'
      cases hr'
      refine ⟨_, rfl, _, rfl, p, dx, _, rfl, s3 _ _ ep, p, s, e, Tb, (n, t, h), rfl, netA.same s3, ndT, List.mem_of_getElem? em, fun r er => ?_⟩
      refine ⟨r, _, rfl, SqT.of er, rfl, _, _, rfl, _, _, rfl, rfl, ?_⟩
      refine ⟨_, rfl, .inl ⟨rfl, _, SqL.of e3l⟩, _, rfl, _, rfl, _, rfl, (by show 3 ≤ sizeLine; decide), fun z nz => ?_⟩
      have sz := same_upd (o := .tup [V.str n, V.str t, V.str h]) nz
      have hqz := sz _ _ e3q
      refine ⟨l, _, _, rfl, rfl, sz _ _ e3l, ?_, ?_⟩
      · rw [refs_len, tr.len, List.length_take]
        exact small1000 (by omega)
      · refine ⟨_, _, _, ts ++ [z], rfl, (fun b o eb => ?_), upd_apart (sz _ _ e3l) hqz, ?_, ?_⟩
        · rw [upd_ne (ne_of_none eb nl)]
          exact sz _ _ (s3 _ _ eb)
        · rw [upd_same]
          unfold refs
          rw [List.map_append]
          rfl
        · rw [inner_get em]
          exact A2.snoc (tr.mono fun r y hy => upd_apart (sz _ _ e3l) (sz _ _ hy)) (upd_apart (sz _ _ e3l) upd_same)
    rintro σ H3 ⟨v3, v4, v5, ts, rfl, s3, e3q, e3l, tr⟩
    rw [nmsl, List.take_length] at tr
    refine ⟨_, rfl, _, rfl, x, _, rfl, .inl (SqL.of (s3 _ _ ex)), fun y ny => ?_⟩
    have sy := same_upd (o := .lst (refs xs)) ny
    refine ⟨l, y, _, _, rfl, rfl, sy _ _ e3l, upd_same, ?_, fun z nz => ?_⟩
    · rw [refs_len, refs_len, tr.len, trx.len]
      exact Nat.le_of_lt (small1000 (by omega))
    have sz := sy.trans (same_upd (o := .lst (refs ts ++ refs xs)) nz)
    have s0z := s3.trans sz
    have netZ := netA.same s0z
    refine ⟨_, rfl, p, dx, _, rfl, s0z _ _ ep, p, s, e, Tb, rfl, netZ, ?_⟩
    refine ⟨_, rfl, p, dx, _, rfl, s0z _ _ ep, p, s, e, Tb, rfl, netZ, ?_⟩
    have eLk : LksAt (upd (upd H3 y (.lst (refs xs))) z (.lst (refs ts ++ refs xs))) z (Tb ++ Xs) := by
      refine ⟨ts ++ xs, ?_, (tr.mono fun _ _ q => sz _ _ q).app (trx.mono fun _ _ q => s0z _ _ q)⟩
      rw [upd_same]
      unfold refs
      rw [List.map_append]
    intro r dr nr ndr ner
    have sr : Same (upd (upd H3 y (.lst (refs xs))) z (.lst (refs ts ++ refs xs))) (upd (upd (upd (upd H3 y (.lst (refs xs))) z (.lst (refs ts ++ refs xs))) dr (.own r)) r (.ins C dr [])) := fun b o eb => by
      rw [upd_ne (ne_of_none eb nr), upd_ne (ne_of_none eb ndr)]
      exact eb
    refine ⟨r, dr, z, Tb ++ Xs, s, e, rk, rfl, upd_same, eLk.same sr, ok, fun H4 U pU s4 net4 => ⟨rfl, ?_⟩⟩
    have sF : Same H H4 := s0z.trans fun b o eb => s4 b o (ne_of_none eb nr) (sr b o eb)
    exact k r H4 U pU sF (none_of s0z nr) net4
end
end XW

/-! A run does not touch generators that it could not wake. -/
namespace XG
open PySem
open Sem (wp)
/-- as it sleeps, but nothing can wake it -/
def poison : GenState → GenState
  | .suspended _ l c p fs cl => .suspended (fun _ => .unsupported "asleep") l c p fs cl
  | x => x
def Clean (D : Nat → Option GenState) (fs : List Frame) : Prop := ∀ g k l c p, Frame.gen g k l c p ∈ fs → D g = none
/-- the sleepers of D are poisoned here -/
structure Ok (D : Nat → Option GenState) (s : Shared) : Prop where
  at_ : ∀ i y, D i = some y → s.gens[i]? = some (poison y)
  sus : ∀ i y, D i = some y → ∃ k l c p fs cl, y = .suspended k l c p fs cl
  cl : ∀ i k l c p fs b, D i = none → s.gens[i]? = some (.suspended k l c p fs b) → Clean D fs
/-- the sleepers as they are -/
def fix (D : Nat → Option GenState) (s : Shared) : Shared := { s with gens := s.gens.mapIdx fun i x => (D i).getD x }
variable {D : Nat → Option GenState}
theorem fix_size (s : Shared) : (fix D s).gens.size = s.gens.size := by simp [fix]
theorem fix_get (s : Shared) (i : Nat) : (fix D s).gens[i]? = (s.gens[i]?).map fun x => (D i).getD x := by simp [fix]
theorem fix_set {s : Shared} {g : Nat} {x : GenState} (h : D g = none) : fix D (s.setGen g x) = (fix D s).setGen g x := by
  have e : (fix D (s.setGen g x)).gens = ((fix D s).setGen g x).gens := by
    apply Array.ext_getElem?
    intro i
    show ((s.gens.setIfInBounds g x).mapIdx fun i x => (D i).getD x)[i]? = ((s.gens.mapIdx fun i x => (D i).getD x).setIfInBounds g x)[i]?
    rw [Array.getElem?_mapIdx, Array.getElem?_setIfInBounds, Array.getElem?_setIfInBounds, Array.size_mapIdx, Array.getElem?_mapIdx]
    by_cases z : g = i
    · subst z
      by_cases q : g < s.gens.size <;> simp [q, h]
    · simp [z]
  obtain ⟨h1, g1, d1, t1, o1⟩ := s
  show ({ heap := h1, gens := _, drawn := d1, toks := t1, os := o1 } : Shared) = { heap := h1, gens := _, drawn := d1, toks := t1, os := o1 }
  exact congrArg (fun G => ({ heap := h1, gens := G, drawn := d1, toks := t1, os := o1 } : Shared)) e
theorem Ok.top {s : Shared} (o : Ok D s) : D s.gens.size = none := by
  cases h : D s.gens.size with
  | none => rfl
  | some y =>
    have := o.at_ _ _ h
    simp at this
theorem fix_push {s : Shared} {x : GenState} (o : Ok D s) : fix D { s with gens := s.gens.push x } = { fix D s with gens := (fix D s).gens.push x } := by
  have e : (s.gens.push x).mapIdx (fun i x => (D i).getD x) = (s.gens.mapIdx fun i x => (D i).getD x).push x := by
    rw [Array.mapIdx_push, o.top]
    rfl
  unfold fix
  rw [e]
theorem Ok.gens {s s' : Shared} (o : Ok D s) (e : s'.gens = s.gens) : Ok D s' := ⟨fun i y h => by rw [e]; exact o.at_ i y h, o.sus, fun i k l c p fs b h q => o.cl i k l c p fs b h (by rw [← e]; exact q)⟩
theorem Ok.set {s : Shared} {g : Nat} {x : GenState} (o : Ok D s) (h : D g = none) (hx : ∀ k l c p fs b, x = .suspended k l c p fs b → Clean D fs) : Ok D (s.setGen g x) where
  at_ := fun i y e => by
    have z : g ≠ i := fun z => by rw [← z, h] at e; cases e
    show (s.gens.setIfInBounds g x)[i]? = _
    rw [Array.getElem?_setIfInBounds_ne z]
    exact o.at_ i y e
  sus := o.sus
  cl := fun i k l c p fs b e q => by
    have q : (s.gens.setIfInBounds g x)[i]? = some (.suspended k l c p fs b) := q
    rw [Array.getElem?_setIfInBounds] at q
    split at q
    · split at q
      · exact hx _ _ _ _ _ _ (Option.some.inj q)
      · cases q
    · exact o.cl i k l c p fs b e q
theorem Ok.push {s : Shared} {c : Code} (o : Ok D s) : Ok D { s with gens := s.gens.push (.fresh c) } where
  at_ := fun i y e => by
    have := o.at_ i y e
    have hi := (Array.getElem?_eq_some_iff.mp this).1
    show (s.gens.push _)[i]? = _
    rw [Array.getElem?_push, if_neg (Nat.ne_of_lt hi)]
    exact this
  sus := o.sus
  cl := fun i k l c' p fs b e q => by
    have q : (s.gens.push (.fresh c))[i]? = some (.suspended k l c' p fs b) := q
    rw [Array.getElem?_push] at q
    split at q
    · cases q
    · exact o.cl i k l c' p fs b e q
theorem seen_poison (y : GenState) : (poison y).seen = y.seen := by cases y <;> rfl
theorem not_poison {s : Shared} {g : Nat} {x : GenState} (o : Ok D s) (h : s.gens[g]? = some x) (hx : ∀ k l c p fs cl, x ≠ .suspended k l c p fs cl) : D g = none := by
  cases e : D g with
  | none => rfl
  | some y =>
    obtain ⟨k, l, c, p, fs, cl, rfl⟩ := o.sus g y e
    have := o.at_ g _ e
    rw [h] at this
    exact absurd (Option.some.inj this) (hx _ _ _ _ _ _)
theorem fix_some {s : Shared} {g : Nat} {x : GenState} (h : s.gens[g]? = some x) (e : D g = none) : (fix D s).gens[g]? = some x := by
  rw [fix_get, h, e]
  rfl
theorem clean_nil : Clean D [] := fun _ _ _ _ _ h => absurd h List.not_mem_nil
theorem Clean.app {a b : List Frame} (x : Clean D a) (y : Clean D b) : Clean D (a ++ b) := fun g k l c p h => (List.mem_append.mp h).elim (x g k l c p) (y g k l c p)
theorem Clean.tail {F : Frame} {fs : List Frame} (x : Clean D (F :: fs)) : Clean D fs := fun g k l c p h => x g k l c p (List.mem_cons_of_mem _ h)
theorem Clean.sub {a b : List Frame} (x : Clean D a) (h : ∀ F ∈ b, F ∈ a) : Clean D b := fun g k l c p q => x g k l c p (h _ q)
theorem split_mem : ∀ {fs pre rest : List Frame} {g : Nat} {k : GenResult → Sem Fin} {c : Code} {p : Pos}, splitAtGen fs = some (pre, (g, k, c, p), rest) → (∃ l, Frame.gen g k l c p ∈ fs) ∧ (∀ F ∈ pre, F ∈ fs) ∧ ∀ F ∈ rest, F ∈ fs
  | [], _, _, _, _, _, _, h => by simp [splitAtGen] at h
  | .gen g k l c p :: fs, pre, rest, g', k', c', p', h => by
    simp only [splitAtGen, Option.some.injEq, Prod.mk.injEq] at h
    obtain ⟨rfl, ⟨rfl, rfl, rfl, rfl⟩, rfl⟩ := h
    exact ⟨⟨l, List.mem_cons_self⟩, fun F hF => absurd hF List.not_mem_nil, fun F hF => List.mem_cons_of_mem _ hF⟩
  | .ret a b c d e f g :: fs, pre, rest, g', k', c', p', h => by
    simp only [splitAtGen, Option.map_eq_some_iff] at h
    obtain ⟨⟨q1, q2, q3⟩, hq, e2⟩ := h
    simp only [Prod.mk.injEq] at e2
    obtain ⟨rfl, rfl, rfl⟩ := e2
    obtain ⟨⟨l, h1⟩, h2, h3⟩ := split_mem hq
    refine ⟨⟨l, List.mem_cons_of_mem _ h1⟩, fun F hF => ?_, fun F hF => List.mem_cons_of_mem _ (h3 F hF)⟩
    rcases List.mem_cons.mp hF with z | z
    · rw [z]; exact List.mem_cons_self
    · exact List.mem_cons_of_mem _ (h2 F z)
theorem no_unsup {M : Model} {w : String} {Γ : Ctx} {p : Pos} {t : Sem Fin} {fs : List Frame} {s s' : Shared} {e : End} (h : Runs M Γ p t fs s e s') : t ≠ .unsupported w := by
  induction h <;> first | (intro z; cases z; done) | assumption
def SuspClean (D : Nat → Option GenState) (e : End) : Prop := ∀ v g l k c p fs, e = .susp v g l k c p fs → Clean D fs
theorem SuspClean.state {e : End} (h : SuspClean D e) : ∀ k l c p fs b, e.genState = .suspended k l c p fs b → Clean D fs := fun k l c p fs b q => by
  cases e with
  | ret r => cases q
  | susp v g l k c p fs =>
    cases q
    exact h _ _ _ _ _ _ _ rfl
theorem runs_swap {M : Model} {Γ : Ctx} {p : Pos} {t : Sem Fin} {fs : List Frame} {s s' : Shared} {e : End} (h : Runs M Γ p t fs s e s') : Ok D s → Clean D fs → Runs M Γ p t fs (fix D s) e (fix D s') ∧ Ok D s' ∧ SuspClean D e := by
  induction h with
  | done => intro o c; exact ⟨.done, o, fun _ _ _ _ _ _ _ z => nomatch z⟩
  | raise => intro o c; exact ⟨.raise, o, fun _ _ _ _ _ _ _ z => nomatch z⟩
  | again q _ ih => intro o c; obtain ⟨a, b, d⟩ := ih o clean_nil; exact ⟨.again q a, b, d⟩
  | rule _ ih => intro o c; obtain ⟨a, b, d⟩ := ih o clean_nil; exact ⟨.rule a, b, d⟩
  | «at» _ ih => intro o c; obtain ⟨a, b, d⟩ := ih o clean_nil; exact ⟨.at a, b, d⟩
  | load q _ ih => intro o c; obtain ⟨a, b, d⟩ := ih o clean_nil; exact ⟨.load q a, b, d⟩
  | update q _ ih => intro o c; obtain ⟨a, b, d⟩ := ih (o.gens rfl) clean_nil; exact ⟨.update q a, b, d⟩
  | loadIfAlive _ ih => intro o c; obtain ⟨a, b, d⟩ := ih o clean_nil; exact ⟨.loadIfAlive a, b, d⟩
  | point _ ih => intro o c; obtain ⟨a, b, d⟩ := ih o clean_nil; exact ⟨.point a, b, d⟩
  | alloc _ ih => intro o c; obtain ⟨a, b, d⟩ := ih (o.gens rfl) clean_nil; exact ⟨.alloc a, b, d⟩
  | fresh _ ih => intro o c; obtain ⟨a, b, d⟩ := ih (o.gens rfl) clean_nil; exact ⟨.fresh a, b, d⟩
  | ask _ ih => intro o c; obtain ⟨a, b, d⟩ := ih o clean_nil; exact ⟨.ask a, b, d⟩
  | choose q _ ih => intro o c; obtain ⟨a, b, d⟩ := ih (o.gens rfl) clean_nil; exact ⟨.choose q a, b, d⟩
  | os _ ih => intro o c; obtain ⟨a, b, d⟩ := ih (o.gens rfl) clean_nil; exact ⟨.os a, b, d⟩
  | handled _ ih => intro o c; obtain ⟨a, b, d⟩ := ih o clean_nil; exact ⟨.handled a, b, d⟩
  | @genState g st Γ p k s e s' q _ ih =>
    intro o c
    obtain ⟨a, b, d⟩ := ih o clean_nil
    cases hD : D g with
    | none => exact ⟨.genState (fix_some q hD) a, b, d⟩
    | some y =>
      have := o.at_ g y hD
      rw [q] at this
      cases this
      rw [seen_poison] at a
      refine ⟨.genState (st := y) ?_ a, b, d⟩
      rw [fix_get, q, hD]
      rfl
  | stack _ ih => intro o c; obtain ⟨a, b, d⟩ := ih o clean_nil; exact ⟨.stack a, b, d⟩
  | thread _ ih => intro o c; obtain ⟨a, b, d⟩ := ih o clean_nil; exact ⟨.thread a, b, d⟩
  | newGen _ ih =>
    intro o c
    obtain ⟨a, b, d⟩ := ih o.push clean_nil
    rw [fix_push o] at a
    refine ⟨.newGen ?_, b, d⟩
    rw [fix_size]
    exact a
  | call _ _ ih1 ih2 =>
    intro o c
    obtain ⟨a1, b1, _⟩ := ih1 o clean_nil
    obtain ⟨a2, b2, d2⟩ := ih2 b1 clean_nil
    exact ⟨.call a1 a2, b2, d2⟩
  | callSusp _ ih1 =>
    intro o c
    obtain ⟨a1, b1, d1⟩ := ih1 o clean_nil
    refine ⟨.callSusp a1, b1, fun v g l k c p fs z => ?_⟩
    cases z
    refine (d1 _ _ _ _ _ _ _ rfl).app fun g k l c p h => ?_
    cases List.mem_singleton.mp h
  | yield =>
    intro o c
    refine ⟨.yield, o, fun v g l k c p fs z => ?_⟩
    cases z
    exact clean_nil
  | resumeFresh q _ hq _ ih1 ih2 =>
    intro o c
    have hD := not_poison o q (fun _ _ _ _ _ _ z => nomatch z)
    obtain ⟨a1, b1, d1⟩ := ih1 (o.set hD fun _ _ _ _ _ _ z => nomatch z) clean_nil
    obtain ⟨a2, b2, d2⟩ := ih2 (b1.set hD d1.state) clean_nil
    rw [fix_set hD] at a1 a2
    exact ⟨.resumeFresh (fix_some q hD) a1 hq a2, b2, d2⟩
  | @resumeSuspended Γ p g r l k s k₀ l₀ c₀ p₀ fs cl e₁ s₁ e s' q h1 hq _ ih1 ih2 =>
    intro o c
    cases hD : D g with
    | some y =>
      obtain ⟨k', l', c', p', fs', cl', rfl⟩ := o.sus g y hD
      have := o.at_ g _ hD
      rw [q] at this
      cases this
      exact absurd rfl (no_unsup (w := "asleep") h1)
    | none =>
      obtain ⟨a1, b1, d1⟩ := ih1 (o.set hD fun _ _ _ _ _ _ z => nomatch z) (o.cl g _ _ _ _ _ _ hD q)
      obtain ⟨a2, b2, d2⟩ := ih2 (b1.set hD d1.state) clean_nil
      rw [fix_set hD] at a1 a2
      exact ⟨.resumeSuspended (fix_some q hD) a1 hq a2, b2, d2⟩
  | resumeJustStarted q hv _ ih =>
    intro o c
    obtain ⟨a, b, d⟩ := ih o clean_nil
    exact ⟨.resumeJustStarted (fix_some q (not_poison o q fun _ _ _ _ _ _ z => nomatch z)) hv a, b, d⟩
  | resumeThrowFresh q _ ih =>
    intro o c
    have hD := not_poison o q (fun _ _ _ _ _ _ z => nomatch z)
    obtain ⟨a, b, d⟩ := ih (o.set hD fun _ _ _ _ _ _ z => nomatch z) clean_nil
    rw [fix_set hD] at a
    exact ⟨.resumeThrowFresh (fix_some q hD) a, b, d⟩
  | resumeRunning q _ ih =>
    intro o c
    obtain ⟨a, b, d⟩ := ih o clean_nil
    exact ⟨.resumeRunning (fix_some q (not_poison o q fun _ _ _ _ _ _ z => nomatch z)) a, b, d⟩
  | resumeFinished q _ ih =>
    intro o c
    obtain ⟨a, b, d⟩ := ih o clean_nil
    exact ⟨.resumeFinished (fix_some q (not_poison o q fun _ _ _ _ _ _ z => nomatch z)) a, b, d⟩
  | segRet _ _ ih1 ih2 =>
    intro o c
    obtain ⟨a1, b1, _⟩ := ih1 o clean_nil
    obtain ⟨a2, b2, d2⟩ := ih2 b1 c.tail
    exact ⟨.segRet a1 a2, b2, d2⟩
  | segGen _ _ ih1 ih2 =>
    intro o c
    have hD := c _ _ _ _ _ List.mem_cons_self
    obtain ⟨a1, b1, _⟩ := ih1 o clean_nil
    obtain ⟨a2, b2, d2⟩ := ih2 (b1.set hD fun _ _ _ _ _ _ z => nomatch z) c.tail
    rw [fix_set hD] at a2
    exact ⟨.segGen a1 a2, b2, d2⟩
  | segSuspOut hs _ ih1 =>
    intro o c
    obtain ⟨a1, b1, d1⟩ := ih1 o clean_nil
    refine ⟨.segSuspOut hs a1, b1, fun v g l k c' p fs z => ?_⟩
    cases z
    exact (d1 _ _ _ _ _ _ _ rfl).app c
  | segSuspGen hs _ hq _ ih1 ih2 =>
    intro o c
    obtain ⟨⟨l, h1⟩, h2, h3⟩ := split_mem hs
    have hD := c _ _ _ _ _ h1
    obtain ⟨a1, b1, d1⟩ := ih1 o clean_nil
    have hc := (d1 _ _ _ _ _ _ _ rfl).app (c.sub h2)
    obtain ⟨a2, b2, d2⟩ := ih2 (b1.set hD fun _ _ _ _ _ _ z => by cases z; exact hc) (c.sub h3)
    rw [fix_set hD] at a2
    exact ⟨.segSuspGen hs a1 hq a2, b2, d2⟩
theorem wakes_swap {M : Model} {Γ : Ctx} {p : Pos} {g : Nat} {r : Resume} {s s' : Shared} {res : GenResult} (h : Wakes M Γ p g r s res s') (o : Ok D s) : Wakes M Γ p g r (fix D s) res (fix D s') ∧ Ok D s' := by
  unfold Wakes at h ⊢
  split at h
  · exact h.elim
  · rename_i c hg
    have hD := not_poison o hg (fun _ _ _ _ _ _ z => nomatch z)
    rw [fix_some hg hD]
    split at h
    · obtain ⟨e₁, s₁, hr, hq, rfl, rfl⟩ := h
      obtain ⟨a, b, d⟩ := runs_swap hr (o.set hD fun _ _ _ _ _ _ z => nomatch z) clean_nil
      rw [fix_set hD] at a
      exact ⟨⟨e₁, _, a, hq, rfl, fix_set hD⟩, b.set hD d.state⟩
    · obtain ⟨rfl, rfl⟩ := h
      exact ⟨⟨rfl, rfl⟩, o⟩
    · obtain ⟨rfl, rfl⟩ := h
      exact ⟨⟨rfl, fix_set hD⟩, o.set hD fun _ _ _ _ _ _ z => nomatch z⟩
  · rename_i k₀ l₀ c₀ p₀ fs cl hg
    obtain ⟨e₁, s₁, hr, hq, rfl, rfl⟩ := h
    cases hD : D g with
    | some y =>
      obtain ⟨k', l', c', p', fs', cl', rfl⟩ := o.sus g y hD
      have := o.at_ g _ hD
      rw [hg] at this
      cases this
      exact absurd rfl (no_unsup (w := "asleep") hr)
    | none =>
      rw [fix_some hg hD]
      obtain ⟨a, b, d⟩ := runs_swap hr (o.set hD fun _ _ _ _ _ _ z => nomatch z) (o.cl g _ _ _ _ _ _ hD hg)
      rw [fix_set hD] at a
      exact ⟨⟨e₁, _, a, hq, rfl, fix_set hD⟩, b.set hD d.state⟩
  · rename_i hg
    rw [fix_some hg (not_poison o hg fun _ _ _ _ _ _ z => nomatch z)]
    obtain ⟨rfl, rfl⟩ := h
    exact ⟨⟨rfl, rfl⟩, o⟩
  · rename_i hg
    rw [fix_some hg (not_poison o hg fun _ _ _ _ _ _ z => nomatch z)]
    obtain ⟨rfl, rfl⟩ := h
    exact ⟨⟨rfl, rfl⟩, o⟩
theorem wp_swap {α : Type} (M : Model) (Γ : Ctx) (t : Sem α) : ∀ (Q : α → Pos → Shared → Prop) (E : Value → Pos → Shared → Prop) (p : Pos) (s : Shared), Ok D s → wp M Γ t Q E p s →
    wp M Γ t (fun a p' s' => ∃ s₂, s' = fix D s₂ ∧ Ok D s₂ ∧ Q a p' s₂) (fun e p' s' => ∃ s₂, s' = fix D s₂ ∧ Ok D s₂ ∧ E e p' s₂) p (fix D s) := by
  induction t with
  | pure a => intro Q E p s hn h; exact ⟨s, rfl, hn, h⟩
  | raise e => intro Q E p s hn h; exact ⟨s, rfl, hn, h⟩
  | unsupported _ => intro Q E p s _ h; exact h
  | finish _ => intro Q E p s _ h; exact h
  | rule _ k ih => intro Q E p s hn h; exact ih () Q E p s hn h
  | «at» p' k ih => intro Q E p s hn h; exact ih () Q E p' s hn h
  | load a _ k ih => intro Q E p s hn h; obtain ⟨o, ho, h⟩ := h; exact ⟨o, ho, ih o Q E p s hn h⟩
  | update a _ f k ih => intro Q E p s hn h; exact ⟨h.1, ih () Q E p { s with heap := s.heap.update a f } (hn.gens rfl) h.2⟩
  | loadIfAlive a k ih => intro Q E p s hn h; exact ih _ Q E p s hn h
  | point _ k ih => intro Q E p s hn h; exact ih () Q E p s hn h
  | register _ _ => intro Q E p s _ h; exact h
  | alloc o k ih => intro Q E p s hn h; exact ih _ Q E p { s with heap := s.heap.push o } (hn.gens rfl) h
  | fresh k ih => intro Q E p s hn h; exact ih _ Q E p { s with toks := s.toks + 1 } (hn.gens rfl) h
  | ask k ih => intro Q E p s hn h; exact ih _ Q E p s hn h
  | choose src m k ih => intro Q E p s hn h; exact ⟨h.1, ih _ Q E p { s with drawn := s.drawn.bump src } (hn.gens rfl) h.2⟩
  | os q _ k ih => intro Q E p s hn h; exact ih _ Q E p { s with os := (Os.step s.os q).1 } (hn.gens rfl) h
  | call c hd _ _ k ih =>
    intro Q E p s hn h
    obtain ⟨r, s', hr, h⟩ := h
    obtain ⟨a, b, _⟩ := runs_swap hr hn clean_nil
    exact ⟨r, _, a, ih r Q E p s' b h⟩
  | handled own k ih => intro Q E p s hn h; exact ih _ Q E p s hn h
  | genState g k ih =>
    intro Q E p s hn h
    obtain ⟨st, hs, h⟩ := h
    cases hD : D g with
    | none => exact ⟨st, fix_some hs hD, ih _ Q E p s hn h⟩
    | some y =>
      have := hn.at_ g y hD
      rw [hs] at this
      cases this
      rw [seen_poison] at h
      refine ⟨y, ?_, ih _ Q E p s hn h⟩
      rw [fix_get, hs, hD]
      rfl
  | newGen c k ih =>
    intro Q E p s hn h
    have := ih _ Q E p _ hn.push h
    rw [fix_push hn] at this
    show wp M Γ (k (fix D s).gens.size) _ _ p _
    rw [fix_size]
    exact this
  | resume g r _ k ih =>
    intro Q E p s hn h
    obtain ⟨res, s', hw, h⟩ := h
    obtain ⟨a, b⟩ := wakes_swap hw hn
    exact ⟨res, _, a, ih res Q E p s' b h⟩
  | yield _ _ _ _ => intro Q E p s _ h; exact h
  | stack k ih => intro Q E p s hn h; exact ih _ Q E p s hn h
  | fork _ _ => intro Q E p s _ h; exact h
  | thread k ih => intro Q E p s hn h; exact ih _ Q E p s hn h
  | await _ _ _ _ _ => intro Q E p s _ h; exact h
/-- the sleepers of a state -/
def sleepers (s : Shared) : Nat → Option GenState := fun i => match s.gens[i]? with
  | some (.suspended k l c p fs cl) => some (.suspended k l c p fs cl)
  | _ => none
def asleep (s : Shared) : Shared := { s with gens := s.gens.map poison }
theorem sleepers_some {s : Shared} {i : Nat} {y : GenState} (h : sleepers s i = some y) : s.gens[i]? = some y ∧ ∃ k l c p fs cl, y = .suspended k l c p fs cl := by
  unfold sleepers at h
  split at h
  · rename_i k l c p fs cl e
    cases h
    exact ⟨e, _, _, _, _, _, _, rfl⟩
  · cases h
theorem ok_asleep (s : Shared) : Ok (sleepers s) (asleep s) where
  at_ := fun i y h => by
    show (s.gens.map poison)[i]? = _
    rw [Array.getElem?_map, (sleepers_some h).1]
    rfl
  sus := fun i y h => (sleepers_some h).2
  cl := fun i k l c p fs b h q => by
    exfalso
    have q : (s.gens.map poison)[i]? = some (.suspended k l c p fs b) := q
    rw [Array.getElem?_map] at q
    cases e : s.gens[i]? with
    | none => rw [e] at q; cases q
    | some x =>
      cases x with
      | suspended k' l' c' p' fs' b' =>
        unfold sleepers at h
        rw [e] at h
        cases h
      | fresh c' => rw [e] at q; cases q
      | running => rw [e] at q; cases q
      | finished => rw [e] at q; cases q
theorem fix_asleep (s : Shared) : fix (sleepers s) (asleep s) = s := by
  have e : (s.gens.map poison).mapIdx (fun i x => (sleepers s i).getD x) = s.gens := by
    apply Array.ext_getElem?
    intro i
    rw [Array.getElem?_mapIdx, Array.getElem?_map]
    cases q : s.gens[i]? with
    | none => rfl
    | some x =>
      show some ((sleepers s i).getD (poison x)) = some x
      unfold sleepers
      rw [q]
      cases x <;> rfl
  unfold fix asleep
  dsimp only
  rw [e]
/-- what is proved with the sleepers poisoned holds of the state itself, and the sleepers sleep on -/
theorem wpAny_asleep {α : Type} {M : Model} {A : Around} {t : Sem α} {Q : α → Shared → Prop} {E : Value → Shared → Prop} {s : Shared} (h : wpAny M A t Q E (asleep s)) :
    wpAny M A t (fun a s' => ∃ s₂, s' = fix (sleepers s) s₂ ∧ Ok (sleepers s) s₂ ∧ Q a s₂) (fun e s' => ∃ s₂, s' = fix (sleepers s) s₂ ∧ Ok (sleepers s) s₂ ∧ E e s₂) s := fun Γ p hΓ => by
  have := wp_swap (D := sleepers s) M Γ t _ _ p _ (ok_asleep s) (h Γ p hΓ)
  rwa [fix_asleep] at this
theorem kept_at {s s₂ : Shared} (o : Ok (sleepers s) s₂) {g : Nat} {k : Resume → Sem Fin} {l : List Value} {c : Code} {p : Pos} {fs : List Frame} {cl : Bool} (h : s.gens[g]? = some (.suspended k l c p fs cl)) : (fix (sleepers s) s₂).gens[g]? = some (.suspended k l c p fs cl) := by
  have hs : sleepers s g = some (.suspended k l c p fs cl) := by
    unfold sleepers
    rw [h]
  rw [fix_get, o.at_ g _ hs, hs]
  rfl
theorem bare_poison (x : GenState) : (poison x).bare = x.bare := by cases x <;> rfl
theorem bare_asleep {s : Shared} (h : PyProof.Rows.AllBare s.gens) : PyProof.Rows.AllBare (asleep s).gens := fun y hy => by
  obtain ⟨x, hx, rfl⟩ := Array.mem_map.mp hy
  rw [bare_poison]
  exact h x hx
theorem bare_fix {s s₂ : Shared} (h : PyProof.Rows.AllBare s.gens) (h2 : PyProof.Rows.AllBare s₂.gens) : PyProof.Rows.AllBare (fix (sleepers s) s₂).gens := fun y hy => by
  obtain ⟨i, hi, e⟩ := Array.mem_iff_getElem.mp hy
  have e2 : (fix (sleepers s) s₂).gens[i]? = some y := by rw [Array.getElem?_eq_getElem hi, e]
  rw [fix_get] at e2
  cases q : s₂.gens[i]? with
  | none => rw [q] at e2; cases e2
  | some x =>
    rw [q] at e2
    cases hs : sleepers s i with
    | none =>
      rw [hs] at e2
      cases e2
      exact h2 _ (Array.mem_of_getElem? q)
    | some z =>
      rw [hs] at e2
      cases e2
      exact h _ (Array.mem_of_getElem? (sleepers_some hs).1)
end XG

/-! One wake of a generator; yield from a list. -/
namespace XG
open PySem PySem.Spec PyProof.Rows L2 GenW
open Sem (wp)
/-- a run of code to its next stop -/
def Run1 (M : Model) (A : Around) (Φ : End → Shared → Prop) (c : Code) (t : Sem PySem.Fin) (fs : List Frame) (s : Shared) : Prop :=
  ∀ Γ p, Γ.code = c → Γ.Woken A → ∃ e s', Runs M Γ p t fs s e s' ∧ Φ e s'
section
variable {M : Model} {A : Around} {Φ : End → Shared → Prop} {c : Code} {fs : List Frame} {s : Shared}
theorem r_wrap {α : Type} {m : Sem α} {K : α → Sem PySem.Fin} {H : Value → Sem PySem.Fin} {gd : Bool → Bool} {lv : List Value → List Value}
    (h : wpAny M (A.over c fs) m (fun a s' => Run1 M A Φ c (K a) fs s') (fun x s' => Run1 M A Φ c (H x) fs s') s) : Run1 M A Φ c (m.wrap K H gd lv) fs s := by
  rintro Γ p rfl hΓ
  exact runs_wrap_of_wp K H gd lv m (h (Γ.over fs) p (hΓ.over fs)) (fun a p' s' h' => h' Γ p' rfl hΓ) (fun x p' s' h' => h' Γ p' rfl hΓ)
theorem r_bind {α : Type} {m : Sem α} {K : α → Sem PySem.Fin}
    (h : wpAny M (A.over c fs) m (fun a s' => Run1 M A Φ c (K a) fs s') (fun x s' => Run1 M A Φ c (.raise x) fs s') s) : Run1 M A Φ c (m >>= K) fs s := by
  rw [Sem.bind_eq_wrap']; exact r_wrap h
theorem r_at {p' : Pos} {k : Unit → Sem PySem.Fin} (h : Run1 M A Φ c (k ()) fs s) : Run1 M A Φ c (.at p' k) fs s :=
  r_wrap (m := standAt p') (K := k) (H := .raise) (gd := id) (lv := id) (wpAny_standAt h)
theorem r_point {l : List Value} {k : Unit → Sem PySem.Fin} (h : Run1 M A Φ c (k ()) fs s) : Run1 M A Φ c (.point l k) fs s :=
  r_wrap (m := point) (K := k) (H := .raise) (gd := id) (lv := fun _ => l) (wpAny_point h)
theorem r_call {c' : Code} {h g l} {k : Result → Sem PySem.Fin} (hc : ∀ p, Run1 M A Φ c' (M.den c') (.ret k h g l c p [] :: fs) s) : Run1 M A Φ c (.call c' h g l k) fs s := by
  rintro Γ p rfl hΓ
  obtain ⟨e, s', hr, he⟩ := hc p (Γ.goto c') p rfl (hΓ.goto c')
  exact ⟨e, s', runs_call_seg hr, he⟩
theorem r_leaf {k h g l c₁ p₁ kp} (r : Result) (hk : Run1 M A Φ c₁ (k r) fs s) : Run1 M A Φ c (leafOf r) (.ret k h g l c₁ p₁ kp :: fs) s := by
  rintro Γ p rfl hΓ
  obtain ⟨e, s', hr, he⟩ := hk (Γ.goto c₁) p₁ rfl (hΓ.goto c₁)
  exact ⟨e, s', Runs.pop r hr, he⟩
theorem r_again {c' : Code} (hq : c'.quiet = true) (hc : Run1 M A Φ c' (M.den c') fs s) : Run1 M A Φ c (.pure (.again c')) fs s := by
  rintro Γ p rfl hΓ
  obtain ⟨e, s', hr, he⟩ := hc (Γ.goto c') p rfl (hΓ.goto c')
  exact ⟨e, s', Runs.head (c₁ := c') (fun _ _ x => .again hq x) hr, he⟩
theorem r_end (r : Result) (h : Φ (.ret r) s) : Run1 M A Φ c (leafOf r) [] s := by
  rintro Γ p rfl _
  exact ⟨.ret r, s, Runs.leaf r, h⟩
theorem r_yield {v g l} {k : Resume → Sem PySem.Fin} (hfs : splitAtGen fs = none) (h : ∀ p, Φ (.susp v g l k c p fs) s) : Run1 M A Φ c (.yield v g l k) fs s := by
  rintro Γ p rfl _
  exact ⟨_, s, Runs.yield' fs hfs, h p⟩
theorem r_bind_wrap {α β : Type} {m : Sem α} {K : α → Sem β} {K' : β → Sem PySem.Fin} {H' : Value → Sem PySem.Fin} {gd : Bool → Bool} {lv : List Value → List Value}
    (h : wpAny M (A.over c fs) m (fun a s' => Run1 M A Φ c ((K a).wrap K' H' gd lv) fs s') (fun x s' => Run1 M A Φ c (H' x) fs s') s) : Run1 M A Φ c ((m >>= K).wrap K' H' gd lv) fs s := by
  rw [Sem.bind_eq_wrap', Sem.wrap_wrap]; exact r_wrap h
theorem r_bind2 {α β γ : Type} {m : Sem α} {f : α → Sem β} {f2 : β → Sem γ} {K : γ → Sem PySem.Fin} {J : Value → Sem PySem.Fin} {gd : Bool → Bool} {lv : List Value → List Value}
    (h : wpAny M (A.over c fs) m (fun a s' => Run1 M A Φ c ((f a).wrap (fun b => (f2 b).wrap K J gd lv) J gd lv) fs s') (fun x s' => Run1 M A Φ c (J x) fs s') s) :
    Run1 M A Φ c (((m >>= f) >>= f2).wrap K J gd lv) fs s := by
  rw [Sem.bind_eq_wrap' (m >>= f) f2, Sem.wrap_wrap]
  exact r_bind_wrap h
theorem r_cons {env : Env} {st : Stmt} {rest : List Stmt} {K : Flow → Sem PySem.Fin} {H : Value → Sem PySem.Fin} {gd : Bool → Bool} {lv : List Value → List Value}
    (h : Run1 M A Φ c ((exec st env).wrap (fun f => match f with | .next => (execs rest env).wrap K H gd lv | f => K f) H gd lv) fs s) : Run1 M A Φ c ((execs (st :: rest) env).wrap K H gd lv) fs s := by
  rw [execs_cons_wrap]; exact h
end
theorem r_func {prog : Program} {w : World} {A : Around} {Φ : End → Shared → Prop} {fs : List Frame} {s : Shared} {env : Env} {body : List Stmt}
    (h : Run1 (model prog w) A Φ (.func body env) ((execs body env).wrap (fun f => .pure (.done (.ret (match f with | .ret v => v | _ => .none))))
      (fun e => (leaving env e).wrap (fun _ => .raise e) .raise id id) id id) fs s) :
    Run1 (model prog w) A Φ (.func body env) ((model prog w).den (.func body env)) fs s := by
  show Run1 _ A Φ _ (.point [] fun _ => ((execs body env).onRaise (leaving env)) >>= _) fs s
  refine r_point ?_
  rw [Sem.onRaise_eq_wrap, Sem.bind_eq_wrap', Sem.wrap_wrap]
  rw [Sem.wrap_congr (execs body env) _ _ (K' := fun f => .pure (.done (.ret (match f with | .ret v => v | _ => .none))))
    (H' := fun e => (leaving env e).wrap (fun _ => .raise e) .raise id id) (fun f => by cases f <;> rfl)
    (fun e => by rw [Sem.bind_eq_wrap, Sem.wrap_wrap]; rfl)]
  exact h
/-! ### the list's iterator -/
section
variable {prog : Program} {w : World} {A : Around} {E : Value → Shared → Prop} {s : Shared}
theorem special_list_item {it l : Addr} {i : Nat} {items : Array Value} {x : Value} {Q : Option Value → Shared → Prop} (hit : s.heap.IsListIter it l i) (hl : s.heap.IsList l items) (hx : items[i]? = some x)
    (hQ : ∀ h', h'.IsListIter it l (i + 1) → Heap.SameBut it s.heap h' → Q (some x) { s with heap := h' }) : wpAny (model prog w) A (callSpecial? (.ref it) "__next__") Q E s := by
  obtain ⟨o, ho, hc, hd⟩ := id hit
  obtain ⟨ol, hol, _, nl, hdl⟩ := hl
  refine wpAny_callSpecial?_slot (name := Str.ofString "__next__") hit.typeIs slot_listiter_next (wpAny_call_entry slot_listiter_next hit.typeIs entry_listiter_next ?_ (args_listiter_next _))
  show wpAny _ _ (field (.ref it) 0 >>= _) _ _ s
  refine wpAny_bind (wpAny_field ho hd (x := .ref l) rfl ?_)
  show wpAny _ _ (if (Value.ref l == Value.none) = true then _ else _) _ _ s
  rw [if_neg (show ¬ ((Value.ref l == Value.none) = true) from Bool.false_ne_true)]
  show wpAny _ _ (field (.ref it) 1 >>= _) _ _ s
  refine wpAny_bind (wpAny_field ho hd (x := .int i 0) rfl ?_)
  show wpAny _ _ (seqItems? (.ref l) >>= _) _ _ s
  refine wpAny_bind (wpAny_seqItems hol hdl ?_)
  simp only [Int.toNat_natCast, hx]
  refine wpAny_bind (wpAny_setField ho hd (by simp) (wpAny_pure ⟨x, rfl, hQ _ ?_ (Heap.SameBut.update ..)⟩))
  exact ⟨_, Heap.get?_update_self _ ho (Obj.isFreed_of_fields (Obj.data_mapFields hd _)), (Obj.cls_mapFields ..).trans hc, by
    rw [Obj.data_mapFields hd]; simp [rawInt]⟩
theorem special_list_end {it l : Addr} {i : Nat} {items : Array Value} {Q : Option Value → Shared → Prop} (hh : A.handled = none) (hit : s.heap.IsListIter it l i) (hl : s.heap.IsList l items) (hx : items[i]? = none)
    (hE : ∀ e h', StopX e h' → Heap.ExtBut it s.heap h' → E e { s with heap := h' }) : wpAny (model prog w) A (callSpecial? (.ref it) "__next__") Q E s := by
  obtain ⟨o, ho, hc, hd⟩ := id hit
  obtain ⟨ol, hol, _, nl, hdl⟩ := hl
  refine wpAny_callSpecial?_slot (name := Str.ofString "__next__") hit.typeIs slot_listiter_next (wpAny_call_entry slot_listiter_next hit.typeIs entry_listiter_next ?_ (args_listiter_next _))
  show wpAny _ _ (field (.ref it) 0 >>= _) _ _ s
  refine wpAny_bind (wpAny_field ho hd (x := .ref l) rfl ?_)
  show wpAny _ _ (if (Value.ref l == Value.none) = true then _ else _) _ _ s
  rw [if_neg (show ¬ ((Value.ref l == Value.none) = true) from Bool.false_ne_true)]
  show wpAny _ _ (field (.ref it) 1 >>= _) _ _ s
  refine wpAny_bind (wpAny_field ho hd (x := .int i 0) rfl ?_)
  show wpAny _ _ (seqItems? (.ref l) >>= _) _ _ s
  refine wpAny_bind (wpAny_seqItems hol hdl ?_)
  simp only [Int.toNat_natCast, hx]
  refine wpAny_bind (wpAny_rule (wpAny_bind (wpAny_setField ho hd (by simp) ?_)))
  show wpAny _ _ (newExc (.type "StopIteration") [] >>= _) _ _ _
  refine wpAny_bind ?_
  simp only [newExc, newTuple]
  refine wpAny_bind (wpAny_newObj_type ?_ (by size_fits))
  refine wpAny_bind (m := firstArgMember _ _) (wpAny_of_eq (a := Value.none) (by first | rfl | (simp only [firstArgMember]; rfl)) ?_)
  refine wpAny_newObj_type ?_ (by size_fits)
  simp only [raiseNew]
  refine wpAny_bind (wpAny_handled ?_)
  first | rw [show A.in1.handled = none from hh] | rw [hh]
  refine wpAny_bind (wpAny_pure (wpAny_throw ?_))
  refine hE _ _ ⟨_, _, _, rfl, Heap.get?_push_size _ rfl, rfl, rfl, ?_⟩ (((Heap.SameBut.update ..).extBut.push _).push _)
  first
    | rfl
    | (rw [Array.getElem?_append_left (by decide)]; rfl)
    | kernel_rfl
end
theorem close_list : typeLookup (.type "list_iterator") "close" = pure none := by rw [typeLookup_type, builtinLookup_eq_fast]; kernel_rfl
/-! ### yield from a list, turn by turn -/
def StL (it p : Addr) (its : Array Value) (j : Nat) (h : Heap) : Prop := h.IsListIter it p j ∧ h.IsList p its
/-- nothing but the iterator has changed -/
def Chg (it : Addr) (s s' : Shared) : Prop := ∃ h' tk, s' = { s with heap := h', toks := tk } ∧ ∀ b o, b ≠ it → s.heap.get? b = some o → h'.get? b = some o
/-- what a wake gives, r items left -/
def Phi (M : Model) (A : Around) (it p : Addr) (its : Array Value) : Nat → Shared → End → Shared → Prop
  | 0 => fun s e s' => e = .ret (.ok (.ret .none)) ∧ Chg it s s'
  | r + 1 => fun s e s' => ∃ v, (∃ g l k c q fs, e = .susp v g l k c q fs) ∧ e.quiet = true ∧ its[its.size - (r + 1)]? = some v ∧ StL it p its (its.size - r) s'.heap ∧ Chg it s s' ∧
      ∀ s'', StL it p its (its.size - r) s''.heap → ∃ k l c q fs, e.genState = .suspended k l c q fs false ∧ Run1 M A (Phi M A it p its r s'') c (k (.send .none)) fs s''
/-- it sleeps, r items left -/
def Asleep (M : Model) (A : Around) (it p : Addr) (its : Array Value) (r : Nat) (gs : GenState) : Prop :=
  ∀ s'', StL it p its (its.size - r) s''.heap → ∃ k l c q fs, gs = .suspended k l c q fs false ∧ Run1 M A (Phi M A it p its r s'') c (k (.send .none)) fs s''
abbrev yfCode (it : Addr) : Code := .builtin "proto.yield_from" ⟨[.ref it, .bool false, .none], []⟩
theorem susp_state {v : Value} {g : Bool} {l : List Value} {k : Resume → Sem PySem.Fin} {c : Code} {p : Pos} {fs : List Frame} (hg : g = false) (hf : fs.any Frame.guarded = false) : (End.susp v g l k c p fs).genState = .suspended k l c p fs false := by
  subst hg
  show GenState.suspended k l c p fs (false || fs.any Frame.guarded) = _
  rw [hf]
  rfl
theorem den_yf2 {P : Program} {w : World} {it : Addr} : (model P w).den (yfCode it) = Builtin.«proto.yield_from» ⟨[.ref it, .bool false, .none], []⟩ := by
  show (match entryFor table "proto.yield_from" with | some b => b ⟨[.ref it, .bool false, .none], []⟩ | none => unsupported ((withoutEnding? "proto.yield_from" "#data").getD "proto.yield_from")) = _
  rw [entry_yf]
theorem yf_turn {P : Program} {w : World} {A : Around} {it p : Addr} {its : Array Value} {fs : List Frame} (hsp : splitAtGen fs = none) (hgd : fs.any Frame.guarded = false) (ho : (A.over (yfCode it) fs).handled = none) (hne : p ≠ it)
    (hend : ∀ (Φ : End → Shared → Prop) (s : Shared), Φ (.ret (.ok (.ret .none))) s → Run1 (model P w) A Φ (yfCode it) (.pure (.done (.ret .none))) fs s) :
    ∀ (r : Nat) (s₀ s : Shared), r ≤ its.size → StL it p its (its.size - r) s.heap → Chg it s₀ s → Run1 (model P w) A (Phi (model P w) A it p its r s₀) (yfCode it) ((model P w).den (yfCode it)) fs s := by
  intro r
  induction r with
  | zero =>
    intro s₀ s hr hst hch
    rw [den_yf2]
    unfold Builtin.«proto.yield_from»
    try dsimp only
    refine r_bind (wpAny_pure ?_)
    try dsimp only
    refine r_bind (wpAny_attempt (wpAny_holding ?_))
    rw [if_neg Bool.false_ne_true, if_pos (show (Value.none == Value.none) = true from rfl)]
    refine wpAny_bind (wpAny_rule (wpAny_bind ?_))
    refine special_list_end ho hst.1 hst.2 (by simp) fun e h' hS hk => ?_
    obtain ⟨a, o, vs, rfl, hoa, hcls, hdat, h5⟩ := hS
    try dsimp only
    refine r_bind (wpAny_endsTurn hoa hcls ?_)
    try dsimp only
    rw [if_pos rfl]
    first
      | refine r_bind (wpAny_rule ?_)
      | (rw [if_neg Bool.false_ne_true]; refine r_bind (wpAny_rule ?_))
      | (rw [if_neg Bool.false_ne_true]; refine r_bind (wpAny_pure ?_); refine r_bind (wpAny_rule ?_))
    refine r_bind (wpAny_field hoa hdat h5 ?_)
    refine hend _ _ ⟨rfl, ?_⟩
    obtain ⟨h0, tk0, rfl, k0⟩ := hch
    exact ⟨h', tk0, rfl, fun b o hb e => hk b o hb (k0 b o hb e)⟩
  | succ r ih =>
    intro s₀ s hr hst hch
    have hj : its.size - (r + 1) < its.size := by omega
    obtain ⟨x, hx⟩ : ∃ x, its[its.size - (r + 1)]? = some x := ⟨its[its.size - (r + 1)], Array.getElem?_eq_getElem hj⟩
    have hj1 : its.size - (r + 1) + 1 = its.size - r := by omega
    rw [den_yf2]
    unfold Builtin.«proto.yield_from»
    try dsimp only
    refine r_bind (wpAny_pure ?_)
    try dsimp only
    refine r_bind (wpAny_attempt (wpAny_holding ?_))
    rw [if_neg Bool.false_ne_true, if_pos (show (Value.none == Value.none) = true from rfl)]
    refine wpAny_bind (wpAny_rule (wpAny_bind ?_))
    refine special_list_item hst.1 hst.2 hx fun h' hit' hk => ?_
    rw [hj1] at hit'
    have hst' : StL it p its (its.size - r) h' := ⟨hit', hst.2.extBut hk.extBut hne⟩
    refine wpAny_pure ?_
    try dsimp only
    obtain ⟨oi, hoi, hoc, _⟩ := id hit'
    refine r_bind (wpAny_typeOf (T := "list_iterator") ⟨oi, hoi, hoc⟩ ?_)
    try dsimp only
    first
      | (refine r_bind (wpAny_of_eq close_list ?_); refine r_bind (wpAny_pure ?_))
      | refine r_bind (wpAny_bind (wpAny_of_eq close_list (wpAny_pure ?_)))
      | refine r_bind (wpAny_of_eq close_list ?_)
    try dsimp only
    refine r_bind (wpAny_sleptOver hoi hoc (by decide) ?_)
    refine r_yield hsp fun q => ?_
    have hch' : Chg it s₀ { s with heap := h' } := by
      obtain ⟨h0, tk0, rfl, k0⟩ := hch
      exact ⟨h', tk0, rfl, fun b o hb e => hk.2 b (by intro z; exact hb z) |>.trans (k0 b o hb e)⟩
    refine ⟨x, ⟨_, _, _, _, _, _, rfl⟩, ?_, hx, hst', hch', fun s'' hs'' => ⟨_, _, _, _, _, susp_state rfl hgd, ?_⟩⟩
    · show (!(_ || fs.any Frame.guarded)) = true
      rw [hgd]
      rfl
    · obtain ⟨oj, hoj, hojc, _⟩ := id hs''.1
      show Run1 _ _ _ _ (Builtin.Generator.sleptOver (.ref it) false >>= fun _ => _) fs s''
      refine r_bind (wpAny_sleptOver hoj hojc (by decide) ?_)
      try dsimp only
      refine r_bind (wpAny_pure ?_)
      exact r_again (plainId_quiet plain_yf _) (ih s'' s'' (by omega) hs'' ⟨s''.heap, s''.toks, rfl, fun _ _ _ e => e⟩)
end XG

/-! A generator def: plain statements, then yield from a list. -/
namespace XG
open PySem PySem.Spec PyProof.Rows L2 GenW
open Sem (wp)
theorem execs_app {env : Env} : ∀ (pre rest : List Stmt), execs (pre ++ rest) env = (execs pre env >>= fun f => match f with | .next => execs rest env | f => pure f)
  | [], rest => rfl
  | st :: pre, rest => by
    rw [List.cons_append, execs_cons, execs_cons, execs_app pre rest, bind_assoc]
    congr 1
    funext f
    cases f <;> rfl
theorem r_pre {M : Model} {A : Around} {Φ : End → Shared → Prop} {c : Code} {fs : List Frame} {s : Shared} {env : Env} {pre rest : List Stmt} {K : Flow → Sem PySem.Fin} {H : Value → Sem PySem.Fin} {gd : Bool → Bool} {lv : List Value → List Value}
    (h : wpAny M (A.over c fs) (execs pre env) (fun f s' => f = .next ∧ Run1 M A Φ c ((execs rest env).wrap K H gd lv) fs s') (fun _ _ => False) s) : Run1 M A Φ c ((execs (pre ++ rest) env).wrap K H gd lv) fs s := by
  rw [execs_app]
  refine r_bind_wrap (wpAny_mono h (fun f s' hf => ?_) fun _ _ z => z.elim)
  obtain ⟨rfl, hr⟩ := hf
  exact hr
theorem Run1.mono {M : Model} {A : Around} {Φ Φ' : End → Shared → Prop} {c : Code} {t : Sem PySem.Fin} {fs : List Frame} {s : Shared} (hm : ∀ e s', Φ e s' → Φ' e s') (h : Run1 M A Φ c t fs s) : Run1 M A Φ' c t fs s := fun Γ p hc hΓ =>
  let ⟨e, s', hr, hp⟩ := h Γ p hc hΓ
  ⟨e, s', hr, hm e s' hp⟩
abbrev rfs (rs : List Addr) : List V := rs.map V.ref
theorem vals_rfs : ∀ {rs : List Addr} {its : List Value}, Vals (rfs rs) its → its = rs.map Value.ref
  | [], _, h => by cases h; rfl
  | r :: rs, _, h => by
    cases h with
    | cons a t =>
      cases a
      rw [List.map_cons, ← vals_rfs t]
abbrev itsOf (rs : List Addr) : Array Value := (rs.map Value.ref).toArray
/-- what the first wake gives -/
def First (P : Program) (w : World) (A : Around) (outer : List Env) (H : Hp) (s : Shared) (a g : Nat) (Q : List Addr → Hp → Prop) (e : End) (s1 : Shared) : Prop :=
  ∃ (H' : Hp) (p it : Addr) (rs : List Addr) (r0 : Addr), (∃ g l k c q fs, e = .susp (.ref r0) g l k c q fs) ∧ e.quiet = true ∧ s1.os = s.os ∧ AllBare s1.gens ∧ Un (frs outer) [] H H' s.heap s1.heap ∧ HOk P w H' s1.heap ∧ s1.heap.NoLimit ∧ s1.heap.IsGen a g ∧
    H' p = some (.lst (rfs rs)) ∧ H' it = none ∧ H' a = none ∧ s.heap.objs.size ≤ it ∧ a ≠ it ∧ rs[0]? = some r0 ∧ StL it p (itsOf rs) 1 s1.heap ∧ Asleep (model P w) A it p (itsOf rs) ((itsOf rs).size - 1) e.genState ∧ Q rs H'
/-- a call of such a def gives a generator that has not begun -/
def MadeL (P : Program) (w : World) (k : Nat) (outer : List Env) (H : Hp) (s : Shared) (Q : List Addr → Hp → Prop) (u : Value) (s' : Shared) : Prop :=
  ∃ (a : Addr) (g : Nat) (c : Code), u = .ref a ∧ s.heap.objs.size ≤ a ∧ a < s'.heap.objs.size ∧ s'.heap.IsGen a g ∧ s'.gens[g]? = some (.fresh c) ∧ s'.os = s.os ∧ AllBare s'.gens ∧ s'.heap.NoLimit ∧ (∀ b o, s.heap.get? b = some o → s'.heap.get? b = some o) ∧
    ∀ (A : Around) (s2 : Shared), Room k A → A.frames = some outer → (∀ b o, s'.heap.get? b = some o → s2.heap.get? b = some o) → s2.os = s.os → AllBare s2.gens →
      Run1 (model P w) A (First P w A outer H s a g Q) c ((model P w).den c) [] s2
abbrev gX (P : Program) (w : World) (K : PySem.W.Frag) (mg : Str → Option Value) (base : Heap) (N : List Str) (qual : Str) (scope : Scope) (f : Addr) (cd : Value) (A : Around) (outer : List Env) (s : Shared) (H : Hp) : Cx :=
  (gcxOf P w K mg base N qual scope f cd A outer s H (fun _ _ _ => False) []).nox
theorem gen_made {P : Program} {w : World} {K : PySem.W.Frag} {mg : Str → Option Value} {base : Heap} {x qual : Str} {st : Stmt} {f : Addr} {fd : FuncData} {N ps : List Str} {k : Nat} {sp : List V → Hp → (List Addr → Hp → Prop) → Prop} {pre : List Stmt} {e : Expr} {yp pos : Pos}
    (F : L2.Fun K x qual st f fd) (S : GScope N ps (defScope st)) (len : ∀ vs H Q, sp vs H Q → vs.length = ps.length) (hbd : defBody st = pre ++ [.Expr (.YieldFrom e yp) pos]) (hi : ∀ s cdv, interactive (envOfC qual (defScope st) s f cdv) = false)
    (hbody : ∀ (cdv : Value) (A : Around) (outer : List Env) (s : Shared) (H : Hp) (vs : List V) (Q : List Addr → Hp → Prop), Room k (A.deeper (envOfC qual (defScope st) s.heap.objs.size f cdv)) → sp vs H Q →
      ∃ t te, PSs (gX P w K mg base N qual (defScope st) f cdv A outer s H) pre t ∧ PE (gX P w K mg base N qual (defScope st) f cdv A outer s H) e te ∧
        t { nx := fun σ H' => te σ H' fun v H'' => ∃ p rs r0, v = .ref p ∧ H'' p = some (.lst (rfs rs)) ∧ rs[0]? = some r0 ∧ Q rs H'', rt := fun _ _ => False } (start N vs) H)
    (A : Around) (outer : List Env) (s : Shared) (H : Hp) (args : Args) (us : List Value) (vs : List V) (Q : List Addr → Hp → Prop) (hr : Room (k + 1) A) (e0 : Env0 P w K mg base A outer s H) (hb : BindsTo s fd args (ps.zip us)) (r : Vals vs us) (hsp : sp vs H Q) :
    codeAny (model P w) A (.call (.ref f) args) (fun r s' => match r with | .ok (.ret u) => MadeL P w (k + 1) outer H s Q u s' | _ => False) s := by
  obtain ⟨oc, od, kV, doc, pm, an, cdv, ct, osl, rfl, lk, hcd⟩ := F.ex
  have hl := len _ _ _ hsp
  have KX : K.In s.heap := e0.mod.kin.keeps fun b o e => (e0.bs b o e).1
  have lim : s.heap.NoLimit := e0.mod.nolimit.keeps fun b o e => (e0.bs b o e).1
  have hkind : ∀ y ∈ ps.zip us, (defScope st).names.lookup y.1 = some .local ∨ ((defScope st).names.lookup y.1 = some .cell ∧ ((cellsFrom (s.heap.objs.size + 1) (defScope st).names []).lookup y.1).isSome = true) := fun ⟨n, v⟩ hy => by
    rcases S.par n (List.of_mem_zip hy).1 with q | q
    · exact .inl q
    · exact .inr ⟨q, PySem.W.cellsFrom_some _ _ _ (.inl q)⟩
  refine codeAny_call_generator hr.depth (KX _ _ lk) rfl S.co S.gen rfl (PySem.W.codeRec_of KX hcd) (hb _ _ _ _ ?_)
  refine wpAny_newFunctionEnv_cells S.kind hkind fun env he s1 x => ?_
  subst he
  have lim1 : s1.heap.NoLimit := lim.keeps x.toInCall.keep
  refine ⟨lim1, ?_⟩
  obtain ⟨h1, tk, es1, hk1⟩ := x.done
  have os1 : s1.os = s.os := by rw [es1]
  have gen1 : s1.gens = s.gens := by rw [es1]
  have lt1 : s.heap.objs.size < s1.heap.objs.size := x.toInCall.ns.lt
  have sz1 : s.heap.objs.size ≤ s1.heap.objs.size := Nat.le_of_lt lt1
  have kp1 : ∀ b o, s.heap.get? b = some o → s1.heap.get? b = some o := x.toInCall.keep
  have main : ∀ (go : Obj) (nm qn : Value) (tk2 : Nat), go.cls = .type "generator" → go.data = .fields #[.int s1.gens.size 0, nm, qn] → go.slots = #[] → (∀ h : Heap, (h.push go).get? h.objs.size = some go) →
      MadeL P w (k + 1) outer H s Q (.ref s1.heap.objs.size) { s1 with gens := s1.gens.push (.fresh (.func (defBody st) (envOfC qual (defScope st) s.heap.objs.size f cdv))), toks := tk2, heap := s1.heap.push go } := by
    intro go nm qn tk2 hgc hgd0 hgs hgp
    have hgen : ∀ h : Heap, h.get? s1.heap.objs.size = some go → h.IsGen s1.heap.objs.size s1.gens.size := fun h e => ⟨go, nm, qn, e, hgc, hgd0, hgs⟩
    have hpushed : (s1.heap.push go).get? s1.heap.objs.size = some go := hgp _
    refine ⟨s1.heap.objs.size, s1.gens.size, _, rfl, sz1, ?_, hgen _ hpushed, Array.getElem?_push_size .., os1, ?_, lim1.keeps fun b o e => Heap.get?_push_of_some _ e, fun b o e => Heap.get?_push_of_some _ (kp1 b o e), ?_⟩
    · show _ < (s1.heap.push _).objs.size
      rw [Heap.size_push]; exact Nat.lt_succ_self _
    · exact AllBare.push (by rw [gen1]; exact e0.bare) rfl
    intro Aw s2 hrw hfr hk2 hos hba
    have e0w : Env0 P w K mg base Aw outer s H := ⟨hfr, e0.mod, e0.bs, e0.bsz, e0.funs, e0.frf, e0.hok, e0.bare⟩
    obtain ⟨t, te, ht, hte, hq⟩ := hbody cdv Aw outer s H vs Q (hrw.deeper _) hsp
    have I1 := (inv_startG (E := fun _ _ _ => False) S hrw.hd e0w hl r x).wish (fun _ _ => False)
    have I1 : Inv (gX P w K mg base N qual (defScope st) f cdv Aw outer s H) [] (start N vs) H s1 := I1
    have kp2 : ∀ b o, s1.heap.get? b = some o → s2.heap.get? b = some o := fun b o e => hk2 b o (Heap.get?_push_of_some _ e)
    have I2 : Inv (gX P w K mg base N qual (defScope st) f cdv Aw outer s H) [] (start N vs) H s2 :=
      I1.call' (ch := []) (hos.trans os1.symm) (Un.kept kp2) (I1.hok.kept kp2) hba fun b z => by simp at z
    have hea : s2.heap.get? s1.heap.objs.size = some go := hk2 s1.heap.objs.size go hpushed
    have hgd : ∀ v, go.data ≠ .cell v := fun v q => by rw [hgd0] at q; cases q
    have young : ∀ b, s1.heap.objs.size ≤ b → H b = none ∧ b ≠ s.heap.objs.size ∧ b ∉ frs outer := fun b hb =>
      ⟨I1.hok.fresh hb, Nat.ne_of_gt (Nat.lt_of_lt_of_le lt1 hb), I1.nofs hb⟩
    have I3 : Inv (gX P w K mg base N qual (defScope st) f cdv Aw outer s H) [(s1.heap.objs.size, go)] (start N vs) H s2 := I2.pins_of fun p hp => by
      have hp : p ∈ [(s1.heap.objs.size, go)] := hp
      rw [List.mem_singleton.mp hp]
      obtain ⟨y1, y2, y3⟩ := young s1.heap.objs.size (Nat.le_refl _)
      exact ⟨hea, y1, y2, y3, hgd⟩
    refine r_func ?_
    rw [hbd]
    refine r_pre ?_
    rw [over_func]
    refine wpAny_mono (ht.run _ s2 (start N vs) H _ I3 hq) (fun fl s3 h3 => ?_) fun _ _ z => z
    cases fl with
    | brk => obtain ⟨_, _, _, z⟩ := h3; exact z.elim
    | cont => obtain ⟨_, _, _, z⟩ := h3; exact z.elim
    | ret v => obtain ⟨_, _, _, _, _, z⟩ := h3; exact z.elim
    | next =>
      obtain ⟨σ3, H3, I3', hte3⟩ := h3
      refine ⟨rfl, ?_⟩
      refine r_cons ?_
      rw [exec_Expr _ _ pos (hi _ _) rfl]
      show Run1 _ _ _ _ (.at pos fun _ => ((eval e (envOfC qual (defScope st) s.heap.objs.size f cdv) >>= fun v => (standAt yp >>= fun _ => yieldFrom (envOfC qual (defScope st) s.heap.objs.size f cdv) v)) >>= fun x => dropValue (.YieldFrom e yp) pos x).wrap _ _ _ _) _ s3
      refine r_at ?_
      refine r_bind2 ?_
      rw [over_func]
      refine wpAny_mono (hte.run _ s3 σ3 H3 _ I3' hte3) (fun v s4 h4 => ?_) fun _ _ z => z.elim
      obtain ⟨xv, H4, I4, rv, p, rs, r0, rfl, hp, h0, hQ⟩ := h4
      obtain rfl : v = Value.ref p := rv
      obtain ⟨its, rits, hpl4, _⟩ := I4.list (SqL.of hp)
      have hl4 : s4.heap.IsList p its.toArray := by
        obtain ⟨o, n, ho, hc, hd, hdat⟩ := hpl4
        exact ⟨o, ho, hc, n, hdat⟩
      have eits := vals_rfs rits
      subst eits
      refine r_at ?_
      show Run1 _ _ _ _ ((yieldFrom (envOfC qual (defScope st) s.heap.objs.size f cdv) (.ref p)).wrap _ _ _ _) _ s4
      unfold yieldFrom
      refine r_bind_wrap (wpAny_typeOf (T := "list") hl4.typeIs ?_)
      rw [if_neg (by decide)]
      refine r_bind_wrap (wpAny_holding ?_)
      refine wpAny_pyIter_list hl4 ?_
      refine r_call fun p' => ?_
      have hit0 : (s4.heap.push { cls := .type "list_iterator", data := .fields #[.ref p, .int 0 0] }).IsListIter s4.heap.objs.size p 0 := ⟨_, Heap.get?_push_size _ rfl, rfl, rfl⟩
      have hpl : p < s4.heap.objs.size := by
        obtain ⟨ol, hol, _⟩ := hl4
        exact Heap.lt_size hol
      have hlen : 0 < (itsOf rs).size := by
        have := (List.getElem?_eq_some_iff.mp h0).1
        simpa using this
      obtain ⟨m, hm⟩ : ∃ m, (itsOf rs).size = m + 1 := ⟨(itsOf rs).size - 1, by omega⟩
      have hIL : (s4.heap.push { cls := .type "list_iterator", data := .fields #[.ref p, .int 0 0] }).IsList p (itsOf rs) := hl4.push _
      refine Run1.mono (Φ := Phi (model P w) Aw s4.heap.objs.size p (itsOf rs) (m + 1) { s4 with heap := s4.heap.push { cls := .type "list_iterator", data := .fields #[.ref p, .int 0 0] } }) (fun e1 s5 h15 => ?_) (yf_turn (P := P) (w := w) (A := Aw) (it := s4.heap.objs.size) (p := p) (its := itsOf rs) rfl rfl
        (by rw [over_handled, over_func]; exact hrw.hd) (Nat.ne_of_lt hpl) ?_ (m + 1) _ _ (by omega) (by rw [hm, Nat.sub_self]; exact ⟨hit0, hIL⟩) ⟨s4.heap.push { cls := .type "list_iterator", data := .fields #[.ref p, .int 0 0] }, s4.toks, rfl, fun _ _ _ e => e⟩)
      case refine_2 => exact fun Φ s h => r_leaf (.ok (.ret .none)) (r_end (.ok (.ret .none)) h)
      obtain ⟨v5, hsusp, hqt, hv, hst5, ⟨h5, tk5, rfl, hk5⟩, hsl⟩ := h15
      rw [hm, Nat.sub_self] at hv
      have ev : v5 = .ref r0 := by
        have e9 : (rs.map Value.ref).toArray[0]? = some (.ref r0) := by
          rw [List.getElem?_toArray, List.getElem?_map, h0]
          rfl
        rw [e9] at hv
        exact (Option.some.inj hv).symm
      subst ev
      have hj1 : (itsOf rs).size - m = 1 := by omega
      rw [hj1] at hst5
      have kp5 : ∀ b o, s4.heap.get? b = some o → h5.get? b = some o := fun b o eb => hk5 b o (Nat.ne_of_lt (Heap.lt_size eb)) (Heap.get?_push_of_some _ eb)
      have hsm : (itsOf rs).size - 1 = m := by omega
      have ha4 := I4.pin (s1.heap.objs.size, go) (List.mem_append_right _ (List.mem_singleton.mpr rfl))
      refine ⟨H4, p, s4.heap.objs.size, rs, r0, hsusp, hqt, I4.os, I4.bare, I4.base.trans (Un.kept kp5), I4.hok.kept kp5, I4.nolimit.keeps kp5, hgen _ (kp5 _ _ ha4.1), hp, I4.hok.fresh (Nat.le_refl _), ha4.2.1, I4.sz, Nat.ne_of_lt (Heap.lt_size ha4.1), h0, hst5, ?_, hQ⟩
      rw [hsm]
      intro s'' hs''
      exact hsl s'' hs''
  exact main _ _ _ _ rfl rfl rfl fun h => Heap.get?_push_size _ rfl
end XG

/-! for over such a generator. -/
namespace XG
open PySem PySem.Spec PyProof.Rows L2 GenW
open Sem (wp)
/-- woken now, it runs so -/
def Wake1 (M : Model) (A : Around) (Φ : End → Shared → Prop) (gs : GenState) (s : Shared) : Prop :=
  match gs with
  | .fresh c => Run1 M A Φ c (M.den c) [] s
  | .suspended k _ c _ fs _ => Run1 M A Φ c (k (.send .none)) fs s
  | _ => False
theorem wpAny_resume1 {M : Model} {A : Around} {Φ : End → Shared → Prop} {E : Value → Shared → Prop} {s : Shared} {g : Nat} {gs : GenState} {l : List Value} {α : Type} {k : GenResult → Sem α} {Q : α → Shared → Prop} (hg : s.gens[g]? = some gs)
    (hgo : Wake1 M A Φ gs (s.setGen g .running)) (hq : ∀ e s₁, Φ e s₁ → e.quiet = true) (h : ∀ e s₁, Φ e s₁ → wpAny M A (k e.result) Q E (s₁.setGen g e.genState)) : wpAny M A (.resume g (.send .none) l k) Q E s := by
  intro Γ p hΓ
  rw [Sem.wp_resume]
  have hB : ∀ c, (Γ.wake c p).Woken A := fun c => hΓ.wake c p
  cases gs with
  | fresh c =>
    obtain ⟨e₁, s₁, hr, he⟩ := hgo (Γ.wake c p) p rfl (hB c)
    exact ⟨_, _, by unfold Wakes; rw [hg]; exact ⟨e₁, s₁, hr, hq e₁ s₁ he, rfl, rfl⟩, h e₁ s₁ he Γ p hΓ⟩
  | suspended k₀ l₀ c₀ p₀ fs₀ cl =>
    obtain ⟨e₁, s₁, hr, he⟩ := hgo (Γ.wake c₀ p) p₀ rfl (hB c₀)
    exact ⟨_, _, by unfold Wakes; rw [hg]; exact ⟨e₁, s₁, hr, hq e₁ s₁ he, rfl, rfl⟩, h e₁ s₁ he Γ p hΓ⟩
  | running => exact hgo.elim
  | finished => exact hgo.elim
theorem next_gen1 {P : Program} {w : World} {A : Around} {E : Value → Shared → Prop} {s : Shared} {a : Addr} {g : Nat} {gs : GenState} {Φ : End → Shared → Prop} {Q : Option Value → Shared → Prop} (hh : A.handled = none)
    (hl : s.heap.NoLimit) (hroom : A.depth < recursionLimit) (hg : s.heap.IsGen a g) (hgs : s.gens[g]? = some gs) (hgo : Wake1 (model P w) A.in1 Φ gs (s.setGen g .running))
    (hq : ∀ e s₁, Φ e s₁ → e.quiet = true ∧ (e = .ret (.ok (.ret .none)) ∨ ∃ v g' l k c q fs, e = .susp v g' l k c q fs))
    (hY : ∀ v s₁ e, Φ e s₁ → (∃ g' l k c q fs, e = .susp v g' l k c q fs) → Q (some v) (s₁.setGen g e.genState))
    (hP : ∀ s₁, Φ (.ret (.ok (.ret .none))) s₁ → ∀ h', (∀ b o, s₁.heap.get? b = some o → h'.get? b = some o) → Q none { s₁.setGen g .finished with heap := h' }) :
    wpAny (model P w) A (pyNext (.ref a)) Q E s := by
  unfold pyNext
  refine wpAny_bind (wpAny_attempt (wpAny_callSpecial?_slot (name := Str.ofString "__next__") hg.typeIs slot_gen_next
    (wpAny_call_entry slot_gen_next hg.typeIs entry_gen_next ?_ (args_gen_next _))))
  show wpAny _ A.in1 (Builtin.Generator.genWake (.ref a) (.send .none)) _ _ s
  unfold Builtin.Generator.genWake
  refine wpAny_bind (wpAny_holding (wpAny_genNumber hg (wpAny_bind (wpAny_genState hgs ?_))))
  cases gs with
  | running => exact hgo.elim
  | finished => exact hgo.elim
  | _ =>
    refine wpAny_bind (wpAny_roomToWake hl hroom ?_)
    show wpAny _ A.in1 (.resume g (.send .none) [] _) _ _ s
    refine wpAny_resume1 hgs hgo (fun e s₁ he => (hq e s₁ he).1) fun e s₁ he => ?_
    rcases (hq e s₁ he).2 with rfl | ⟨v, g', l, k, c, q, fs, rfl⟩
    · show wpAny _ A.in1 (newExc (.type "StopIteration") [] >>= _) _ _ _
      refine wpAny_bind ?_
      simp only [newExc, newTuple]
      refine wpAny_bind (wpAny_newObj_type ?_ (by size_fits))
      refine wpAny_bind (m := firstArgMember _ _) (wpAny_of_eq (a := Value.none) (by first | rfl | (simp only [firstArgMember]; rfl)) ?_)
      refine wpAny_newObj_type ?_ (by size_fits)
      simp only [raiseNew]
      refine wpAny_bind (wpAny_bind (wpAny_handled ?_))
      first | rw [show A.in1.handled = none from hh] | rw [hh]
      refine wpAny_throw ?_
      refine wpAny_bind (wpAny_isInstance (T := "StopIteration") (b := true) ⟨_, Heap.get?_push_size _ rfl, rfl⟩ isSubtype_stop ?_)
      exact wpAny_pure (hP s₁ he _ fun b o hb => Heap.get?_push_of_some _ (Heap.get?_push_of_some _ hb))
    · exact wpAny_pure ⟨v, rfl, wpAny_pure (hY v s₁ _ he ⟨_, _, _, _, _, _, rfl⟩)⟩
/-! ### the statement -/
abbrev TGenL := L2.St → Hp → (List Addr → Hp → Prop) → Prop
structure PGenL (X : Cx) (k : Nat) (e : Expr) (tg : TGenL) : Prop where
  run : ∀ (pins : List (Addr × Obj)) (s : Shared) (σ : L2.St) (H : Hp) (cont : List Addr → Hp → Prop), Inv X pins σ H s → tg σ H cont → wpAny (model X.prog X.w) X.A (eval e X.env)
    (fun u s' => ∃ H1 sc, Inv X pins σ H1 sc ∧ MadeL X.prog X.w k X.stack H1 sc cont u s') X.xe s
/-- Pv: by the turn; the list at p stays -/
def tForG (tg : TGenL) (g : TG) (tb : TS) : TS := fun D σ H => tg σ H fun rs H1 => ∀ p, H1 p = some (.lst (rfs rs)) → ∃ Pv : Nat → L2.St → Hp → Prop, Pv 0 σ H1 ∧ (∀ i σ H, i ≤ rs.length → Pv i σ H → H p = some (.lst (rfs rs))) ∧
  (∀ i r σ H, rs[i]? = some r → Pv i σ H → g (.ref r) σ H fun σ2 H2 => tb { D with nx := Pv (i + 1), ct := Pv (i + 1), bk := D.nx } σ2 H2) ∧ ∀ σ H, Pv rs.length σ H → D.nx σ H
section
variable {X : Cx} {pins : List (Addr × Obj)} {σ : L2.St} {H : Hp} {s : Shared}
theorem inv_gens {s' : Shared} (I : Inv X pins σ H s) (hh : s'.heap = s.heap) (ho : s'.os = s.os) (hg : AllBare s'.gens) : Inv X pins σ H s' :=
  I.call' (ch := []) ho (by rw [hh]; exact Un.kept fun _ _ e => e) (by rw [hh]; exact I.hok) hg fun b z => by simp at z
theorem bare_of_quiet {e : End} (h : e.quiet = true) : e.genState.bare = true := End.bare_of_quiet h
/-- what the loop knows ahead of its i-th turn, i > 0 -/
def Turn1 (X : Cx) (pins : List (Addr × Obj)) (a it p : Addr) (g : Nat) (rs : List Addr) (Pv : Nat → L2.St → Hp → Prop) (i : Nat) (s : Shared) : Prop :=
  ∃ (σ : L2.St) (H : Hp) (gs : GenState) (oa oi : Obj), Inv X ((a, oa) :: (it, oi) :: pins) σ H s ∧ s.heap.IsGen a g ∧ s.gens[g]? = some gs ∧ Asleep (model X.prog X.w) X.A.in1 it p (itsOf rs) ((itsOf rs).size - i) gs ∧ s.heap.IsListIter it p i ∧ i ≤ rs.length ∧ Pv i σ H
theorem isList_of (I : Inv X pins σ H s) {p : Addr} {rs : List Addr} (hp : H p = some (.lst (rfs rs))) : s.heap.IsList p (itsOf rs) := by
  obtain ⟨its, rits, hpl, _⟩ := I.list (SqL.of hp)
  have e := vals_rfs rits
  subst e
  obtain ⟨o, n, ho, hc, hd, hdat⟩ := hpl
  exact ⟨o, ho, hc, n, hdat⟩
theorem wpAny_swap {D : Nat → Option GenState} {α : Type} {M : Model} {A : Around} {t : Sem α} {Q : α → Shared → Prop} {E : Value → Shared → Prop} {s : Shared} (o : Ok D s) (h : wpAny M A t Q E s) :
    wpAny M A t (fun a s' => ∃ s₂, s' = fix D s₂ ∧ Ok D s₂ ∧ Q a s₂) (fun e s' => ∃ s₂, s' = fix D s₂ ∧ Ok D s₂ ∧ E e s₂) (fix D s) := fun Γ p hΓ => wp_swap (D := D) M Γ t _ _ p _ o (h Γ p hΓ)
/-- what slept sleeps on -/
def Still (s s3 : Shared) : Prop := ∀ (g : Nat) (k : Resume → Sem PySem.Fin) (l : List Value) (c : Code) (q : Pos) (fs : List Frame) (cl : Bool), s.gens[g]? = some (GenState.suspended k l c q fs cl) → s3.gens[g]? = some (GenState.suspended k l c q fs cl)
/-- the body's run while the generator sleeps -/
theorem body_run {body : List Stmt} {tg : Expr} {g : TG} {tb : TS} {r : Addr} {D : Ends} (I : Inv X pins σ H s) (hg : PG X tg g) (hb : PSs X body tb) (hx : ∀ e s, ¬ X.xe e s) (h : g (.ref r) σ H fun σ2 H2 => tb D σ2 H2) :
    wpAny (model X.prog X.w) X.A (assign tg X.env (.ref r)) (fun _ s2 => wpAny (model X.prog X.w) X.A (execs body X.env) (fun f s3 => SP X pins D f s3 ∧ Still s s3) (fun _ _ => False) s2) (fun _ _ => False) s := by
  have Ia : Inv X pins σ H (asleep s) := inv_gens I rfl rfl (bare_asleep I.bare)
  have tr : ∀ {s₂ : Shared} {σ' : L2.St} {H' : Hp}, Inv X pins σ' H' s₂ → Inv X pins σ' H' (fix (sleepers s) s₂) := fun I' => inv_gens I' rfl rfl (bare_fix I.bare I'.bare)
  refine wpAny_mono (wpAny_asleep (hg.run _ _ σ H (.ref r) (.ref r) _ Ia rfl h)) (fun _ s2 h2 => ?_) fun e s' z => ?_
  · obtain ⟨s₂, rfl, ok, σ2, H2, I2, q2⟩ := h2
    refine wpAny_mono (wpAny_swap ok (hb.run _ _ σ2 H2 D I2 q2)) (fun f s3 h3 => ?_) fun e s' z => ?_
    · obtain ⟨s₃, rfl, ok3, sp⟩ := h3
      refine ⟨?_, fun g k l c q fs cl e => kept_at ok3 e⟩
      cases f with
      | next => obtain ⟨σ', H', I', q⟩ := sp; exact ⟨σ', H', tr I', q⟩
      | brk => obtain ⟨σ', H', I', q⟩ := sp; exact ⟨σ', H', tr I', q⟩
      | cont => obtain ⟨σ', H', I', q⟩ := sp; exact ⟨σ', H', tr I', q⟩
      | ret v => obtain ⟨x, σ', H', I', r, q⟩ := sp; exact ⟨x, σ', H', tr I', r, q⟩
    · obtain ⟨_, _, _, z⟩ := z
      exact hx _ _ z
  · obtain ⟨_, _, _, z⟩ := z
    exact hx _ _ z
theorem Phi.ends {M : Model} {A : Around} {it p : Addr} {its : Array Value} {r : Nat} {s₀ : Shared} {e : End} {s1 : Shared} (h : Phi M A it p its r s₀ e s1) : e.quiet = true ∧ (e = .ret (.ok (.ret .none)) ∨ ∃ v g' l k c q fs, e = .susp v g' l k c q fs) := by
  cases r with
  | zero => obtain ⟨rfl, _⟩ := h; exact ⟨rfl, .inl rfl⟩
  | succ r => obtain ⟨v, ⟨g, l, k, c, q, fs, rfl⟩, hq, _⟩ := h; exact ⟨hq, .inr ⟨_, _, _, _, _, _, _, rfl⟩⟩
theorem Inv.unpin {ps : List (Addr × Obj)} (I : Inv X (ps ++ pins) σ H s) : Inv X pins σ H s := I.pins_of fun p hp => I.pin p (List.mem_append_right _ (List.mem_append_right _ hp))
def LoopI (X : Cx) (pins : List (Addr × Obj)) (a : Addr) (g0 : Nat) (s1 : Shared) (g : TG) (tb : TS) (D : Ends) (n : Nat) (s' : Shared) : Prop :=
  (n = sizeLine + 1 ∧ s' = s1) ∨ ∃ (p it : Addr) (rs : List Addr) (Pv : Nat → L2.St → Hp → Prop) (i : Nat), n = rs.length - i ∧ Turn1 X pins a it p g0 rs Pv i s' ∧
      (it ≠ X.env.locals ∧ it ∉ X.fs ∧ (it ∈ X.ex ∨ X.s_0.heap.objs.size ≤ it) ∧ (∀ x c, X.env.cells.lookup x = some c → c ≠ it) ∧ (∀ p ∈ X.pn ++ pins, p.1 ≠ it) ∧ a ≠ it) ∧
      (∀ i σ H, i ≤ rs.length → Pv i σ H → H p = some (.lst (rfs rs))) ∧ (∀ i r σ H, rs[i]? = some r → Pv i σ H → g (.ref r) σ H fun σ2 H2 => tb { D with nx := Pv (i + 1), ct := Pv (i + 1), bk := D.nx } σ2 H2) ∧ ∀ σ H, Pv rs.length σ H → D.nx σ H
/-- for target in a generator's call: body -/
theorem ps_forG {k : Nat} {iter target : Expr} {body : List Stmt} {g : TG} {tb : TS} {tg : TGenL} {pos : Pos} (hx : ∀ e s, ¬ X.xe e s) (hh : X.A.handled = none) (hi : PGenL X k iter tg) (hr : Room (k + 1) X.A) (hg : PG X target g) (hb : PSs X body tb)
    (hs : ∀ x, foldedSetIterable iter X.env x = pure x := by intro _; rfl) : PS X (.For target iter body [] pos) (tForG tg g tb) := by
  refine ⟨fun pins s σ H D I h => ?_⟩
  refine wpAny_For (thn (hi.run pins s σ H _ I h) fun u s1 h1 => ?_) hs
  obtain ⟨H1, sc, I1, a, g0, c, rfl, ha1, ha2, hgen, hfr, os1, ba1, nl1, kp1, wake⟩ := h1
  refine wpAny_pyIter_gen hgen ?_
  refine codeAny_forLoop_any (LoopI X pins a g0 s1 g tb D) ?_ (sizeLine + 1) (.inl ⟨rfl, rfl⟩)
  rintro n s3 (⟨rfl, rfl⟩ | ⟨p, it, rs, Pv, i, rfl, ⟨σ3, H3, gs, oa, oi, I3, hgen3, hgs3, hsl3, hit3, hir, pv3⟩, ⟨f1, f2, f3, f4, f5, f6⟩, Pl, Pst, Pend⟩)
  · have hgl : g0 < s3.gens.size := (Array.getElem?_eq_some_iff.mp hfr).1
    refine wpAny_noRaise (wpAny_gsz (n := g0 + 1) hgl (next_gen1 (Φ := First X.prog X.w X.A.in1 X.stack H1 sc a g0 _) hh nl1 hr.depth hgen hfr
      (wake X.A.in1 (s3.setGen g0 .running) hr.in1 (I1.env0.in1).frames (fun _ _ e => e) os1 (allBare_setGen ba1 rfl)) (fun e s₁ he => ?_) (fun v s₁ e he hsu => ?_) fun s₁ he => ?_))
    · obtain ⟨_, _, _, _, _, ⟨_, _, _, _, _, _, rfl⟩, hq, _⟩ := he
      exact ⟨hq, .inr ⟨_, _, _, _, _, _, _, rfl⟩⟩
    · intro hsz
      obtain ⟨H', p, it, rs, r0, ⟨g', l, kk, cc, q, fs, ee⟩, hqt, os5, ba5, un5, hok5, nl5, gen5, hp, hit, hai, hyoung, hne, h0, hst, hsl, hQ⟩ := he
      obtain ⟨g'', l', k', c', q', fs', es⟩ := hsu
      have ev : v = .ref r0 := by
        rw [es] at ee
        cases ee
        rfl
      subst ev
      have fpI := I1.fpOk (H' := H') hyoung hit
      have fpA := I1.fpOk (H' := H') ha1 hai
      have I4 : Inv X pins σ H' (s₁.setGen g0 e.genState) := I1.call' (ch := []) os5 un5 hok5 (allBare_setGen ba5 (bare_of_quiet hqt)) fun b z => by simp at z
      obtain ⟨oa, nm, qn, hoa, hca, hda, hsa⟩ := id gen5
      obtain ⟨oi, hoi, hci, hdi⟩ := id hst.1
      have I5 : Inv X ((a, oa) :: (it, oi) :: pins) σ H' (s₁.setGen g0 e.genState) := I4.pins_of fun z hz => by
        rcases List.mem_cons.mp hz with rfl | hz
        · exact ⟨hoa, hai, fpA.2.1, fpA.2.2.1, fun v y => by rw [hda] at y; cases y⟩
        · rcases List.mem_cons.mp hz with rfl | hz
          · exact ⟨hoi, hit, fpI.2.1, fpI.2.2.1, fun v y => by rw [hdi] at y; cases y⟩
          · exact I4.pin z (List.mem_append_right _ hz)
      obtain ⟨Pv, P0, Pl, Pst, Pend⟩ := hQ p hp
      have hlen : 0 < (itsOf rs).size := by
        have := (List.getElem?_eq_some_iff.mp h0).1
        simpa using this
      have hsize : (itsOf rs).size = rs.length := by simp
      have hidx : (itsOf rs).size - ((itsOf rs).size - 1) = 1 := by omega
      obtain ⟨kS, lS, cS, qS, fS, eS, _⟩ := hsl (s₁.setGen g0 e.genState) (by rw [hidx]; exact hst)
      have hrl : rs.length ≤ sizeLine := by
        obtain ⟨z, _⟩ := I4.hok p _ hp
        simpa using z
      refine wpAny_noRaise (go_of (o := oa) hoa hca hda (by decide) ?_)
      refine wpAny_noRaise (wpAny_mono (body_run I5 hg hb hx (Pst 0 r0 σ H' h0 P0)) (fun _ s6 h6 => wpAny_noRaise (wpAny_mono h6 (fun f s7 h7 => ?_) fun _ _ z => z)) fun _ _ z => z)
      obtain ⟨sp, still⟩ := h7
      have hg7 : s7.gens[g0]? = some e.genState := by
        rw [eS]
        refine still g0 kS lS cS qS fS false ?_
        rw [setGen_at (by have : (s₁.setGen g0 e.genState).gens.size = s₁.gens.size := setGen_size _ _ _; omega), eS]
      have again : ∀ {σ7 : L2.St} {H7 : Hp}, Inv X ((a, oa) :: (it, oi) :: pins) σ7 H7 s7 → Pv 1 σ7 H7 → ∃ m, m < sizeLine + 1 ∧ LoopI X pins a g0 s3 g tb D m s7 := fun {σ7 H7} I7 n7 =>
        ⟨rs.length - 1, by omega, .inr ⟨p, it, rs, Pv, 1, rfl, ⟨σ7, H7, e.genState, oa, oi, I7, ⟨oa, nm, qn, (I7.pin (a, oa) (List.mem_append_right _ List.mem_cons_self)).1, hca, hda, hsa⟩, hg7, hsl,
          ⟨oi, (I7.pin (it, oi) (List.mem_append_right _ (List.mem_cons_of_mem _ List.mem_cons_self))).1, hci, hdi⟩, by omega, n7⟩, ⟨fpI.2.1, fpI.2.2.1, fpI.2.2.2.1, fpI.2.2.2.2.1, fpI.2.2.2.2.2, hne⟩, Pl, Pst, Pend⟩⟩
      cases f with
      | next => obtain ⟨σ7, H7, I7, n7⟩ := sp; exact again I7 n7
      | cont => obtain ⟨σ7, H7, I7, n7⟩ := sp; exact again I7 n7
      | brk => obtain ⟨σ7, H7, I7, q7⟩ := sp; exact ⟨σ7, H7, Inv.unpin (ps := [(a, oa), (it, oi)]) I7, q7⟩
      | ret v => obtain ⟨x7, σ7, H7, I7, r7, q7⟩ := sp; exact ⟨x7, σ7, H7, Inv.unpin (ps := [(a, oa), (it, oi)]) I7, r7, q7⟩
    · obtain ⟨_, _, _, _, _, ⟨_, _, _, _, _, _, z⟩, _⟩ := he
      cases z
  · have hgl : g0 < s3.gens.size := (Array.getElem?_eq_some_iff.mp hgs3).1
    have hsize : (itsOf rs).size = rs.length := by simp
    have hp3 := Pl i σ3 H3 hir pv3
    have hidx : (itsOf rs).size - ((itsOf rs).size - i) = i := by omega
    have hIL := isList_of I3 hp3
    obtain ⟨kS, lS, cS, qS, fS, eS, run3⟩ := hsl3 (s3.setGen g0 .running) (by rw [hidx]; exact ⟨hit3, hIL⟩)
    have hitn : H3 it = none := (I3.pin (it, oi) (List.mem_append_right _ (List.mem_cons_of_mem _ List.mem_cons_self))).2.1
    have hpa := I3.pin (a, oa) (List.mem_append_right _ List.mem_cons_self)
    have I3a : Inv X ((a, oa) :: pins) σ3 H3 s3 := I3.pins_of fun z hz => by
      rcases List.mem_cons.mp hz with rfl | hz
      · exact hpa
      · exact I3.pin z (List.mem_append_right _ (List.mem_cons_of_mem _ (List.mem_cons_of_mem _ hz)))
    have f5' : ∀ z ∈ X.pn ++ (a, oa) :: pins, z.1 ≠ it := fun z hz => by
      rcases List.mem_append.mp hz with hz | hz
      · exact f5 z (List.mem_append_left _ hz)
      · rcases List.mem_cons.mp hz with rfl | hz
        · exact f6
        · exact f5 z (List.mem_append_right _ hz)
    have turned : ∀ {s4 : Shared}, (∀ b o, b ≠ it → s3.heap.get? b = some o → s4.heap.get? b = some o) → s4.os = s3.os → AllBare s4.gens → Inv X ((a, oa) :: pins) σ3 H3 s4 := fun {s4} hk ho hb4 =>
      inv_gens (I3a.turned (h' := s4.heap) (t' := s4.toks) (it := it) hk hitn f1 f3 f4 f5') rfl ho hb4
    refine wpAny_noRaise (wpAny_gsz (n := g0 + 1) hgl (next_gen1 (Φ := Phi (model X.prog X.w) X.A.in1 it p (itsOf rs) ((itsOf rs).size - i) (s3.setGen g0 .running)) hh I3.nolimit hr.depth hgen3 hgs3
      (by rw [eS]; exact run3) (fun e s₁ he => Phi.ends he) (fun v s₁ e he hsu => ?_) fun s₁ he h' hk' => ?_))
    · intro hsz
      obtain ⟨r', hr'⟩ : ∃ r', (itsOf rs).size - i = r' + 1 := by
        cases q : (itsOf rs).size - i with
        | zero =>
          rw [q] at he
          obtain ⟨rfl, _⟩ := he
          obtain ⟨_, _, _, _, _, _, z⟩ := hsu
          cases z
        | succ r' => exact ⟨r', rfl⟩
      rw [hr'] at he
      obtain ⟨v', ⟨g', l, kk, cc, q, fs, ee⟩, hqt, hv, hst, ⟨h5, tk5, rfl, hk5⟩, hsl⟩ := he
      obtain ⟨g'', l', k', c', q', fs', es⟩ := hsu
      have ev : v = v' := by
        rw [es] at ee
        cases ee
        rfl
      subst ev
      have hi1 : (itsOf rs).size - (r' + 1) = i := by omega
      have hi2 : (itsOf rs).size - r' = i + 1 := by omega
      rw [hi1] at hv
      rw [hi2] at hst
      obtain ⟨r, er, rfl⟩ : ∃ r, rs[i]? = some r ∧ v = .ref r := by
        have hv : (rs.map Value.ref).toArray[i]? = some v := hv
        rw [List.getElem?_toArray, List.getElem?_map] at hv
        cases q : rs[i]? with
        | none => rw [q] at hv; cases hv
        | some r => rw [q] at hv; cases hv; exact ⟨r, rfl, rfl⟩
      have ba4 : AllBare (Shared.setGen { s3.setGen g0 .running with heap := h5, toks := tk5 } g0 e.genState).gens := allBare_setGen (s := { s3.setGen g0 .running with heap := h5, toks := tk5 }) (show AllBare (s3.setGen g0 .running).gens from allBare_setGen I3.bare rfl) (bare_of_quiet hqt)
      have I4 := turned (s4 := Shared.setGen { s3.setGen g0 .running with heap := h5, toks := tk5 } g0 e.genState) hk5 rfl ba4
      obtain ⟨_, nm, qn, hoa, hca, hda, hsa⟩ := id hgen3
      rw [hpa.1] at hoa
      cases hoa
      obtain ⟨oi2, hoi, hci, hdi⟩ := id hst.1
      have I5 : Inv X ((a, oa) :: (it, oi2) :: pins) σ3 H3 (Shared.setGen { s3.setGen g0 .running with heap := h5, toks := tk5 } g0 e.genState) := I4.pins_of fun z hz => by
        rcases List.mem_cons.mp hz with rfl | hz
        · exact I4.pin _ (List.mem_append_right _ List.mem_cons_self)
        · rcases List.mem_cons.mp hz with rfl | hz
          · exact ⟨hoi, hitn, f1, f2, fun v y => by rw [hdi] at y; cases y⟩
          · exact I4.pin z (List.mem_append_right _ (List.mem_cons_of_mem _ hz))
      obtain ⟨kS2, lS2, cS2, qS2, fS2, eS2, _⟩ := hsl (Shared.setGen { s3.setGen g0 .running with heap := h5, toks := tk5 } g0 e.genState) (by rw [hi2]; exact hst)
      have ha4 : (Shared.setGen { s3.setGen g0 .running with heap := h5, toks := tk5 } g0 e.genState).heap.get? a = some oa := (I5.pin (a, oa) (List.mem_append_right _ List.mem_cons_self)).1
      refine wpAny_noRaise (go_of (o := oa) ha4 hca hda (by decide) ?_)
      refine wpAny_noRaise (wpAny_mono (body_run I5 hg hb hx (Pst i r σ3 H3 er pv3)) (fun _ s6 h6 => wpAny_noRaise (wpAny_mono h6 (fun f s7 h7 => ?_) fun _ _ z => z)) fun _ _ z => z)
      obtain ⟨sp, still⟩ := h7
      have hg7 : s7.gens[g0]? = some e.genState := by
        rw [eS2]
        refine still g0 kS2 lS2 cS2 qS2 fS2 false ?_
        rw [setGen_at (by
          show g0 < (s3.setGen g0 .running).gens.size
          rw [setGen_size]
          exact hgl), eS2]
      have hrr : (itsOf rs).size - (i + 1) = r' := by omega
      have again : ∀ {σ7 : L2.St} {H7 : Hp}, Inv X ((a, oa) :: (it, oi2) :: pins) σ7 H7 s7 → Pv (i + 1) σ7 H7 → ∃ m, m < rs.length - i ∧ LoopI X pins a g0 s1 g tb D m s7 := fun {σ7 H7} I7 n7 =>
        ⟨rs.length - (i + 1), by omega, .inr ⟨p, it, rs, Pv, i + 1, rfl, ⟨σ7, H7, e.genState, oa, oi2, I7, ⟨oa, nm, qn, (I7.pin (a, oa) (List.mem_append_right _ List.mem_cons_self)).1, hca, hda, hsa⟩, hg7, by rw [hrr]; exact hsl,
          ⟨oi2, (I7.pin (it, oi2) (List.mem_append_right _ (List.mem_cons_of_mem _ List.mem_cons_self))).1, hci, hdi⟩, by omega, n7⟩, ⟨f1, f2, f3, f4, f5, f6⟩, Pl, Pst, Pend⟩⟩
      cases f with
      | next => obtain ⟨σ7, H7, I7, n7⟩ := sp; exact again I7 n7
      | cont => obtain ⟨σ7, H7, I7, n7⟩ := sp; exact again I7 n7
      | brk => obtain ⟨σ7, H7, I7, q7⟩ := sp; exact ⟨σ7, H7, Inv.unpin (ps := [(a, oa), (it, oi2)]) I7, q7⟩
      | ret v => obtain ⟨x7, σ7, H7, I7, r7, q7⟩ := sp; exact ⟨x7, σ7, H7, Inv.unpin (ps := [(a, oa), (it, oi2)]) I7, r7, q7⟩
    · intro hsz
      have hr0 : (itsOf rs).size - i = 0 := by
        cases q : (itsOf rs).size - i with
        | zero => rfl
        | succ r' =>
          rw [q] at he
          obtain ⟨_, ⟨_, _, _, _, _, _, z⟩, _⟩ := he
          cases z
      rw [hr0] at he
      obtain ⟨_, h5, tk5, rfl, hk5⟩ := he
      have hi : i = rs.length := by omega
      subst hi
      have ba4 : AllBare (Shared.setGen { s3.setGen g0 .running with heap := h5, toks := tk5 } g0 .finished).gens := allBare_setGen (s := { s3.setGen g0 .running with heap := h5, toks := tk5 }) (show AllBare (s3.setGen g0 .running).gens from allBare_setGen I3.bare rfl) rfl
      have I4 := turned (s4 := { Shared.setGen { s3.setGen g0 .running with heap := h5, toks := tk5 } g0 .finished with heap := h' }) (fun b o hb e => hk' b o (hk5 b o hb e)) rfl ba4
      exact wpAny_noRaise (wpAny_execs_nil ⟨σ3, H3, Inv.unpin (ps := [(a, oa)]) I4, Pend σ3 H3 pv3⟩)
end
end XG

/-! Network.ways. -/
namespace XG
open PySem PySem.Spec PyProof.Rows L2 GenW
/-- a generator method of an own class: its promise -/
def GMeth (P : Program) (w : World) (K : PySem.W.Frag) (mg : Str → Option Value) (base : Heap) (k : Nat) (f : Addr) (fd : FuncData) (ps : List Str) (sp : List V → Hp → (List Addr → Hp → Prop) → Prop) : Prop :=
  (∀ vs H Q, sp vs H Q → vs.length = ps.length) ∧ ∀ (A : Around) (outer : List Env) (s : Shared) (H : Hp) (args : Args) (us : List Value) (vs : List V) (Q : List Addr → Hp → Prop), Room k A → Env0 P w K mg base A outer s H → BindsTo s fd args (ps.zip us) → Vals vs us → sp vs H Q →
    codeAny (model P w) A (.call (.ref f) args) (fun r s' => match r with | .ok (.ret u) => MadeL P w k outer H s Q u s' | _ => False) s
section
variable {X : Cx} {k : Nat} {C f : Addr} {fd : FuncData} {ps : List Str} {sp : List V → Hp → (List Addr → Hp → Prop) → Prop} {m : Str} {o : Expr} {apos pos' : Pos} {ta : TE}
def tMethL (C : Addr) (m : Str) (sp : List V → Hp → (List Addr → Hp → Prop) → Prop) (ta : TE) : TGenL := fun σ H cont => ta σ H fun x H1 => ∃ a dx fs, x = .ref a ∧ H1 a = some (.ins C dx fs) ∧ fs.lookup m = none ∧ sp [.ref a] H1 cont
theorem pgenl_meth0 {pl : Sem Bool} (he : PE X o ta) (c : Cls X.K C) (hm : Meth X.K C m f) (F : GMeth X.prog X.w X.K X.mg X.base k f fd ps sp) (hr : Room k X.A) (hb : Binds X.K fd ps [])
    (ht : eval (.Call (.Attribute o m apos) [] [] pos') X.env = (do
      let ov ← eval o X.env
      standAt apos.atName
      let (f, first) ← holding [ov] (getMethod ov m pl)
      callWith pos' f first (backTo pos' (starEach [] X.env)) (backToKw pos' (keywordEach [] X.env))) := by rfl) :
    PGenL X k (.Call (.Attribute o m apos) [] [] pos') (tMethL C m sp ta) := by
  refine ⟨fun pins s σ H cont I h => ?_⟩
  refine PySem.W.methodCall_KW (pl := pl) (thn (he.run pins s σ H _ I h) fun u s1 ⟨x, H1, I1, rx, a, dx, fs, ex, ea, l, q⟩ => ?_) ht
  subst ex
  obtain rfl : u = Value.ref a := rx
  refine getmeth_ok I1 ea c hm l ?_
  refine PySem.W.callWith_K0 (first := [.ref a]) I1.kIn hm.kp ?_
  have hl : ([Value.ref a] ++ ([] : List Value)).length = ps.length := by rw [← F.1 _ _ _ q]; rfl
  refine wpAny_call (codeAny_mono (F.2 X.A X.stack s1 H1 ⟨[.ref a], []⟩ [.ref a] [.ref a] cont hr I1.env0 (hb s1 [.ref a] I1.kIn hl) (show Vals [V.ref a] [Value.ref a] from .cons rfl .nil) q) fun r s' hq => ?_)
  cases r with
  | error e => exact False.elim hq
  | ok fl =>
    cases fl with
    | ret u => exact ⟨H1, s1, I1, hq⟩
    | next => exact False.elim hq
    | brk => exact False.elim hq
    | cont => exact False.elim hq
end
end XG
namespace XW
open PySem L2 XL XSt XG
section
variable {P : Program} {w : World} {K : PySem.W.Frag} {mg : Str → Option Value} {base : Heap}
theorem scNWays : GScope ["self", "waiting", "found", "way", "place", "name", "tail", "head"] ["self"] (defScope sNWays) := ⟨rfl, rfl, rfl, by decide +kernel, rfl, by decide +kernel, by decide +kernel⟩
def spNWays (C : Addr) : List V → Hp → (List Addr → Hp → Prop) → Prop := fun vs H Q => ∃ (p : Addr) (s e : Str) (M : Lks) (rk : Str → Nat), vs = [.ref p] ∧ NetA C H p s e M ∧ Net M s e rk ∧
  ∀ rs H', Same H H' → A2 (WayAt H') rs (sortW (pf M e 9 s)) → Q rs H'
theorem ok_nways {f C : Addr} {fd : FuncData} (F : Fun K "ways" "Network.ways" sNWays f fd) (B : Bl mg) (T : NTx K mg C) : GMeth P w K mg base 1 f fd ["self"] (spNWays C) := by
  refine ⟨fun vs H Q h => ?_, fun A outer s H args us vs Q hr e0 hb r hsp => gen_made (N := ["self", "waiting", "found", "way", "place", "name", "tail", "head"]) (k := 0) (sp := spNWays C) F scNWays (fun vs H Q h => ?_) (pre := [(defBody sNWays).getD 0 (.Pass ⟨0, 0, 0, 0⟩), (defBody sNWays).getD 1 (.Pass ⟨0, 0, 0, 0⟩), (defBody sNWays).getD 2 (.Pass ⟨0, 0, 0, 0⟩)]) rfl (fun _ _ => rfl) (fun cdv A outer s H vs Q hr h => ?_) A outer s H args us vs Q hr e0 hb r hsp⟩
  · obtain ⟨p, s, e, M, rk, rfl, _⟩ := h
    rfl
  · obtain ⟨p, s, e, M, rk, rfl, _⟩ := h
    rfl
  · obtain ⟨p, s, e, M, rk, rfl, ⟨dx, d, kvs, ep, ed, tab⟩, net, k⟩ := h
    have nd := scNWays.nd
    refine ⟨_, _, pss_cons (ps_set (i := 1) nd rfl (.inl rfl) (pe_lst (pa_cons (pe_tup (pa_cons (pe_tup pa_nil) (pa_cons (pe_fld (pv 0) rfl) pa_nil))) pa_nil)))
      (pss_cons (ps_set (i := 2) nd rfl (.inl rfl) (pe_lst pa_nil))
      (pss_one (ps_while PassesOwn.never (pt_truth (pv 1) (by intro _; rfl))
        (pss_cons (ps_asg (pe_bm0 PySem.F.plainAttrs_list PySem.F.slot_list_pop PySem.F.type_list_pop mt_pop (pv 1)) (pg_tup rfl (pgs_cons (pg_name (i := 3) nd rfl (.inl rfl)) (pgs_cons (pg_name (i := 4) nd rfl (.inl rfl)) pgs_nil))))
        (C8.pss_cut (ps_if (pt_cmpR op_eq (pv 4) (pe_fld (pv 0) rfl) (nomark _)) (pss_one (ps_expr (pe_bm PySem.F.plainAttrs_list PySem.F.slot_list_append PySem.F.type_list_append mt_append (pv 2) (pa_cons (pv 3) pa_nil)))) pss_nil)
        (pss_one (ps_lock (ps_for PassesOwn.never rfl (pi_items (pe_fld (pv 0) rfl)) (pg_tup rfl (pgs_cons (pg_name (i := 5) nd rfl (.inl rfl)) (pgs_cons (pg_tup rfl (pgs_cons (pg_name (i := 6) nd rfl (.inl rfl)) (pgs_cons (pg_name (i := 7) nd rfl (.inl rfl)) pgs_nil))) pgs_nil)))
          (pss_one (ps_if (pt_cmpR op_eq (pv 6) (pv 4) (nomark _)) (pss_one (ps_expr (pe_bm PySem.F.plainAttrs_list PySem.F.slot_list_append PySem.F.type_list_append mt_append (pv 1) (pa_cons (pe_tup (pa_cons (pe_op op_catA (pv 3) (pe_tup (pa_cons (pv 5) pa_nil))) (pa_cons (pv 7) pa_nil))) pa_nil)))) pss_nil)))))))))),
      pe_callB (cr_sortT hr.units) (by rfl) B.sorted (by decide +kernel) (pa_cons (pv 2) pa_nil), ?_⟩
    have hkl : kvs.length = M.length := tab.len
    refine ⟨(by decide), fun z nz => ⟨_, rfl, p, C, dx, _, _, rfl, ?_, T.cl, T.nS, nf_src d s e, (by show 2 ≤ sizeLine; decide), fun r0 nr0 => ⟨(by show 1 ≤ sizeLine; decide), fun wt nwt => ⟨(by decide), fun fo nfo => ?_⟩⟩⟩⟩
    · exact same_upd nz _ _ ep
    generalize hH1 : upd (upd H z (.tup [])) r0 (.tup [.ref z, .str s]) = H1 at nwt nfo
    have s1 : Same H H1 := by rw [← hH1]; exact (same_upd nz).trans (same_upd nr0)
    have ra0 : RowAt H1 r0 ([], s) := by
      refine ⟨z, ?_, ?_⟩
      · rw [← hH1, upd_same]
      · rw [← hH1]
        exact same_upd nr0 _ _ upd_same
    have nw1 : H wt = none := none_of s1 nwt
    have s2 : Same H1 (upd H1 wt (.lst [.ref r0])) := same_upd nwt
    have e2w : (upd H1 wt (.lst [.ref r0])) wt = some (.lst (refs [r0])) := upd_same
    have nfw : wt ≠ fo := ne_of_none e2w nfo
    have nf1 : H fo = none := none_of (s1.trans s2) nfo
    have s3 := s2.trans (same_upd (o := .lst []) nfo)
    refine ⟨fun m σ H' => ∃ v3 v4 v5 v6 v7 ws fs found waiting, σ = [some (.ref p), some (.ref wt), some (.ref fo), v3, v4, v5, v6, v7] ∧ Same H H' ∧ H' wt = some (.lst (refs ws)) ∧ A2 (RowAt H') ws waiting ∧ H' fo = some (.lst (refs fs)) ∧ A2 (WayAt H') fs found ∧ Dfs M s e rk found waiting ∧ m = todo rk waiting,
      ⟨_, none, none, none, none, none, [r0], [], [], [([], s)], rfl, s1.trans s3, by rw [upd_ne nfw]; exact e2w, .cons (ra0.same s3) .nil, upd_same, .nil, dfs_start net, rfl⟩, fun m σ H' hW => ?_⟩
    obtain ⟨v3, v4, v5, v6, v7, ws, fs, found, waiting, rfl, s4, ew, tw, ef, tf, dfs, rfl⟩ := hW
    refine ⟨_, rfl, _, .inl ⟨_, SqL.of ew, rfl⟩, ?_⟩
    refine iteB (fun hw => ?_) (fun hw => ?_)
    · obtain ⟨wr, wl, rfl⟩ : ∃ wr wl, ws = wr ++ [wl] := by
        rcases List.eq_nil_or_concat ws with z | ⟨r, b, z⟩
        · subst z
          cases hw
        · exact ⟨r, b, by rw [z, List.concat_eq_append]⟩
      obtain ⟨rest, ⟨wy, pl⟩, rfl⟩ : ∃ rest r, waiting = rest ++ [r] := by
        rcases List.eq_nil_or_concat waiting with z | ⟨r, b, z⟩
        · subst z
          have := tw.len
          simp at this
        · exact ⟨r, b, by rw [z, List.concat_eq_append]⟩
      have hlr : wr.length = rest.length := by
        have := tw.len
        simpa using this
      have trest : A2 (RowAt H') wr rest := by
        have := tw.take wr.length
        rwa [List.take_left, hlr, List.take_left] at this
      have tlast : RowAt H' wl (wy, pl) := by
        obtain ⟨a, ea, ha⟩ := tw.get (i := rest.length) (b := (wy, pl)) (by simp)
        rw [← hlr] at ea
        simp at ea
        rw [← ea] at ha
        exact ha
      obtain ⟨wa, ewl, ewa⟩ := tlast
      refine ⟨fun σ' H'' => ∃ m', m' < todo rk (rest ++ [(wy, pl)]) ∧ (∃ v3 v4 v5 v6 v7 ws fs found waiting, σ' = [some (.ref p), some (.ref wt), some (.ref fo), v3, v4, v5, v6, v7] ∧ Same H H'' ∧ H'' wt = some (.lst (refs ws)) ∧ A2 (RowAt H'') ws waiting ∧ H'' fo = some (.lst (refs fs)) ∧ A2 (WayAt H'') fs found ∧ Dfs M s e rk found waiting ∧ m' = todo rk waiting), fun σ' H'' q => q, ?_⟩
      have el : (refs (wr ++ [wl]))[(refs (wr ++ [wl])).length - 1]? = some (.ref wl) := by
        unfold refs
        rw [List.map_append, List.length_append]
        simp
      have ed2 : (refs (wr ++ [wl])).dropLast = refs wr := by
        unfold refs
        rw [List.map_append]
        simp
      have nxt := dfs.next net
      have flen := dfs.flen
      rw [List.length_append, List.length_singleton] at flen
      refine ⟨_, rfl, .inl ⟨rfl, _, SqL.of ew⟩, wt, _, .ref wl, rfl, rfl, ew, el, ?_⟩
      rw [ed2]
      have s5 : Same H (upd H' wt (.lst (refs wr))) := fun y o ey => by
        rw [upd_ne (ne_of_none ey nw1)]
        exact s4 _ _ ey
      have ew5 : (upd H' wt (.lst (refs wr))) wt = some (.lst (refs wr)) := upd_same
      have ef5 : (upd H' wt (.lst (refs wr))) fo = some (.lst (refs fs)) := by rw [upd_ne nfw.symm]; exact ef
      have tr5 : A2 (RowAt (upd H' wt (.lst (refs wr)))) wr rest := trest.mono fun _ _ h => h.put ew
      have tf5 : A2 (WayAt (upd H' wt (.lst (refs wr)))) fs found := tf.mono fun _ _ h => upd_apart ew h
      have ewl5 := upd_apart (ys := refs wr) ew ewl
      have ewa5 : (upd H' wt (.lst (refs wr))) wa = some (.tup (stz wy)) := upd_apart (ys := refs wr) ew ewa
      generalize upd H' wt (.lst (refs wr)) = H5 at s5 ew5 ef5 tr5 tf5 ewl5 ewa5
      refine ⟨wl, _, rfl, SqT.of ewl5, rfl, _, _, rfl, _, _, rfl, rfl, ?_⟩
      -- at the end?
      refine ⟨fun σ H' => ∃ fs', σ = [some (.ref p), some (.ref wt), some (.ref fo), some (.ref wa), some (.str pl), v5, v6, v7] ∧ Same H H' ∧ H' wt = some (.lst (refs wr)) ∧ A2 (RowAt H') wr rest ∧ H' fo = some (.lst (refs fs')) ∧ A2 (WayAt H') fs' (found ++ if pl = e then [wy] else []) ∧ H' wa = some (.tup (stz wy)), ?_, ?_⟩
      · refine ⟨_, rfl, _, rfl, p, C, dx, _, _, rfl, s5 _ _ ep, T.cl, T.nT, nf_tgt d s e, rfl, _, rfl, ?_⟩
        refine iteB (fun h1 => ?_) (fun h1 => ?_)
        · have h1 : pl = e := by
            have : V.str pl = V.str e := of_decide_eq_true h1
            injection this
          refine ⟨_, rfl, .inl ⟨rfl, _, SqL.of ef5⟩, _, rfl, fo, _, _, rfl, rfl, ef5, ?_, ?_⟩
          · rw [refs_len, tf5.len]
            exact Nat.lt_of_le_of_lt (m := 10000000) (by omega) (by decide)
          · refine ⟨fs ++ [wa], rfl, (fun y o ey => ?_), ?_, tr5.mono fun _ _ h => h.put ef5, ?_, ?_, upd_apart ef5 ewa5⟩
            · rw [upd_ne (ne_of_none ey nf1)]
              exact s5 _ _ ey
            · rw [upd_ne nfw]
              exact ew5
            · rw [upd_same]
              unfold refs
              rw [List.map_append]
              rfl
            · rw [if_pos h1]
              exact A2.snoc (tf5.mono fun _ _ h => upd_apart ef5 h) (upd_apart ef5 ewa5)
        · have h1 : pl ≠ e := fun z => by
            subst z
            simp at h1
          refine ⟨fs, rfl, s5, ew5, tr5, ef5, ?_, ewa5⟩
          rw [if_neg h1, List.append_nil]
          exact tf5
      rintro σ H6 ⟨fs', rfl, s6, ew6, tr6, ef6, tf6, ewa6⟩
      have ed6 := s6 _ _ ed
      have ep6 := s6 _ _ ep
      have hdw : d ≠ wt := ne_of ed6 ew6 (fun z => nomatch z)
      have hdf : d ≠ fo := ne_of ed6 ef6 (fun z => nomatch z)
      have hpd : p ≠ d := ne_of ep6 ed6 (fun z => nomatch z)
      have tab6 : A2 (PairAt (upd H6 d (.frz (default : Obj) (.dK kvs)))) kvs M := tab.mono fun _ _ h => (h.same s6).lock ed6
      refine ⟨d, .dK kvs, ed6, True.intro, fun od => ?_⟩
      have t6 : A2 (PairAt (upd H6 d (.frz od (.dK kvs)))) kvs M := tab.mono fun _ _ h => (h.same s6).lock ed6
      have e6l : ∀ (b : Addr) (o : HO), b ≠ d → H6 b = some o → (upd H6 d (.frz od (.dK kvs))) b = some o := fun b o hb e => by rw [upd_ne hb]; exact e
      have tupl : ∀ (b : Addr) (xs : List V), H6 b = some (.tup xs) → (upd H6 d (.frz od (.dK kvs))) b = some (.tup xs) := fun b xs e => e6l b _ (ne_of e ed6 (fun z => nomatch z)) e
      refine ⟨_, rfl, p, C, dx, _, _, rfl, e6l _ _ hpd ep6, T.cl, T.nB, nf_tab d s e, d, od, kvs, rfl, upd_same, ?_⟩
      refine for_it walk_items (fun i σ H' => ∃ v5 v6 v7 ws', σ = [some (.ref p), some (.ref wt), some (.ref fo), some (.ref wa), some (.str pl), v5, v6, v7] ∧ Sx wt (upd H6 d (.frz od (.dK kvs))) H' ∧ H' wt = some (.lst (refs ws')) ∧ A2 (RowAt H') ws' (rest ++ outs (M.take i) (wy, pl)))
        ⟨v5, v6, v7, wr, rfl, fun _ _ _ e => e, e6l _ _ hdw.symm ew6, ?_⟩ (fun i σ H' _ ⟨_, _, _, _, _, s7, _⟩ => s7 _ _ hdw upd_same) ?_ ?_
      · have : outs (M.take 0) (wy, pl) = [] := by simp [outs]
        rw [this, List.append_nil]
        exact tr6.mono fun _ _ ⟨a, h1, h2⟩ => ⟨a, tupl _ _ h1, tupl _ _ h2⟩
      · rintro i x σ H7 H8 hi ⟨v5, v6, v7, ws', rfl, s7, e7w, t7⟩ y
        obtain ⟨Tp, n, t, h, r, rfl, nT, rfl, em, er⟩ := ypair t6 hi y
        have hrw : r ≠ wt := ne_of er (e6l _ _ hdw.symm ew6) (fun z => nomatch z)
        have s78 := same_upd (o := .tup [V.str n, V.ref r]) nT
        have s8 : Sx wt (upd H6 d (.frz od (.dK kvs))) (upd H7 Tp (.tup [V.str n, V.ref r])) := s7.trans (Sx.of s78)
        have e8w := s78 _ _ e7w
        have t8 : A2 (RowAt (upd H7 Tp (.tup [V.str n, V.ref r]))) ws' (rest ++ outs (M.take i) (wy, pl)) := t7.mono fun _ _ h => h.same s78
        have hwa : wa ≠ wt := ne_of ewa6 ew6 (fun z => nomatch z)
        have e8a := s8 _ _ hwa (tupl _ _ ewa6)
        have hsz := dfs.more net i
        refine ⟨Tp, _, rfl, SqT.of upd_same, rfl, _, _, rfl, _, _, rfl, ⟨r, _, rfl, SqT.of (s8 _ _ hrw er), rfl, _, _, rfl, _, _, rfl, rfl, rfl, ?_⟩⟩
        refine ⟨_, rfl, _, rfl, rfl, _, rfl, ?_⟩
        have eN : outs (M.take (i + 1)) (wy, pl) = outs (M.take i) (wy, pl) ++ if t = pl then [(wy ++ [n], h)] else [] := by
          rw [inner_get em, outs_app, outs_one]
        generalize upd H7 Tp (.tup [V.str n, V.ref r]) = H8 at s8 e8w t8 e8a
        refine iteB (fun h1 => ?_) (fun h1 => ?_)
        · have h1 : t = pl := by
            have : V.str t = V.str pl := of_decide_eq_true h1
            injection this
          rw [if_pos h1] at eN
          have hwl : wy.length < 1000 := by
            have h1 := (dfs.pth (wy, pl) (by simp)).rank net.ranked
            have h2 := net.low pl
            dsimp only at h1
            omega
          have fin : ∀ (z : Addr) (H9 : Hp), Same H8 H9 → H9 z = some (.tup (stz (wy ++ [n]))) → ∀ q, H9 q = none → ∃ v5 v6 v7 ws2, [some (.ref p), some (.ref wt), some (.ref fo), some (.ref wa), some (.str pl), some (V.str n), some (V.str t), some (V.str h)] = [some (.ref p), some (.ref wt), some (.ref fo), some (.ref wa), some (.str pl), v5, v6, v7] ∧ Sx wt (upd H6 d (.frz od (.dK kvs))) (upd (upd H9 q (.tup [.ref z, .str h])) wt (.lst (refs ws' ++ [.ref q]))) ∧ (upd (upd H9 q (.tup [.ref z, .str h])) wt (.lst (refs ws' ++ [.ref q]))) wt = some (.lst (refs ws2)) ∧ A2 (RowAt (upd (upd H9 q (.tup [.ref z, .str h])) wt (.lst (refs ws' ++ [.ref q])))) ws2 (rest ++ outs (M.take (i + 1)) (wy, pl)) := by
            intro z H9 s9 ez q nq
            have s10 := s9.trans (same_upd (o := .tup [.ref z, .str h]) nq)
            have ew10 := s10 _ _ e8w
            refine ⟨_, _, _, ws' ++ [q], rfl, (s8.trans (Sx.of s10)).fld _, ?_, ?_⟩
            · rw [upd_same]
              unfold refs
              rw [List.map_append]
              rfl
            · rw [eN, ← List.append_assoc]
              refine A2.snoc (t8.mono fun r x hx => (hx.same s10).put ew10) ?_
              exact RowAt.put ew10 ⟨z, upd_same, same_upd nq _ _ ez⟩
          refine ⟨_, rfl, .inl ⟨rfl, _, SqL.of e8w⟩, _, rfl, _, rfl, ⟨(by show 1 ≤ sizeLine; decide), fun y ny => ?_⟩⟩
          have s9 := same_upd (o := .tup [.str n]) ny
          refine ⟨wa, y, stz wy, [.str n], rfl, rfl, SqT.of (s9 _ _ e8a), SqT.of upd_same, ?_, fun hz => ?_, fun _ hz => (by cases hz), fun hz _ q nq => ?_⟩
          · rw [stz_len]
            exact Nat.le_trans (m := 1000) (by simp; omega) (by decide)
          · refine ⟨_, rfl, (by show 2 ≤ sizeLine; decide), fun q nq => ⟨wt, _, _, rfl, rfl, (s9.trans (same_upd nq)) _ _ e8w, ?_, ?_⟩⟩
            · rw [refs_len, t8.len]
              exact Nat.lt_of_le_of_lt hsz (by decide)
            · refine fin y _ s9 ?_ q nq
              have : wy = [] := by
                cases wy with
                | nil => rfl
                | cons _ _ => cases hz
              rw [this]
              exact upd_same
          · refine ⟨_, rfl, (by show 2 ≤ sizeLine; decide), fun q2 nq2 => ⟨wt, _, _, rfl, rfl, (s9.trans ((same_upd nq).trans (same_upd nq2))) _ _ e8w, ?_, ?_⟩⟩
            · rw [refs_len, t8.len]
              exact Nat.lt_of_le_of_lt hsz (by decide)
            · refine fin q _ (s9.trans (same_upd nq)) ?_ q2 nq2
              rw [upd_same]
              unfold stz
              rw [List.map_append]
              rfl
        · have h1 : t ≠ pl := fun z => by
            subst z
            simp at h1
          rw [if_neg h1, List.append_nil] at eN
          exact ⟨_, _, _, ws', rfl, s8, e8w, by rw [eN]; exact t8⟩
      · rintro σ H7 ⟨v5, v6, v7, ws', rfl, s7, e7w, t7⟩
        rw [hkl, List.take_length] at t7
        have e7d := s7 _ _ hdw upd_same
        have back : ∀ (b : Addr) (xs : List V), H7 b = some (.tup xs) → (upd H7 d (.dK kvs)) b = some (.tup xs) := fun b xs e => by rw [upd_ne (ne_of e e7d (fun z => nomatch z))]; exact e
        refine ⟨e7d, _, ?_, _, _, _, _, _, ws', fs', found ++ (if pl = e then [wy] else []), rest ++ outs M (wy, pl), rfl, ?_, ?_, t7.mono fun _ _ ⟨a, h1, h2⟩ => ⟨a, back _ _ h1, back _ _ h2⟩, ?_, ?_, nxt, rfl⟩
        · exact Dfs.less net rest (wy, pl)
        · intro b o eb
          by_cases z : b = d
          · subst z
            rw [ed] at eb
            rw [upd_same]
            exact eb
          · rw [upd_ne z]
            exact s7 _ _ (ne_of_none eb nw1) (e6l _ _ z (s6 _ _ eb))
        · rw [upd_ne hdw.symm]
          exact e7w
        · rw [upd_ne hdf.symm]
          exact s7 _ _ nfw.symm (e6l _ _ hdf.symm ef6)
        · exact tf6.mono fun r w h => back _ _ (s7 _ _ (ne_of h ew6 (fun z => nomatch z)) (tupl _ _ h))
    · have hw : waiting = [] := by
        have := tw.len
        cases ws with
        | nil => exact List.length_eq_zero_iff.mp (by simpa using this.symm)
        | cons _ _ => cases hw
      subst hw
      have hl := dfs.last
      refine ⟨_, rfl, fo, fs, found, rfl, ef, tf, (fun w hw => pf_ne net w (hl.mem_iff.mp hw)), ?_, fun q rs' nq h' => ?_⟩
      · rw [hl.length_eq]
        exact Nat.le_trans (pf_len net) (by decide)
      have hs : sortW found = sortW (pf M e 9 s) := sortW_eq hl
      have hne : rs' ≠ [] := fun z => by
        have h1 := h'.len
        rw [z, (sortW_perm found).length_eq, hl.length_eq] at h1
        exact pf_some net (List.length_eq_zero_iff.mp h1.symm)
      obtain ⟨r1, rr, rfl⟩ : ∃ r1 rr, rs' = r1 :: rr := by
        cases rs' with
        | nil => exact absurd rfl hne
        | cons a b => exact ⟨a, b, rfl⟩
      refine ⟨q, r1 :: rr, r1, rfl, upd_same, rfl, k _ _ (s4.trans (same_upd nq)) ?_⟩
      rw [← hs]
      exact h'.mono fun _ _ h => same_upd nq _ _ h
end
end XW

/-! The witness. -/
namespace XW
open PySem L2 XL XSt XG
/-- the class of ratios with its defs -/
structure RatX (K : PySem.W.Frag) (mg : Str → Option Value) (C : Addr) : Prop where
  T : RTx K mg C
  asr : DfE K mg "as_ratio" sAsRatio ["value"]
  sign : PrpD K C "sign" "Ratio.sign" sRSign
  below : ∃ f fd, Fun K "below" "Ratio.below" sRBelow f fd ∧ Binds K fd ["self", "value"] [] ∧ Meth K C "below" f
  add : ∃ f fd, Fun K "__add__" "Ratio.__add__" sRAdd f fd ∧ Binds K fd ["self", "other"] [] ∧ PySem.W.selfFirst K C = true ∧ PySem.W.findIn K (.ref C) "__add__" = some (some (.ref f)) ∧ PySem.W.isFn K (.ref f) = true
  eq : ∃ f fd, Fun K "__eq__" "Ratio.__eq__" sREq f fd ∧ Binds K fd ["self", "other"] [] ∧ PySem.W.findIn K (.ref C) "__ne__" = some (some (.builtin "object.__ne__")) ∧ PySem.W.subIn K (.ref C) (.type "object") = some true ∧ PySem.W.findIn K (.ref C) "__eq__" = some (some (.ref f)) ∧ PySem.W.isFn K (.ref f) = true
  init : ∃ f fd one, FunD K "__init__" "Ratio.__init__" (defArgs sRInit) (defBody sRInit) (defScope sRInit) [.int 1] [] f fd ∧ Mk K C f ∧ Binds K fd ["self", "top", "bottom"] [] ∧ Binds K fd ["self", "top", "bottom"] [one] ∧ Vals [.int 1] [one]
  div : DfE K mg "common_divisor" sDivisor ["first", "second"]
section
variable {P : Program} {w : World} {K : PySem.W.Frag} {mg : Str → Option Value} {base : Heap}
/-! ### check_loads -/
theorem scChkL : FnScope ["network", "loads", "name"] ["network", "loads"] (defScope sCheckLoads) := ⟨rfl, rfl, rfl, by decide +kernel, rfl, by decide +kernel, by decide +kernel⟩
def spChkL (CN CR : Addr) : Sp := fun vs H Q _ => ∃ (p d : Addr) (s e : Str) (M : Lks) (f : Str → Int) (ks : List Str), vs = [.ref p, .ref d] ∧ NetA CN H p s e M ∧ RatD CR H d f ks ∧ (∀ l ∈ M, l.1 ∈ ks) ∧ ∀ H', Same H H' → Q .non H'
theorem ok_chkl {f CN CR : Addr} {fd : FuncData} (F : Fun K "check_loads" "check_loads" sCheckLoads f fd) (B : Bl mg) (N : NetX K mg CN) : FnOk P w K mg base CX0 3 f fd ["network", "loads"] (spChkL CN CR) := by
  obtain ⟨gN, fN, fdN, FN, bN, PN⟩ := N.names
  have GN : FnOk P w K mg base CX0 1 fN fdN ["self"] (spNNames CN) := ok_nnames FN B N.T
  refine F.ok scChkL (fun vs H Q E h => ?_) (fun cdv A outer s H vs Q E hr h => ?_)
  · obtain ⟨p, d, s, e, M, g, ks, rfl, _⟩ := h
    rfl
  · obtain ⟨p, d, s, e, M, g, ks, rfl, netA, ⟨kvs, ed, tk⟩, hks, k⟩ := h
    have nd := scChkL.nd
    have hu := hu_of hr
    obtain ⟨dx, dd, kk, ep, edd, tab⟩ := id netA
    refine ⟨_, pss_one (ps_for PassesOwn.never rfl (pi_tup (pe_prop (pv 0) N.T.cl PN GN hr bN .nil pass0 rfl)) (pg_name (i := 2) nd rfl (.inl rfl)) (pss_one (ps_if (pt_cmp (pc_dnotin hu (pv 2) (pv 1))) (pss_one ps_never) pss_nil))), ?_⟩
    refine ⟨_, rfl, p, dx, _, rfl, ep, p, s, e, M, rfl, netA, fun q H2 s2 nq eq => ?_⟩
    refine ⟨q, rfl, ⟨_, SqT.of eq⟩, for_tup (K := K) (a := q) (xs := stz (M.map (·.1))) (fun i σ H' => ∃ v, σ = [some (.ref p), some (.ref d), v] ∧ H' = H2) ⟨none, rfl, rfl⟩ (fun i σ H' _ ⟨_, _, z⟩ => by rw [z]; exact SqT.of eq) ?_ ?_⟩
    · rintro i r σ H3 hr' ⟨v, rfl, rfl⟩
      have hi : i < M.length := by
        have := (List.getElem?_eq_some_iff.mp hr').1
        rwa [stz_len, List.length_map] at this
      obtain ⟨l, em⟩ := XL.get_some hi
      have en : (M.map (·.1))[i]? = some l.1 := by rw [List.getElem?_map, em]; rfl
      rw [stz_get en] at hr'
      cases hr'
      obtain ⟨r, er, _⟩ := ratKv_at tk (hks l (List.mem_of_getElem? em))
      exact ⟨_, rfl, _, rfl, d, some (.ref r), rfl, .inl ⟨_, Sum.inr l.1, .inl (s2 _ _ ed), rfl, er.symm⟩, _, rfl, iteF ⟨_, rfl, rfl⟩⟩
    · rintro σ H3 ⟨v, rfl, rfl⟩
      exact k _ s2
/-! ### bears -/
theorem scBears : FnScope ["way", "before", "after", "name", "load"] ["way", "before", "after"] (defScope sBears) := ⟨rfl, rfl, rfl, by decide +kernel, rfl, by decide +kernel, by decide +kernel⟩
/-- a way bears the loads before -/
def bearsB (b a : Str → Int) (wy : List Str) : Bool := wy.all fun n => decide (0 < a n) && decide (b n ≤ a n)
def spBears (CR : Addr) : Sp := fun vs H Q _ => ∃ (x d1 d2 : Addr) (wy : List Str) (b a : Str → Int) (k1 k2 : List Str), vs = [.ref x, .ref d1, .ref d2] ∧ WayAt H x wy ∧ RatD CR H d1 b k1 ∧ RatD CR H d2 a k2 ∧ (∀ n ∈ wy, n ∈ k1 ∧ n ∈ k2) ∧ ∀ H', Same H H' → Q (.bl (bearsB b a wy)) H'
theorem ok_bears {f CR : Addr} {fd : FuncData} (F : Fun K "bears" "bears" sBears f fd) (B : Bl mg) (R : RatX K mg CR) : FnOk P w K mg base CX0 3 f fd ["way", "before", "after"] (spBears CR) := by
  have T := R.T
  obtain ⟨fA, fdA, DA⟩ := R.asr
  obtain ⟨gS, fS, fdS, FS, bS, PS⟩ := R.sign
  obtain ⟨fB, fdB, FB, bB, MB⟩ := R.below
  have GA : FnOk P w K mg base CX0 1 fA fdA ["value"] (spAsRatio CR) := ok_asratio DA.F T B.isinstance
  have GS : FnOk P w K mg base CX0 1 fS fdS ["self"] (spRSign CR) := ok_rsign FS T
  have GB : FnOk P w K mg base CX0 2 fB fdB ["self", "value"] (spRBelow CR) := ok_rbelow FB T DA B.isinstance
  refine F.ok scBears (fun vs H Q E h => ?_) (fun cdv A outer s H vs Q E hr h => ?_)
  · obtain ⟨x, d1, d2, wy, b, a, k1, k2, rfl, _⟩ := h
    rfl
  · obtain ⟨x, d1, d2, wy, b, a, k1, k2, rfl, ew, ⟨kv1, e1, t1⟩, ⟨kv2, e2, t2⟩, hks, k⟩ := h
    have nd := scBears.nd
    have hu := hu_of hr
    refine ⟨_, pss_cons (ps_for PassesOwn.never rfl (pi_tup (pv 0)) (pg_name (i := 3) nd rfl (.inl rfl))
        (pss_cons (ps_set (i := 4) nd rfl (.inl rfl) (pe_call GA (hr.mono (by decide)) (by rfl) DA.g DA.F.kp DA.b .nil pass0 (pa_cons (pe_dget hu (pv 2) (pv 3) (fun _ _ => rfl)) pa_nil)))
        (pss_one (ps_if (PW.pt (pw_or (pt_cmpR op_le (pe_prop (pv 4) T.cl PS GS hr bS .nil pass0 rfl) pe_int (nomark _)) (pw_or1 (pt_truth (pe_meth (pv 4) T.cl MB GB hr bB .nil pass0 (pa_cons (pe_dget hu (pv 1) (pv 3) (fun _ _ => rfl)) pa_nil)) (by intro _; rfl)))))
          (pss_one (ps_ret pe_bl)) pss_nil))))
      (pss_one (ps_ret pe_bl)), ?_⟩
    refine ⟨_, rfl, x, rfl, ⟨_, SqT.of ew⟩, for_tup (K := K) (a := x) (xs := stz wy) (fun i σ H' => ∃ v3 v4, σ = [some (.ref x), some (.ref d1), some (.ref d2), v3, v4] ∧ H' = H ∧ ∀ n ∈ wy.take i, 0 < a n ∧ b n ≤ a n)
      ⟨none, none, rfl, rfl, fun n h => by simp at h⟩ (fun i σ H' _ ⟨_, _, _, z, _⟩ => by rw [z]; exact SqT.of ew) ?_ ?_⟩
    · rintro i r σ H1 hr' ⟨v3, v4, rfl, rfl, hgood⟩
      have hi : i < wy.length := by rw [← stz_len (rs := wy)]; exact (List.getElem?_eq_some_iff.mp hr').1
      obtain ⟨n, en⟩ := XL.get_some hi
      rw [stz_get en] at hr'
      cases hr'
      have hn := List.mem_of_getElem? en
      obtain ⟨r2, er2, ra2⟩ := ratKv_at t2 (hks n hn).2
      obtain ⟨r1, er1, ra1⟩ := ratKv_at t1 (hks n hn).1
      have bad : ¬ (0 < a n ∧ b n ≤ a n) → Q (.bl false) H1 := fun z => by
        have : bearsB b a wy = false := by
          unfold bearsB
          rw [List.all_eq_false]
          exact ⟨n, hn, by simpa using z⟩
        rw [← this]
        exact k H1 fun _ _ e => e
      refine ⟨_, rfl, _, rfl, d2, _, rfl, .inl ⟨kv2, Sum.inr n, .inl e2, rfl, er2.symm⟩, r2, _, rfl, ra2, ?_⟩
      obtain ⟨dx2, eR2⟩ := id ra2
      refine ⟨_, rfl, r2, dx2, _, rfl, eR2, r2, a n, rfl, ra2, _, _, rfl, rfl, _, rfl, ?_⟩
      refine iteB (fun h1 => ?_) (fun h1 => ?_)
      · refine bad fun z => ?_
        have h1 : (if a n = 0 then (0 : Int) else if 0 < a n then 1 else -1) ≤ 0 := of_decide_eq_true h1
        rw [if_neg (by omega), if_pos z.1] at h1
        omega
      · have h1 : ¬ (if a n = 0 then (0 : Int) else if 0 < a n then 1 else -1) ≤ 0 := of_decide_eq_false h1
        have hpos : 0 < a n := by
          by_cases z : a n = 0
          · rw [if_pos z] at h1
            omega
          · rw [if_neg z] at h1
            by_cases y : 0 < a n
            · exact y
            · rw [if_neg y] at h1
              omega
        refine ⟨_, rfl, r2, dx2, _, rfl, eR2, rf_no _ (by decide +kernel) (by decide +kernel), _, rfl, _, rfl, d1, _, rfl, .inl ⟨kv1, Sum.inr n, .inl e1, rfl, er1.symm⟩, r2, r1, a n, b n, rfl, ra2, ra1, _, rfl, ?_⟩
        refine iteB (fun h2 => ?_) (fun h2 => ?_)
        · have h2 : a n < b n := of_decide_eq_true h2
          exact bad fun z => by omega
        · have h2 : ¬ a n < b n := of_decide_eq_false h2
          refine ⟨_, _, rfl, rfl, fun m hm => ?_⟩
          rw [inner_get en] at hm
          rcases List.mem_append.mp hm with hm | hm
          · exact hgood m hm
          · rw [List.mem_singleton.mp hm]
            exact ⟨hpos, by omega⟩
    · rintro σ H1 ⟨v3, v4, rfl, rfl, hgood⟩
      rw [stz_len, List.take_length] at hgood
      have : bearsB b a wy = true := by
        unfold bearsB
        rw [List.all_eq_true]
        exact fun n hn => by simpa using hgood n hn
      rw [← this]
      exact k H1 fun _ _ e => e
/-! ### witness -/
theorem scWit : FnScope ["network", "before", "after", "way"] ["network", "before", "after"] (defScope sWitness) := ⟨rfl, rfl, rfl, by decide +kernel, rfl, by decide +kernel, by decide +kernel⟩
/-- the first that bears -/
def firstB (b a : Str → Int) (ws : List (List Str)) : Option (List Str) := ws.find? (bearsB b a)
def spWit (CN CR : Addr) : Sp := fun vs H Q _ => ∃ (p d1 d2 : Addr) (s e : Str) (M : Lks) (rk : Str → Nat) (b a : Str → Int) (k1 k2 : List Str) (wy : List Str), vs = [.ref p, .ref d1, .ref d2] ∧ NetA CN H p s e M ∧ Net M s e rk ∧ RatD CR H d1 b k1 ∧ RatD CR H d2 a k2 ∧
  (∀ l ∈ M, l.1 ∈ k1) ∧ (∀ l ∈ M, l.1 ∈ k2) ∧ firstB b a (sortW (pf M e 9 s)) = some wy ∧ ∀ x H', Same H H' → WayAt H' x wy → Q (.ref x) H'
theorem path_names {L : Lks} {p q : Str} {w : List Str} (a : Path L p w q) : ∀ n ∈ w, ∃ l ∈ L, l.1 = n := by
  induction a with
  | nil => intro n h; cases h
  | cons h _ ih =>
    intro n hn
    rcases List.mem_cons.mp hn with rfl | hn
    · exact ⟨_, h, rfl⟩
    · exact ih n hn
theorem ok_wit {f fC fB fW CN CR : Addr} {fd fdC fdB fdW : FuncData} (F : Fun K "witness" "witness" sWitness f fd) (B : Bl mg) (N : NetX K mg CN) (R : RatX K mg CR) (DC : Df K mg "check_loads" sCheckLoads ["network", "loads"] fC fdC) (DB : Df K mg "bears" sBears ["way", "before", "after"] fB fdB)
    (FW : Fun K "ways" "Network.ways" sNWays fW fdW) (bW : Binds K fdW ["self"] []) (MW : Meth K CN "ways" fW) : FnOk P w K mg base CX0 4 f fd ["network", "before", "after"] (spWit CN CR) := by
  have GC : FnOk P w K mg base CX0 3 fC fdC ["network", "loads"] (spChkL CN CR) := ok_chkl DC.F B N
  have GB : FnOk P w K mg base CX0 3 fB fdB ["way", "before", "after"] (spBears CR) := ok_bears DB.F B R
  have GW : GMeth P w K mg base 1 fW fdW ["self"] (spNWays CN) := ok_nways FW B N.T
  refine F.ok scWit (fun vs H Q E h => ?_) (fun cdv A outer s H vs Q E hr h => ?_)
  · obtain ⟨p, d1, d2, s, e, M, rk, b, a, k1, k2, wy, rfl, _⟩ := h
    rfl
  · obtain ⟨p, d1, d2, s, e, M, rk, b, a, k1, k2, wy, rfl, netA, net, r1, r2, h1, h2, hf, k⟩ := h
    have nd := scWit.nd
    refine ⟨_, pss_cons (ps_expr (pe_call GC hr (by rfl) DC.g DC.F.kp DC.b .nil pass0 (pa_cons (pv 0) (pa_cons (pv 1) pa_nil))))
      (pss_cons (ps_expr (pe_call GC hr (by rfl) DC.g DC.F.kp DC.b .nil pass0 (pa_cons (pv 0) (pa_cons (pv 2) pa_nil))))
      (pss_cons (ps_forG (k := 1) (fun _ _ z => z) hr.hd (pgenl_meth0 (pv 0) N.T.cl MW GW (hr.mono (by decide)) bW) (hr.mono (by decide)) (pg_name (i := 3) nd rfl (.inl rfl))
        (pss_one (ps_if (pt_truth (pe_call GB hr (by rfl) DB.g DB.F.kp DB.b .nil pass0 (pa_cons (pv 3) (pa_cons (pv 1) (pa_cons (pv 2) pa_nil)))) (by intro _; rfl)) (pss_one (ps_ret (pv 3))) pss_nil)))
      (pss_one ps_never))), ?_⟩
    refine ⟨_, rfl, _, rfl, p, d1, s, e, M, b, k1, rfl, netA, r1, h1, fun H1 s1 => ?_⟩
    refine ⟨_, rfl, _, rfl, p, d2, s, e, M, a, k2, rfl, netA.same s1, r2.same s1, h2, fun H2 s2 => ?_⟩
    have s02 := s1.trans s2
    obtain ⟨dx, d, kvs, ep, ed, tab⟩ := netA.same s02
    have hno : (nf d s e).lookup ("ways" : Str) = none := by
      unfold nf
      rw [lookup_putF, if_neg (by decide +kernel), lookup_putF, if_neg (by decide +kernel), lookup_putF, if_neg (by decide +kernel)]
      rfl
    generalize hws : sortW (pf M e 9 s) = ws at hf
    have hmem : ∀ v ∈ ws, Path M s v e := fun v hv => by
      rw [← hws] at hv
      exact pf_path 9 s v ((sortW_perm _).mem_iff.mp hv)
    refine ⟨_, rfl, p, dx, _, rfl, ep, hno, p, s, e, M, rk, rfl, ⟨dx, d, kvs, ep, ed, tab⟩, net, fun rs H3 s3 tw q eq => ?_⟩
    rw [hws] at tw
    have s03 := s02.trans s3
    have hrl : rs.length = ws.length := tw.len
    refine ⟨fun i σ H' => ∃ v3, σ = [some (.ref p), some (.ref d1), some (.ref d2), v3] ∧ Same H3 H' ∧ ∀ v ∈ ws.take i, bearsB b a v = false, ⟨none, rfl, (fun _ _ z => z), fun v hv => by simp at hv⟩, (fun i σ H' _ ⟨_, _, s4, _⟩ => s4 _ _ eq), ?_, ?_⟩
    · rintro i r σ H4 er ⟨v3, rfl, s4, hno4⟩
      obtain ⟨v, ev, hv⟩ := tw.getL er
      have s04 := s03.trans s4
      have hvm := List.mem_of_getElem? ev
      have hpn := path_names (hmem v hvm)
      refine ⟨_, rfl, _, rfl, _, rfl, r, d1, d2, v, b, a, k1, k2, rfl, s4 _ _ hv, r1.same s04, r2.same s04, fun n hn => ?_, fun H5 s5 => ⟨_, rfl, ?_⟩⟩
      · obtain ⟨l, hl, rfl⟩ := hpn n hn
        exact ⟨h1 l hl, h2 l hl⟩
      · refine iteB (fun hb => ?_) (fun hb => ?_)
        · have hw : v = wy := by
            obtain ⟨_, as, bs, e1, e2⟩ := List.find?_eq_some_iff_append.mp hf
            have hi : i = as.length := by
              rcases Nat.lt_trichotomy i as.length with z | z | z
              · exfalso
                have : v ∈ as := by
                  rw [e1, List.getElem?_append_left z] at ev
                  exact List.mem_of_getElem? ev
                have := e2 v this
                rw [hb] at this
                cases this
              · exact z
              · exfalso
                have : wy ∈ ws.take i := by
                  rw [e1, List.take_append]
                  refine List.mem_append_right _ ?_
                  obtain ⟨j, hj⟩ : ∃ j, i - as.length = j + 1 := ⟨i - as.length - 1, by omega⟩
                  rw [hj]
                  exact List.mem_cons_self
                have h3 := hno4 wy this
                have h4 := List.find?_some hf
                rw [h3] at h4
                cases h4
            rw [e1, hi, List.getElem?_append_right (Nat.le_refl _), Nat.sub_self] at ev
            exact (Option.some.inj ev).symm
          refine ⟨_, rfl, k r H5 (s04.trans s5) ?_⟩
          rw [← hw]
          exact s5 _ _ (s4 _ _ hv)
        · refine ⟨_, rfl, s4.trans s5, fun u hu => ?_⟩
          rw [inner_get ev] at hu
          rcases List.mem_append.mp hu with hu | hu
          · exact hno4 u hu
          · rw [List.mem_singleton.mp hu]
            exact hb
    · rintro σ H4 ⟨v3, rfl, s4, hno4⟩
      exfalso
      rw [hrl, List.take_length] at hno4
      have h3 := hno4 wy (List.mem_of_find?_eq_some hf)
      have h4 := List.find?_some hf
      rw [h3] at h4
      cases h4
end
end XW

/-! The load of a cut. -/
namespace XW
open PySem L2 XL XSt XG
section
variable {P : Program} {w : World} {K : PySem.W.Frag} {mg : Str → Option Value} {base : Heap}
theorem scCut : FnScope ["network", "loads", "places", "place", "total", "name", "tail", "head"] ["network", "loads", "places"] (defScope sCutLoad) := ⟨rfl, rfl, rfl, by decide +kernel, rfl, by decide +kernel, by decide +kernel⟩
/-- what crosses -/
def crossI (f : Str → Int) (S : List Str) (T : Lks) : Int := sumI (T.map fun l => if l.2.1 ∈ S ∧ l.2.2 ∉ S then f l.1 else 0)
def spCut (CN CR : Addr) : Sp := fun vs H Q _ => ∃ (p d c : Addr) (s e : Str) (M : Lks) (f : Str → Int) (ks : List Str) (S : List Str), vs = [.ref p, .ref d, .ref c] ∧ NetA CN H p s e M ∧ M.length ≤ 10 ∧ (M.map (·.1)).Nodup ∧ RatD CR H d f ks ∧ (∀ l ∈ M, l.1 ∈ ks) ∧ H c = some (.lst (stz S)) ∧
  (∀ x ∈ S, x = s ∨ x = e ∨ ∃ l ∈ M, x = l.2.1 ∨ x = l.2.2) ∧ (∀ l ∈ M, l.2.2 ∈ S → l.2.1 ∈ S) ∧ ∀ r H', Same H H' → RatAt CR H' r (R3 (crossI f S M)) → Q (.ref r) H'
theorem ok_cut {f fC CN CR : Addr} {fd fdC : FuncData} (F : Fun K "cut_load" "cut_load" sCutLoad f fd) (B : Bl mg) (N : NetX K mg CN) (R : RatX K mg CR) (DC : Df K mg "check_loads" sCheckLoads ["network", "loads"] fC fdC) : FnOk P w K mg base CX0 6 f fd ["network", "loads", "places"] (spCut CN CR) := by
  have T := R.T
  have GC : FnOk P w K mg base CX0 3 fC fdC ["network", "loads"] (spChkL CN CR) := ok_chkl DC.F B N
  obtain ⟨gN, fN, fdN, FN, bN, PN⟩ := N.names
  have GN : FnOk P w K mg base CX0 1 fN fdN ["self"] (spNNames CN) := ok_nnames FN B N.T
  obtain ⟨gP, fP, fdP, FP, bP, PP⟩ := N.places
  have GP : FnOk P w K mg base CX0 1 fP fdP ["self"] (spPlaces CN) := ok_places FP B N.T
  obtain ⟨fG, fdG, FG, bG, aG, nG, iG⟩ := N.get
  have GG : FnOk P w K mg base CX0 1 fG fdG ["self", "name"] (spNGet CN) := ok_nget FG N.T
  obtain ⟨fA, fdA, DA⟩ := R.asr
  obtain ⟨fD, fdD, DD⟩ := R.div
  obtain ⟨fI, fdI, one, FI, MI, bI0, bI1, vI⟩ := R.init
  have GI : FnOk P w K mg base CX0 2 fI fdI ["self", "top", "bottom"] (spRInit CR) := ok_rinit FI T DD B.abs
  obtain ⟨fP', fdP', FP', bP', sP, aP, iP⟩ := R.add
  have GA : FnOk P w K mg base CX0 4 fP' fdP' ["self", "other"] (spRAdd CR) := ok_radd FP' T DA B.isinstance MI GI bI0
  refine F.ok scCut (fun vs H Q E h => ?_) (fun cdv A outer s H vs Q E hr h => ?_)
  · obtain ⟨p, d, c, s, e, M, g, ks, S, rfl, _⟩ := h
    rfl
  · obtain ⟨p, d, c, s, e, M, g, ks, S, rfl, netA, hM, ndM, ⟨kvs, ed, tk⟩, hks, ec, hS, hcl, k⟩ := h
    have nd := scCut.nd
    have hu := hu_of hr
    refine ⟨_, pss_cons (ps_for PassesOwn.never rfl (pi_list (pv 2)) (pg_name (i := 3) nd rfl (.inl rfl)) (pss_one (ps_if (pt_cmpR op_notIn_seq (pv 3) (pe_prop (pv 0) N.T.cl PP GP (hr.mono (by decide)) bP .nil pass0 rfl) (by rfl)) (pss_one ps_never) pss_nil)))
      (pss_cons (ps_expr (pe_call GC (hr.mono (by decide)) (by rfl) DC.g DC.F.kp DC.b .nil pass0 (pa_cons (pv 0) (pa_cons (pv 1) pa_nil))))
      (pss_cons (ps_set (i := 4) nd rfl (.inl rfl) (pe_make MI GI (hr.mono (by decide)) (by rfl) T.mgC bI1 vI pass0 (pa_cons pe_int pa_nil)))
      (pss_cons (ps_for PassesOwn.never rfl (pi_tup (pe_prop (pv 0) N.T.cl PN GN (hr.mono (by decide)) bN .nil pass0 rfl)) (pg_name (i := 5) nd rfl (.inl rfl))
        (pss_cons (ps_asg (pe_ownix (E := E) (GG.raw bG .nil) (hr.mono (by decide)) (fun _ _ _ _ _ _ _ h => h.elim) aG nG iG (pv 0) (pv 5) (fun _ _ => rfl)) (pg_tup rfl (pgs_cons (pg_name (i := 6) nd rfl (.inl rfl)) (pgs_cons (pg_name (i := 7) nd rfl (.inl rfl)) pgs_nil))))
        (C8.pss_cut (ps_if (PW.pt (pw_and (pt_cmpR op_in_seq (pv 6) (pv 2) (by rfl)) (pw_and1 (pt_cmpR op_notIn_seq (pv 7) (pv 2) (by rfl)))))
            (pss_one (ps_set (i := 4) nd rfl (.inl rfl) (pe_op (op_own (E := E) (GA.raw bP' .nil) (hr.mono (by decide)) pass0 sP aP iP) (pv 4) (pe_dget hu (pv 1) (pv 5) (fun _ _ => rfl))))) pss_nil)
        (pss_one (ps_if (PW.pt (pw_and (pt_cmpR op_in_seq (pv 7) (pv 2) (by rfl)) (pw_and1 (pt_cmpR op_notIn_seq (pv 6) (pv 2) (by rfl))))) (pss_one ps_never) pss_nil)))))
      (pss_one (ps_ret (pv 4)))))), ?_⟩
    obtain ⟨dx, dd, kk, ep, edd, tab⟩ := id netA
    have step : ∀ {i : Nat} {l : Str × Str × Str}, M[i]? = some l → crossI g S (M.take (i + 1)) = crossI g S (M.take i) + if l.2.1 ∈ S ∧ l.2.2 ∉ S then g l.1 else 0 := fun {i l} em => by
      unfold crossI
      rw [inner_get em, List.map_append, sumI_append]
      simp [sumI]
    -- the places are the network's
    refine ⟨_, rfl, c, rfl, ⟨_, SqL.of ec⟩, for_list (K := K) (a := c) (xs := stz S) (fun i σ H' => ∃ v, σ = [some (.ref p), some (.ref d), some (.ref c), v, none, none, none, none] ∧ Same H H') ⟨none, rfl, fun _ _ z => z⟩ (fun i σ H' _ ⟨_, _, s1⟩ => SqL.of (s1 _ _ ec)) ?_ ?_⟩
    · rintro i r σ H1 hr' ⟨v, rfl, s1⟩
      have hi : i < S.length := by rw [← stz_len (rs := S)]; exact (List.getElem?_eq_some_iff.mp hr').1
      obtain ⟨x, ex⟩ := XL.get_some hi
      rw [stz_get ex] at hr'
      cases hr'
      refine ⟨_, rfl, _, rfl, p, dx, _, rfl, s1 _ _ ep, p, s, e, M, rfl, netA.same s1, hM, fun q H2 ps s2 nq eq inn => ?_⟩
      refine ⟨q, _, rfl, .inr (SqT.of eq), rfl, flat_stz _, _, rfl, iteKF ?_ ⟨_, rfl, s1.trans s2⟩⟩
      show (!inV (.str x) (stz (s :: ps ++ [e]))) = false
      rw [in_stz, decide_eq_true]
      · rfl
      · by_cases z1 : x = s
        · rw [z1]; simp
        · by_cases z2 : x = e
          · rw [z2]; simp
          · rcases hS x (List.mem_of_getElem? ex) with q | q | q
            · exact absurd q z1
            · exact absurd q z2
            · have := (inn.mem x).mpr ⟨z1, z2, q⟩
              simp [this]
    rintro σ H1 ⟨v3, rfl, s1⟩
    -- the loads are there
    refine ⟨_, rfl, _, rfl, p, d, s, e, M, g, ks, rfl, netA.same s1, RatD.same (H := H) ⟨kvs, ed, tk⟩ s1, hks, fun H2 s2 => ?_⟩
    have s02 := s1.trans s2
    -- nothing yet
    refine fun r0 dr nr0 ndr ner => ⟨r0, dr, 0, 1, rfl, upd_same, by decide, by decide, fun H3 s3' e3' => ⟨rfl, ?_⟩⟩
    obtain ⟨s3, ra3⟩ := rat_facts nr0 ndr s3' e3'
    rw [R3_zero_is] at ra3
    have s03 := s02.trans s3
    refine ⟨_, rfl, p, dx, _, rfl, s03 _ _ ep, p, s, e, M, rfl, netA.same s03, fun q H4 s4 nq eq => ?_⟩
    have s04 := s03.trans s4
    have nmsl : (stz (M.map (·.1))).length = M.length := by rw [stz_len, List.length_map]
    refine ⟨q, rfl, ⟨_, SqT.of eq⟩, for_tup (K := K) (a := q) (xs := stz (M.map (·.1))) (fun i σ H' => ∃ v5 v6 v7 r4, σ = [some (.ref p), some (.ref d), some (.ref c), v3, some (.ref r4), v5, v6, v7] ∧ Same H4 H' ∧ RatAt CR H' r4 (R3 (crossI g S (M.take i))))
      ⟨none, none, none, r0, rfl, (fun _ _ z => z), ra3.same s4⟩ (fun i σ H' _ ⟨_, _, _, _, _, s5, _⟩ => SqT.of (s5 _ _ eq)) ?_ ?_⟩
    · rintro i r σ H5 hr' ⟨v5, v6, v7, r4, rfl, s5, ra5⟩
      have hi : i < M.length := by rw [← nmsl]; exact (List.getElem?_eq_some_iff.mp hr').1
      obtain ⟨⟨n, t, h⟩, em⟩ := XL.get_some hi
      have en : (M.map (·.1))[i]? = some n := by rw [List.getElem?_map, em]; rfl
      rw [stz_get en] at hr'
      cases hr'
      have hm := List.mem_of_getElem? em
      have s05 := s04.trans s5
      have eN := step em
      dsimp only at eN
      obtain ⟨rb, erb, rab⟩ := ratKv_at tk (hks _ hm)
      refine ⟨_, rfl, _, rfl, p, dx, _, rfl, s05 _ _ ep, p, s, e, M, (n, t, h), rfl, netA.same s05, ndM, hm, fun r er => ?_⟩
      refine ⟨r, _, rfl, SqT.of er, rfl, _, _, rfl, _, _, rfl, rfl, ?_⟩
      have ec5 := s05 _ _ ec
      refine ⟨fun σ H' => ∃ r4, σ = [some (.ref p), some (.ref d), some (.ref c), v3, some (.ref r4), some (.str n), some (.str t), some (.str h)] ∧ Same H4 H' ∧ RatAt CR H' r4 (R3 (crossI g S (M.take (i + 1)))), ?_, ?_⟩
      · refine ⟨_, rfl, _, rfl, c, _, rfl, .inl (SqL.of ec5), rfl, flat_stz _, _, rfl, ?_⟩
        refine iteB (fun h1 => ?_) (fun h1 => ?_)
        · have h1 : t ∈ S := of_decide_eq_true (by rw [← in_stz]; exact h1)
          refine ⟨_, rfl, _, rfl, c, _, rfl, .inl (SqL.of ec5), rfl, flat_stz _, _, rfl, ?_⟩
          refine iteB (fun h2 => ?_) (fun h2 => ?_)
          · have h2 : h ∉ S := fun z => by
              have q : (!inV (.str h) (stz S)) = true := h2
              rw [in_stz, decide_eq_true z] at q
              cases q
            rw [if_pos ⟨h1, h2⟩] at eN
            obtain ⟨da, ea⟩ := id ra5
            obtain ⟨db, eb⟩ := rab.same s05
            refine ⟨_, rfl, _, rfl, _, rfl, d, _, rfl, .inl ⟨kvs, Sum.inr n, .inl (s05 _ _ ed), rfl, erb.symm⟩, r4, rb, da, db, _, _, rfl, rfl, ea, eb, r4, rb, _, _, rfl, ra5, rab.same s05, fun x H6 s6 nx rx => ?_⟩
            refine ⟨x, rfl, s5.trans s6, ?_⟩
            rw [eN]
            exact rx
          · have h2 : h ∈ S := by
              have q : (!inV (.str h) (stz S)) = false := h2
              rw [in_stz] at q
              exact of_decide_eq_true (by simpa using q)
            rw [if_neg (fun z => z.2 h2), Int.add_zero] at eN
            exact ⟨r4, rfl, s5, by rw [eN]; exact ra5⟩
        · have h1 : t ∉ S := fun z => by
            have q : inV (.str t) (stz S) = false := h1
            rw [in_stz, decide_eq_true z] at q
            cases q
          rw [if_neg (fun z => h1 z.1), Int.add_zero] at eN
          exact iteF ⟨r4, rfl, s5, by rw [eN]; exact ra5⟩
      · rintro σ H6 ⟨r6, rfl, s6, ra6⟩
        have ec6 := s6 _ _ (s04 _ _ ec)
        refine ⟨_, rfl, _, rfl, c, _, rfl, .inl (SqL.of ec6), rfl, flat_stz _, _, rfl, ?_⟩
        refine iteB (fun h1 => ?_) (fun h1 => ?_)
        · have h1 : h ∈ S := of_decide_eq_true (by rw [← in_stz]; exact h1)
          refine ⟨_, rfl, _, rfl, c, _, rfl, .inl (SqL.of ec6), rfl, flat_stz _, _, rfl, iteKF ?_ ⟨_, _, _, r6, rfl, s6, ra6⟩⟩
          show (!inV (.str t) (stz S)) = false
          rw [in_stz, decide_eq_true (hcl _ hm h1)]
          rfl
        · exact iteF ⟨_, _, _, r6, rfl, s6, ra6⟩
    · rintro σ H5 ⟨v5, v6, v7, r4, rfl, s5, ra5⟩
      rw [nmsl, List.take_length] at ra5
      exact ⟨_, rfl, k r4 H5 (s04.trans s5) ra5⟩
end
end XW

/-! What the law's numbers are, without the program. -/
namespace XW
open PySem L2 XL XSt XG
theorem extra_apart : ∀ x ∈ nameWords, x ∉ extraWords := by decide +kernel
theorem okN_place {x : Str} (h : x ∈ placeWords) : okN x = true := ok_words x (List.mem_append_left _ (List.mem_append_left _ h))
theorem okN_name {x : Str} (h : x ∈ nameWords) : okN x = true := ok_words x (List.mem_append_left _ (List.mem_append_right _ h))
theorem okN_extra {x : Str} (h : x ∈ extraWords) : okN x = true := ok_words x (List.mem_append_right _ h)
theorem leads_ends {M : Lks} {a b : Str} (h : Leads M a b) : (∃ l ∈ M, l.2.1 = a) ∧ ∃ l ∈ M, l.2.2 = b := by
  obtain ⟨w, hw, pw⟩ := h
  refine ⟨?_, ?_⟩
  · obtain ⟨m, h, hm⟩ := pw.first hw
    exact ⟨_, hm, rfl⟩
  · rcases pw.snoc_inv with ⟨z, _⟩ | ⟨v, n, t, _, _, hl⟩
    · exact absurd z hw
    · exact ⟨_, hl, rfl⟩
theorem drawn_ok {M X : Lks} {s e : Str} (D : Drawn M s e) (x : Xok M X) : ∃ rk, Cut M s e ∧ NetOk M s e rk ∧ NetOk (M ++ X) s e rk := by
  obtain ⟨rk, net, cut⟩ := D.net
  have hxn : ∀ l ∈ X, l.1 ∈ extraWords := fun l hl => by
    have : l.1 ∈ X.map (·.1) := List.mem_map.mpr ⟨l, hl, rfl⟩
    rw [x.nm] at this
    exact List.mem_of_mem_take this
  have hxp : ∀ l ∈ X, l.2.1 ∈ placeWords ∧ l.2.2 ∈ placeWords := fun l hl => by
    obtain ⟨⟨l1, m1, e1⟩, l2, m2, e2⟩ := leads_ends (x.lead l hl)
    rw [← e1, ← e2]
    exact ⟨(D.nm l1 m1).2.1, (D.nm l2 m2).2.2⟩
  have ndU : ((M ++ X).map (·.1)).Nodup := by
    rw [List.map_append]
    refine List.nodup_append.mpr ⟨net.nd, ?_, fun a ha b hb z => ?_⟩
    · rw [x.nm]
      exact extra_nd.sublist (List.take_sublist _ _)
    · obtain ⟨l, hl, rfl⟩ := List.mem_map.mp ha
      obtain ⟨l2, hl2, rfl⟩ := List.mem_map.mp hb
      have := extra_apart _ (D.nm l hl).1
      rw [z] at this
      exact this (hxn l2 hl2)
  have netU : Net (M ++ X) s e rk := net.more (by rw [List.length_append]; exact x.len) ndU x.lead
  refine ⟨rk, cut, ⟨net, ⟨fun l hl => ?_, okN_place D.hs, okN_place D.he, net.nd, net.se⟩, fun l hl => (D.nm l hl).2, D.hs, D.he⟩, ⟨netU, ⟨fun l hl => ?_, okN_place D.hs, okN_place D.he, ndU, net.se⟩, fun l hl => ?_, D.hs, D.he⟩⟩
  · have := D.nm l hl
    exact ⟨okN_name this.1, okN_place this.2.1, okN_place this.2.2⟩
  · rcases List.mem_append.mp hl with hl | hl
    · have := D.nm l hl
      exact ⟨okN_name this.1, okN_place this.2.1, okN_place this.2.2⟩
    · exact ⟨okN_extra (hxn l hl), okN_place (hxp l hl).1, okN_place (hxp l hl).2⟩
  · rcases List.mem_append.mp hl with hl | hl
    · exact (D.nm l hl).2
    · exact hxp l hl
theorem sum_zip : ∀ {ws : List (List Str)} {A : List Int}, A.length = ws.length → sumI ((ws.zip A).map (·.2)) = A.sum
  | [], A, h => by
    have : A = [] := List.length_eq_zero_iff.mp (by simpa using h)
    subst this
    rfl
  | w :: ws, [], h => by simp at h
  | w :: ws, a :: A, h => by
    rw [List.zip_cons_cons, List.map_cons, sumI_cons, sum_zip (by simpa using h), List.sum_cons]
theorem zip_mem {ws : List (List Str)} {A : List Int} {x : List Str × Int} (h : x ∈ ws.zip A) : x.1 ∈ ws ∧ x.2 ∈ A := by
  obtain ⟨a, b⟩ := x
  exact ⟨(List.of_mem_zip h).1, (List.of_mem_zip h).2⟩
theorem sortW_paths {M : Lks} {s e : Str} : ∀ w ∈ sortW (pf M e 9 s), Path M s w e := fun w hw => pf_path 9 s w ((sortW_perm _).mem_iff.mp hw)
theorem sortW_len (ws : List (List Str)) : (sortW ws).length = ws.length := (sortW_perm ws).length_eq
/-- the first way that is due is the witness, in whatever order the table stands -/
theorem due_head {M X : Lks} {s e : Str} {rk : Str → Nat} (net : Net M s e rk) (cut : Cut M s e) (netU : Net (M ++ X) s e rk) (hx : ∀ x ∈ X, Leads M x.2.1 x.2.2) {A B : List Int} (hA : A.length = (sortW (pf (M ++ X) e 9 s)).length) (hB : B.length = (sortW (pf M e 9 s)).length)
    (a0 : ∀ x ∈ A, 0 ≤ x) (b0 : ∀ x ∈ B, 0 ≤ x) (hpos : 1 ≤ B.sum) (hle : A.sum ≤ B.sum) :
    ∃ wy rest, (sortW (pf M e 9 s)).filter (bearsB (wload ((sortW (pf (M ++ X) e 9 s)).zip A)) (wload ((sortW (pf M e 9 s)).zip B))) = wy :: rest ∧
      ∀ T : Lks, T.Perm M → firstB (wload ((sortW (pf (M ++ X) e 9 s)).zip A)) (wload ((sortW (pf M e 9 s)).zip B)) (sortW (pf T e 9 s)) = some wy := by
  obtain ⟨w, pw, hw⟩ := witness_is net cut netU hx ((sortW (pf (M ++ X) e 9 s)).zip A) ((sortW (pf M e 9 s)).zip B) (fun x h => sortW_paths _ (zip_mem h).1) (fun x h => sortW_paths _ (zip_mem h).1)
    (fun x h => a0 _ (zip_mem h).2) (fun x h => b0 _ (zip_mem h).2) (by rw [sum_zip hB]; omega) (by rw [sum_zip hA, sum_zip hB]; exact hle)
  have hwm : w ∈ sortW (pf M e 9 s) := (sortW_perm _).mem_iff.mpr ((pf_is net w).mpr pw)
  have hb : bearsB (wload ((sortW (pf (M ++ X) e 9 s)).zip A)) (wload ((sortW (pf M e 9 s)).zip B)) w = true := by
    unfold bearsB
    rw [List.all_eq_true]
    exact fun n hn => by simpa using hw n hn
  have hf : w ∈ (sortW (pf M e 9 s)).filter (bearsB (wload ((sortW (pf (M ++ X) e 9 s)).zip A)) (wload ((sortW (pf M e 9 s)).zip B))) := List.mem_filter.mpr ⟨hwm, hb⟩
  generalize hq : (sortW (pf M e 9 s)).filter (bearsB (wload ((sortW (pf (M ++ X) e 9 s)).zip A)) (wload ((sortW (pf M e 9 s)).zip B))) = due at hf
  cases due with
  | nil => cases hf
  | cons wy rest =>
    refine ⟨wy, rest, rfl, fun T hT => ?_⟩
    rw [sortW_eq (pf_perm hT 9 s)]
    unfold firstB
    rw [← List.head?_filter, hq]
    rfl
theorem sumI_perm {α : Type} {f : α → Int} {l m : List α} (h : l.Perm m) : sumI (l.map f) = sumI (m.map f) := by
  induction h with
  | nil => rfl
  | cons x _ ih => rw [List.map_cons, List.map_cons, sumI_cons, sumI_cons, ih]
  | swap x y l => simp only [List.map_cons, sumI_cons]; omega
  | trans _ _ a b => exact a.trans b
/-- every cut of the opened net bears all that goes along its ways -/
theorem cut_is {M X U : Lks} {s e p : Str} {rk : Str → Nat} (net : Net M s e rk) (netU : Net (M ++ X) s e rk) (hx : ∀ x ∈ X, Leads M x.2.1 x.2.2) (hU : U.Perm (M ++ X)) {A : List Int} (hA : A.length = (sortW (pf (M ++ X) e 9 s)).length) {S : List Str}
    (hS : ∀ q, q ∈ S ↔ q = s ∨ q = p ∨ Leads M q p) (hpe : p ≠ e) :
    crossI (wload ((sortW (pf (M ++ X) e 9 s)).zip A)) S U = A.sum ∧ ∀ l ∈ U, l.2.2 ∈ S → l.2.1 ∈ S := by
  obtain ⟨h1, h2, h3⟩ := spots_closed net (S := fun q => decide (q ∈ S)) (fun q => by rw [decide_eq_true_eq]; exact hS q) hpe
  have h4 := h3.more hx
  refine ⟨?_, fun l hl h => ?_⟩
  · have := cut_total netU.nd netU.ranked h4 h1 h2 ((sortW (pf (M ++ X) e 9 s)).zip A) (fun x h => sortW_paths _ (zip_mem h).1)
    rw [sum_zip hA] at this
    rw [← this]
    unfold crossI
    rw [sumI_perm hU]
    congr 1
    refine List.map_congr_left fun l _ => ?_
    unfold cross
    by_cases z1 : l.2.1 ∈ S <;> by_cases z2 : l.2.2 ∈ S <;> simp [z1, z2]
  · have := h4 l (hU.mem_iff.mp hl) (by simpa using h)
    simpa using this
/-- the last amount raised -/
theorem raise_last {B : List Int} {x y : Int} (h : B ≠ []) (hl : B[B.length - 1]? = some x) : ∃ B0, B = B0 ++ [x] ∧ B.set (B.length - 1) y = B0 ++ [y] := by
  rcases List.eq_nil_or_concat B with z | ⟨B0, b, z⟩
  · exact absurd z h
  · rw [List.concat_eq_append] at z
    subst z
    simp at hl
    subst hl
    exact ⟨B0, rfl, by simp⟩
end XW

/-! The law. -/
namespace XW
open PySem L2 XL XSt XG
/-- the law's own defs -/
structure LawX (K : PySem.W.Frag) (mg : Str → Option Value) : Prop where
  start : DfE K mg "_law_start" sLStart ["_law_script"]
  take : DfE K mg "_law_take" sLTake ["_law_state", "_law_limit"]
  shuf : DfE K mg "_law_shuffled" sLShuffled ["_law_state", "_law_items"]
  grown : DfE K mg "_law_grown" sLGrown ["_law_state", "_law_turns", "_law_wild"]
  named : DfE K mg "_law_named" sLNamed ["_law_state", "_law_links", "_law_count"]
  netw : DfE K mg "_law_network" sLNetwork ["_law_state", "_law_wild"]
  ways : DfE K mg "_law_ways" sLWays ["_law_links", "_law_start_here", "_law_end"]
  leads : DfE K mg "_law_leads" sLLeads ["_law_links", "_law_first", "_law_second"]
  extra : DfE K mg "_law_extra" sLExtra ["_law_state", "_law_links", "_law_start_here", "_law_end", "_law_along"]
  loads : DfE K mg "_law_loads" sLLoads ["_law_links", "_law_ways_here", "_law_amounts_here"]
  amounts : DfE K mg "_law_amounts" sLAmounts ["_law_state", "_law_ways_here", "_law_most"]
  ratios : DfE K mg "_law_ratios" sLRatios ["_law_loads_here", "_law_bottom"]
/-- what of the program the law calls -/
structure ProgX (K : PySem.W.Frag) (mg : Str → Option Value) (CN : Addr) : Prop where
  chkl : DfE K mg "check_loads" sCheckLoads ["network", "loads"]
  bears : DfE K mg "bears" sBears ["way", "before", "after"]
  wit : DfE K mg "witness" sWitness ["network", "before", "after"]
  cut : DfE K mg "cut_load" sCutLoad ["network", "loads", "places"]
  opened : DfE K mg "opened" sOpened ["network", "extra"]
  ways : ∃ f fd, Fun K "ways" "Network.ways" sNWays f fd ∧ Binds K fd ["self"] [] ∧ Meth K CN "ways" f
theorem NetOk.perm {M T : Lks} {s e : Str} {rk : Str → Nat} (n : NetOk M s e rk) (h : M.Perm T) : NetOk T s e rk where
  net := n.net.perm h
  nmd := ⟨fun l hl => n.nmd.lk l (h.mem_iff.mpr hl), n.nmd.hs, n.nmd.he, (h.map (·.1)).nodup_iff.mp n.nmd.nd, n.nmd.ne⟩
  plc := fun l hl => n.plc l (h.mem_iff.mpr hl)
  ps := n.ps
  pe := n.pe
theorem lks_but {H H' : Hp} {st c a : Addr} {n : Nat} {M : Lks} (l : LksAt H a M) (b : But st c H H') (S : StAt H st c n) (h1 : a ≠ st) (h2 : a ≠ c) : LksAt H' a M := let ⟨ts, e, t⟩ := l; ⟨ts, b a _ h1 h2 e, t.mono fun r y hy => b.keep S hy (fun _ z => nomatch z)⟩
theorem ways_but {H H' : Hp} {st c a : Addr} {n : Nat} {M : List (List Str)} (l : WaysAt H a M) (b : But st c H H') (S : StAt H st c n) (h1 : a ≠ st) (h2 : a ≠ c) : WaysAt H' a M := let ⟨ts, e, t⟩ := l; ⟨ts, b a _ h1 h2 e, t.mono fun r y hy => b.keep S hy (fun _ z => nomatch z)⟩
theorem net_but {C : Addr} {H H' : Hp} {st c p : Addr} {n : Nat} {s e : Str} {M : Lks} (l : NetA C H p s e M) (b : But st c H H') (S : StAt H st c n) : NetA C H' p s e M :=
  let ⟨dx, d, kvs, e1, e2, t⟩ := l; ⟨dx, d, kvs, b.keep S e1 (fun _ z => nomatch z), b.keep S e2 (fun _ z => nomatch z), t.mono fun _ _ ⟨r, e3, e4⟩ => ⟨r, e3, b.keep S e4 (fun _ z => nomatch z)⟩⟩
theorem sIx_last (xs : List V) (v : V) : HT.sIx (xs ++ [v]).length (xs ++ [v]).length (some (-1)) = xs.length := by
  unfold HT.sIx
  rw [List.length_append]
  show (if (-1 : Int) < 0 then ((-1 : Int) + ((xs.length + 1 : Nat) : Int)).toNat else _) = _
  rw [if_pos (by decide)]
  omega
theorem cutV_last (xs : List V) (v : V) : cutV (xs ++ [v]) none (some (-1)) = xs := by
  unfold cutV
  rw [HT.sIx_none, sIx_last, List.drop_zero, Nat.sub_zero, List.take_left]
theorem not_whole (xs : List V) (v : V) : ¬ (HT.sIx (xs ++ [v]).length 0 none = 0 ∧ HT.sIx (xs ++ [v]).length (xs ++ [v]).length (some (-1)) = (xs ++ [v]).length) := by
  rw [sIx_last]
  simp
theorem ixN_last {n : Nat} (h : 0 < n) : ixN n (-1) = some (n - 1) := by
  unfold ixN
  rw [if_neg (by decide), if_pos (by omega)]
  congr 1
  omega
theorem ok_strs : ∀ x ∈ nameWords, PyData.canLay0 (.str x) = true := by decide +kernel
theorem canLay_way : ∀ {w : List Str}, (∀ n ∈ w, n ∈ nameWords) → PyData.canLayAll0 (w.map PyData.str) = true
  | [], _ => rfl
  | x :: w, h => by
    rw [List.map_cons, PyData.canLayAll0, ok_strs x (h x List.mem_cons_self), canLay_way fun n hn => h n (List.mem_cons_of_mem _ hn)]
    rfl
theorem depth_way (w : List Str) : (encW w).depth = 1 := by
  unfold encW
  rw [PyData.depth, depth_strs]
theorem shaped_way {w : List Str} (h : ∀ n ∈ w, n ∈ nameWords) : SeqAt.shaped (encW w) = true := by
  unfold SeqAt.shaped
  rw [depth_way]
  show (PyData.canLayAll0 (w.map PyData.str) && _) = true
  rw [canLay_way h]
  rfl
theorem canLay_ways : ∀ {ws : List (List Str)}, (∀ w ∈ ws, ∀ n ∈ w, n ∈ nameWords) → PyData.canLayAll0 (ws.map encW) = true
  | [], _ => rfl
  | w :: ws, h => by
    rw [List.map_cons, PyData.canLayAll0, canLay_ways fun v hv => h v (List.mem_cons_of_mem _ hv)]
    show (PyData.canLayAll0 (w.map PyData.str) && true) = true
    rw [canLay_way (h w List.mem_cons_self)]
    rfl
theorem depth_ways : ∀ ws : List (List Str), PyData.depthAll (ws.map encW) ≤ 1
  | [] => by simp [PyData.depthAll]
  | w :: ws => by
    have h := depth_ways ws
    rw [List.map_cons, PyData.depthAll, depth_way]
    omega
theorem shaped_ways {ws : List (List Str)} (h : ∀ w ∈ ws, ∀ n ∈ w, n ∈ nameWords) : SeqAt.shaped (.list (ws.map encW)) = true := by
  unfold SeqAt.shaped
  have := depth_ways ws
  show (PyData.canLayAll0 (ws.map encW) && _) = true
  rw [canLay_ways h, PyData.depth]
  simp
  omega
theorem dpAll_strs {K : PySem.W.Frag} {H : Hp} : ∀ w : List Str, DpAll K H (stz w) (w.map PyData.str)
  | [] => .nil
  | x :: w => .cons (.str x) (dpAll_strs w)
theorem dp_way {K : PySem.W.Frag} {H : Hp} {r : Addr} {w : List Str} (h : WayAt H r w) : Dp K H (.ref r) (encW w) := .tup (SqT.of h) (dpAll_strs w)
theorem dpAll_ways {K : PySem.W.Frag} {H : Hp} : ∀ {rs : List Addr} {ws : List (List Str)}, A2 (WayAt H) rs ws → DpAll K H (refs rs) (ws.map encW)
  | _, _, .nil => .nil
  | _, _, .cons a t => .cons (dp_way a) (dpAll_ways t)
theorem eqv_way {w : List Str} (h : ∀ n ∈ w, n ∈ nameWords) : PyData.eqv (encW w) (encW w) = true := PySem.W.eqv_refl_alike _ (by
  show PySem.W.alikeAll _ _ = true
  exact alike_strs w w)
section
variable {P : Program} {w : World} {K : PySem.W.Frag} {mg : Str → Option Value} {base : Heap}
/-- a statement, then the rest, from a state written anew -/
def tNrm (t u : TS) : TS := fun D σ H => t { D with nx := fun σ' H' => ∃ τ, τ = σ' ∧ u D τ H' } σ H
theorem pss_nrm {X : Cx} {st : Stmt} {rest : List Stmt} {t u : TS} (h1 : PS X st t) (h2 : PSs X rest u) : PSs X (st :: rest) (tNrm t u) :=
  ⟨fun pins s σ H D I h => (C8.pss_cut h1 h2).run pins s σ H D I ⟨_, h, fun _ _ ⟨_, e, q⟩ => e ▸ q⟩⟩
abbrev nLaw : List Str := ["_law_script", "_law_state", "_law_links", "_law_start_here", "_law_end", "_law_net", "_law_extra_here", "_law_both", "_law_all_ways", "_law_ways_here", "_law_amounts_here", "_law_more", "_law_before", "_law_after", "_law_due", "_law_place", "_law_spots", "_law_told", "_law_link", "_law_way", "_law_name", "_law_other"]
theorem scLaw : FnScope nLaw ["_law_script"] (defScope sLaw) := ⟨rfl, rfl, rfl, by decide +kernel, rfl, by decide +kernel, by decide +kernel⟩
def spLaw (K : PySem.W.Frag) : Sp := fun vs H Q _ => ∃ (a : Addr) (ns : List Int), vs = [.ref a] ∧ SqL K H a (ns.map V.int) ∧ ns.length ≤ 63 ∧ ∀ H', Q (.bl true) H'
theorem ok_law {f CN CR : Addr} {fd : FuncData} (F : Fun K "law" "law" sLaw f fd) (X : ModX K mg) (N : NetX K mg CN) (R : RatX K mg CR) (L : LawX K mg) (G : ProgX K mg CN) : FnOk P w K mg base CX0 7 f fd ["_law_script"] (spLaw K) := by
  have B := X.B
  obtain ⟨fSt, fdSt, DSt⟩ := L.start
  obtain ⟨fT, fdT, DT⟩ := L.take
  obtain ⟨fS, fdS, DS⟩ := L.shuf
  obtain ⟨fG, fdG, DG⟩ := L.grown
  obtain ⟨fNa, fdNa, DNa⟩ := L.named
  obtain ⟨fNw, fdNw, DNw⟩ := L.netw
  obtain ⟨fW, fdW, DW⟩ := L.ways
  obtain ⟨fL, fdL, DL⟩ := L.leads
  obtain ⟨fE, fdE, DE⟩ := L.extra
  obtain ⟨fLo, fdLo, DLo⟩ := L.loads
  obtain ⟨fA, fdA, DA⟩ := L.amounts
  obtain ⟨fR, fdR, DR⟩ := L.ratios
  obtain ⟨fC, fdC, DC⟩ := G.chkl
  obtain ⟨fB, fdB, DB⟩ := G.bears
  obtain ⟨fWi, fdWi, DWi⟩ := G.wit
  obtain ⟨fCu, fdCu, DCu⟩ := G.cut
  obtain ⟨fO, fdO, DO⟩ := G.opened
  obtain ⟨fGw, fdGw, FGw, bGw, MGw⟩ := G.ways
  obtain ⟨fI, fdI, one, FI, MI, bI0, bI1, vI⟩ := R.init
  obtain ⟨fD, fdD, DD⟩ := R.div
  obtain ⟨fQ, fdQ, FQ, bQ, aQ, oQ, eQ, iQ⟩ := R.eq
  obtain ⟨gP, fP, fdP, FP, bP, PP⟩ := N.places
  obtain ⟨fN, fdN, bN, MN, GN⟩ := N.mk_ok (P := P) (w := w) (base := base) X
  have GSt : FnOk P w K mg base CX0 1 fSt fdSt ["_law_script"] (spStart K) := ok_start DSt.F B
  have GNw : FnOk P w K mg base CX0 4 fNw fdNw ["_law_state", "_law_wild"] spNetw := ok_netw DNw.F B DT DS DG DNa
  have GE : FnOk P w K mg base CX0 2 fE fdE ["_law_state", "_law_links", "_law_start_here", "_law_end", "_law_along"] spExtra := ok_extra DE.F B DT DL
  have GL : FnOk P w K mg base CX0 1 fL fdL ["_law_links", "_law_first", "_law_second"] spLeads := ok_leads DL.F B
  have GW : FnOk P w K mg base CX0 1 fW fdW ["_law_links", "_law_start_here", "_law_end"] spWays := ok_ways DW.F B
  have GA : FnOk P w K mg base CX0 2 fA fdA ["_law_state", "_law_ways_here", "_law_most"] spAmounts := ok_amounts DA.F B DT
  have GLo : FnOk P w K mg base CX0 1 fLo fdLo ["_law_links", "_law_ways_here", "_law_amounts_here"] spLoads := ok_loads DLo.F B
  have GI : FnOk P w K mg base CX0 2 fI fdI ["self", "top", "bottom"] (spRInit CR) := ok_rinit FI R.T DD B.abs
  have GR : FnOk P w K mg base CX0 4 fR fdR ["_law_loads_here", "_law_bottom"] (spRatios CR) := ok_ratios DR.F R.T MI GI bI0
  have GWi : FnOk P w K mg base CX0 4 fWi fdWi ["network", "before", "after"] (spWit CN CR) := ok_wit DWi.F B N R DC DB FGw bGw MGw
  have GCu : FnOk P w K mg base CX0 6 fCu fdCu ["network", "loads", "places"] (spCut CN CR) := ok_cut DCu.F B N R DC
  have GO : FnOk P w K mg base CX0 5 fO fdO ["network", "extra"] (spOpened CN) := ok_opened DO.F X N
  have GP : FnOk P w K mg base CX0 1 fP fdP ["self"] (spPlaces CN) := ok_places FP B N.T
  have GQ : FnOk P w K mg base CX0 1 fQ fdQ ["self", "other"] (spREq CR) := ok_req FQ R.T B.isinstance
  refine F.ok scLaw (fun vs H Q E h => ?_) (fun cdv A outer s H vs Q E hr h => ?_)
  · obtain ⟨a, ns, rfl, _⟩ := h
    rfl
  · obtain ⟨a, ns, rfl, ea, hns, k⟩ := h
    have nd := scLaw.nd
    have hu := hu_of hr
    refine ⟨_, pss_cons (ps_set (i := 1) nd rfl (.inl rfl) (pe_call GSt (hr.mono (by decide)) (by rfl) DSt.g DSt.F.kp DSt.b .nil pass0 (pa_cons (pv 0) pa_nil)))
      (pss_cons (ps_asg (pe_call GNw (hr.mono (by decide)) (by rfl) DNw.g DNw.F.kp DNw.b .nil pass0 (pa_cons (pv 1) (pa_cons pe_int pa_nil))) (pg_tup rfl (pgs_cons (pg_name (i := 2) nd rfl (.inr rfl)) (pgs_cons (pg_name (i := 3) nd rfl (.inl rfl)) (pgs_cons (pg_name (i := 4) nd rfl (.inl rfl)) pgs_nil)))))
      (pss_nrm (ps_set (i := 5) nd rfl (.inl rfl) (pe_make MN GN (hr.mono (by decide)) (by rfl) N.T.mgC bN .nil pass0 (pa_cons (pv 2) (pa_cons (pv 3) (pa_cons (pv 4) pa_nil)))))
      (pss_nrm (ps_set (i := 6) nd rfl (.inl rfl) (pe_call GE (hr.mono (by decide)) (by rfl) DE.g DE.F.kp DE.b .nil pass0 (pa_cons (pv 1) (pa_cons (pv 2) (pa_cons (pv 3) (pa_cons (pv 4) (pa_cons pe_int pa_nil)))))))
      (pss_nrm (ps_setLc (i := 6) (own := [("_law_link", 18)]) (g := gName 18) (tt := tTru K (tCall spLeads [] E (tCons (tVar 2) (tCons (tOp (rIxT K) (tVar 18) (tC (.int 1))) (tCons (tOp (rIxT K) (tVar 18) (tC (.int 2))) tNil))))) (te := tVar 18)
          rfl nd rfl rfl (sw_true rfl rfl rfl (by decide +kernel)) (pi_list (pv 6)) (blkOk_by (own := [("_law_link", 18)]) (N := nLaw) (sc := defScope sLaw) (by decide +kernel))
          (fun _ _ _ _ _ => pg_name (i := 18) nd rfl (.inl rfl)) (fun _ _ _ _ _ => pts_one (pt_truth (pe_call GL (hr.mono (by decide)) (by rfl) DL.g DL.F.kp DL.b .nil pass0 (pa_cons (pv 2) (pa_cons (pe_ix ix_tup (pv 18) pe_int (fun _ _ => rfl)) (pa_cons (pe_ix ix_tup (pv 18) pe_int (fun _ _ => rfl)) pa_nil)))) (by intro _; rfl))) (fun _ _ _ _ _ => pv 18))
      (pss_nrm (ps_set (i := 7) nd rfl (.inl rfl) (pe_op op_cat (pv 2) (pv 6)))
      (pss_nrm (ps_set (i := 8) nd rfl (.inl rfl) (pe_call GW (hr.mono (by decide)) (by rfl) DW.g DW.F.kp DW.b .nil pass0 (pa_cons (pv 7) (pa_cons (pv 3) (pa_cons (pv 4) pa_nil)))))
      (pss_nrm (ps_set (i := 9) nd rfl (.inl rfl) (pe_call GW (hr.mono (by decide)) (by rfl) DW.g DW.F.kp DW.b .nil pass0 (pa_cons (pv 2) (pa_cons (pv 3) (pa_cons (pv 4) pa_nil)))))
      (pss_nrm (ps_set (i := 10) nd rfl (.inl rfl) (pe_call GA (hr.mono (by decide)) (by rfl) DA.g DA.F.kp DA.b .nil pass0 (pa_cons (pv 1) (pa_cons (pv 8) (pa_cons pe_int pa_nil)))))
      (pss_nrm (ps_set (i := 11) nd rfl (.inl rfl) (pe_call GA (hr.mono (by decide)) (by rfl) DA.g DA.F.kp DA.b .nil pass0 (pa_cons (pv 1) (pa_cons (pv 9) (pa_cons pe_int pa_nil)))))
      (pss_cons (ps_asg (pe_op op_add (pe_ix ix_list (pv 11) (pe_un un_neg pe_int) (fun _ _ => rfl)) (pe_callB (call_max2 rfl) (by rfl) B.max (by decide +kernel) (pa_cons pe_int (pa_cons (pe_op op_sub (pe_callB (cr_sum rfl) (by rfl) B.sum (by decide +kernel) (pa_cons (pv 10) pa_nil)) (pe_callB (cr_sum rfl) (by rfl) B.sum (by decide +kernel) (pa_cons (pv 11) pa_nil))) pa_nil)))) (pg_sub (pv 11) (pe_un un_neg pe_int) set_list))
      (pss_nrm (ps_set (i := 12) nd rfl (.inr rfl) (pe_call GLo (hr.mono (by decide)) (by rfl) DLo.g DLo.F.kp DLo.b .nil pass0 (pa_cons (pv 7) (pa_cons (pv 8) (pa_cons (pv 10) pa_nil)))))
      (pss_nrm (ps_set (i := 13) nd rfl (.inr rfl) (pe_call GLo (hr.mono (by decide)) (by rfl) DLo.g DLo.F.kp DLo.b .nil pass0 (pa_cons (pv 2) (pa_cons (pv 9) (pa_cons (pv 11) pa_nil)))))
      (pss_nrm (ps_setLc (i := 14) (own := [("_law_way", 19)]) (g := gName 19)
          (tt := tTru K (tCB (rAll K) (tCons (tLc (iTup K (tVar 19)) (gName 20) tYes (tAndV (tOp (rI0 fun i j => .bl (decide (j < i))) (tDGet (tVar 13) (tVar 20)) (tC (.int 0))) (tOp (rI0 fun i j => .bl (decide (j ≤ i))) (tDGet (tVar 13) (tVar 20)) (tDGet (tVar 12) (tVar 20)))) [20]) tNil))) (te := tVar 19)
          rfl nd rfl rfl (sw_true rfl rfl rfl (by decide +kernel)) (pi_list (pv 9)) (blkOk_by (own := [("_law_way", 19)]) (N := nLaw) (sc := defScope sLaw) (by decide +kernel))
          (fun _ _ _ _ _ => pg_name (i := 19) nd rfl (.inl rfl)) (fun _ _ _ _ _ => pts_one (pt_truth (pe_callB (cr_all rfl) (by rfl) B.all (by decide +kernel) (pa_cons (pe_lc (own := [("_law_name", 20)]) (g := gName 20) (tt := tYes) (te := tAndV (tOp (rI0 fun i j => .bl (decide (j < i))) (tDGet (tVar 13) (tVar 20)) (tC (.int 0))) (tOp (rI0 fun i j => .bl (decide (j ≤ i))) (tDGet (tVar 13) (tVar 20)) (tDGet (tVar 12) (tVar 20))))
            rfl nd (pi_tup (pv 19)) (blkOk_by (own := [("_law_name", 20)]) (N := nLaw) (by rfl)) (fun _ _ _ _ _ => pg_name (i := 20) nd rfl (.inl rfl)) (fun _ _ _ _ _ => pts_nil)
            (fun _ _ _ _ _ => pe_and (pe_cmpR op_gt (pe_dget hu (pv 13) (pv 20) (fun _ _ => rfl)) pe_int (nomark _)) (pe_one (pe_cmpR op_ge (pe_dget hu (pv 13) (pv 20) (fun _ _ => rfl)) (pe_dget hu (pv 12) (pv 20) (fun _ _ => rfl)) (nomark _))))) pa_nil)) (by intro _; rfl))) (fun _ _ _ _ _ => pv 19))
      (pss_cons (ps_if (PW.pt (pw_or (pt_cmpR (op_eqD hr.units) (pv 14) (pe_lst pa_nil) (nomark _)) (pw_or1 (pt_cmpR (op_neD hr.units) (pe_call GWi (hr.mono (by decide)) (by rfl) DWi.g DWi.F.kp DWi.b .nil pass0 (pa_cons (pv 5) (pa_cons (pe_call GR (hr.mono (by decide)) (by rfl) DR.g DR.F.kp DR.b .nil pass0 (pa_cons (pv 12) (pa_cons pe_int pa_nil))) (pa_cons (pe_call GR (hr.mono (by decide)) (by rfl) DR.g DR.F.kp DR.b .nil pass0 (pa_cons (pv 13) (pa_cons pe_int pa_nil))) pa_nil)))) (pe_ix ix_list (pv 14) pe_int (fun _ _ => rfl)) (nomark _))))) (pss_one ps_never) pss_nil)
      (pss_cons (ps_for PassesOwn.never rfl (pi_tup (pe_slice sl_tup (pe_prop (pv 5) N.T.cl PP GP (hr.mono (by decide)) bP .nil pass0 rfl) po_none (po_some (pe_un un_neg pe_int)))) (pg_name (i := 15) nd rfl (.inr rfl))
        (pss_nrm (ps_set (i := 16) nd rfl (.inl rfl) (pe_op op_cat (pe_lst (pa_cons (pv 3) (pa_cons (pv 15) pa_nil))) (pe_lc (own := [("_law_other", 21)]) (g := gName 21) (tt := tTru K (tCall spLeads [] E (tCons (tVar 2) (tCons (tVar 21) (tCons (tVar 15) tNil))))) (te := tVar 21)
            rfl nd (pi_tup (pe_prop (pv 5) N.T.cl PP GP (hr.mono (by decide)) bP .nil pass0 rfl)) (blkOk_by (own := [("_law_other", 21)]) (N := nLaw) (sc := defScope sLaw) (by decide +kernel))
            (fun _ _ _ _ _ => pg_name (i := 21) nd rfl (.inl rfl)) (fun _ _ _ _ _ => pts_one (pt_truth (pe_call GL (hr.mono (by decide)) (by rfl) DL.g DL.F.kp DL.b .nil pass0 (pa_cons (pv 2) (pa_cons (pv 21) (pa_cons (pv 15) pa_nil)))) (by intro _; rfl))) (fun _ _ _ _ _ => pv 21))))
        (pss_nrm (ps_set (i := 17) nd rfl (.inl rfl) (pe_call GCu hr (by rfl) DCu.g DCu.F.kp DCu.b .nil pass0 (pa_cons (pe_call GO (hr.mono (by decide)) (by rfl) DO.g DO.F.kp DO.b .nil pass0 (pa_cons (pv 5) (pa_cons (pv 6) pa_nil))) (pa_cons (pe_call GR (hr.mono (by decide)) (by rfl) DR.g DR.F.kp DR.b .nil pass0 (pa_cons (pv 12) (pa_cons pe_int pa_nil))) (pa_cons (pv 16) pa_nil)))))
        (pss_one (ps_if (pt_cmpR (ne_own (E := E) (GQ.raw bQ .nil) (hr.mono (by decide)) (fun _ _ _ _ _ _ _ h => h.elim) aQ oQ eQ iQ) (pv 17) (pe_make MI GI (hr.mono (by decide)) (by rfl) R.T.mgC bI0 .nil pass0 (pa_cons (pe_callB (cr_sum rfl) (by rfl) B.sum (by decide +kernel) (pa_cons (pv 10) pa_nil)) (pa_cons pe_int pa_nil))) (nomark _)) (pss_one ps_never) pss_nil)))))
      (pss_one (ps_ret pe_bl))))))))))))))))), ?_⟩
    -- the state
    refine ⟨_, rfl, a, ns, rfl, ea, hns, fun st c H1 s1 S1 nst nc => ?_⟩
    -- the net
    refine ⟨_, rfl, st, c, 0, rfl, S1, by decide, fun p q H2 M s e D b2 S2 ep lk2 q1 q2 => ?_⟩
    refine ⟨p, _, rfl, SqT.of ep, rfl, _, _, rfl, _, _, rfl, _, _, rfl, rfl, ?_⟩
    obtain ⟨rk0, _, okM0, _⟩ := drawn_ok D (X := []) ⟨fun _ h => absurd h List.not_mem_nil, rfl, by obtain ⟨_, n, _⟩ := D.net; simpa using n.len⟩
    have hM := okM0.net.len
    -- the network
    refine ⟨_, rfl, _, rfl, _, rfl, fun np ndx nnp nndx nne => ?_⟩
    have sr : Same H2 (upd (upd H2 ndx (.own np)) np (.ins CN ndx [])) := fun b o eb => by
      rw [upd_ne (ne_of_none eb nnp), upd_ne (ne_of_none eb nndx)]
      exact eb
    refine ⟨np, ndx, q, M, s, e, rk0, rfl, upd_same, lk2.same sr, okM0, fun H3 Tb pT sx net3 => ⟨rfl, [some (.ref a), some (.ref st), some (.ref q), some (.str s), some (.str e), some (.ref np), none, none, none, none, none, none, none, none, none, none, none, none, none, none, none, none], rfl, ?_⟩⟩
    have s23 : Same H2 H3 := fun b o eb => sx b o (ne_of_none eb nnp) (sr b o eb)
    have S3 := S2.same s23
    have lk3 := lk2.same s23
    -- the extra links
    refine ⟨_, rfl, _, rfl, _, rfl, _, rfl, st, c, q, _, M, s, e, rk0, rfl, S3, by decide, lk3, q1, q2, okM0.net, fun x H4 Xs m b4 S4 hm lkx4 xok x1 x2 => ⟨[some (.ref a), some (.ref st), some (.ref q), some (.str s), some (.str e), some (.ref np), some (.ref x), none, none, none, none, none, none, none, none, none, none, none, none, none, none, none], rfl, ?_⟩⟩
    obtain ⟨rk, cut, okM, okU⟩ := drawn_ok D xok
    have lk4 := lks_but lk3 b4 S3 q1 q2
    have net4 := net_but net3 b4 S3
    obtain ⟨xs, ex4, tx4⟩ := id lkx4
    have hxl : (refs xs).length = Xs.length := by rw [refs_len, tx4.len]
    have hXl : Xs.length ≤ 10 := by have := xok.len; omega
    refine ⟨_, rfl, x, rfl, ⟨_, SqL.of ex4⟩, fun x5 nx5 => ?_⟩
    refine wk_it (walk_list (xs := refs xs)) (fun i H' => Same H4 H' ∧ H' x5 = some (.lst (refs (xs.take i)))) ⟨same_upd nx5, upd_same⟩ (fun i H' _ ⟨s5, _⟩ => SqL.of (s5 _ _ ex4)) ?_ ?_
    · rintro i y H5 H6 hi ⟨s5, e5⟩ ⟨rfl, ey⟩
      rw [hxl] at hi
      obtain ⟨⟨n, t, h⟩, em⟩ := XL.get_some hi
      obtain ⟨r, er, hr'⟩ := tx4.get em
      rw [refs_get er] at ey
      cases ey
      have hl := xok.lead _ (List.mem_of_getElem? em)
      have er5 := s5 _ _ hr'
      refine ⟨rfl, _, rfl, _, rfl, r, _, 1, .str t, rfl, rfl, SqT.of er5, at_of (j := 1) rfl rfl, _, rfl, r, _, 2, .str h, rfl, rfl, SqT.of er5, at_of (j := 2) rfl rfl, q, t, h, M, rfl, lk4.same s5, hM, fun H7 s7 => ⟨_, rfl, iteKT (decide_eq_true ((rounds_leads okM.net.ranked okM.net.low).mpr hl)) ?_⟩⟩
      refine ⟨_, rfl, _, s7 _ _ e5, ?_, (fun b o eb => ?_), ?_⟩
      · rw [refs_len, List.length_take]
        exact small1000 (by omega)
      · rw [upd_ne (ne_of_none eb nx5)]
        exact s7 _ _ (s5 _ _ eb)
      · rw [upd_same, inner_get er]
        unfold refs
        rw [List.map_append]
        rfl
    rintro H5 ⟨s5, e5⟩
    rw [refs_len, List.take_length] at e5
    have S5 := S4.same s5
    have lk5 := lk4.same s5
    have net5 := net4.same s5
    have lkx5 : LksAt H5 x5 Xs := ⟨xs, e5, tx4.mono fun _ _ h => s5 _ _ h⟩
    have fx5 := S4.new nx5
    -- both
    obtain ⟨ts5, eq5, tq5⟩ := id lk5
    refine ⟨[some (.ref a), some (.ref st), some (.ref q), some (.str s), some (.str e), some (.ref np), some (.ref x5), none, none, none, none, none, none, none, none, none, none, none, none, none, none, none], rfl, _, rfl, _, rfl, q, x5, _, _, rfl, rfl, eq5, e5, ?_, fun u nu => ⟨[some (.ref a), some (.ref st), some (.ref q), some (.str s), some (.str e), some (.ref np), some (.ref x5), some (.ref u), none, none, none, none, none, none, none, none, none, none, none, none, none, none], rfl, ?_⟩⟩
    · rw [hxl, refs_len, tq5.len]
      exact Nat.le_of_lt (small1000 (by omega))
    have s6 := same_upd (o := .lst (refs ts5 ++ refs xs)) nu
    have fu := S5.new nu
    have S6 := S5.same s6
    have lku6 : LksAt (upd H5 u (.lst (refs ts5 ++ refs xs))) u (M ++ Xs) := by
      refine ⟨ts5 ++ xs, ?_, (tq5.mono fun _ _ h => s6 _ _ h).app ((tx4.mono fun _ _ h => s5 _ _ h).mono fun _ _ h => s6 _ _ h)⟩
      rw [upd_same]
      unfold refs
      rw [List.map_append]
    have lk6 := lk5.same s6
    have lkx6 := lkx5.same s6
    have net6 := net5.same s6
    generalize upd H5 u (.lst (refs ts5 ++ refs xs)) = H6 at s6 S6 lku6 lk6 lkx6 net6
    -- all ways
    refine ⟨_, rfl, _, rfl, _, rfl, u, M ++ Xs, s, e, rk, rfl, lku6, okU.net, fun aw H7 s7 naw waw => ⟨[some (.ref a), some (.ref st), some (.ref q), some (.str s), some (.str e), some (.ref np), some (.ref x5), some (.ref u), some (.ref aw), none, none, none, none, none, none, none, none, none, none, none, none, none], rfl, ?_⟩⟩
    have S7 := S6.same s7
    have faw := S6.new naw
    refine ⟨_, rfl, _, rfl, _, rfl, q, M, s, e, rk, rfl, lk6.same s7, okM.net, fun wa H8 s8 nwa wwa => ⟨[some (.ref a), some (.ref st), some (.ref q), some (.str s), some (.str e), some (.ref np), some (.ref x5), some (.ref u), some (.ref aw), some (.ref wa), none, none, none, none, none, none, none, none, none, none, none, none], rfl, ?_⟩⟩
    have S8 := S7.same s8
    have fwa := S7.new nwa
    have s68 := s7.trans s8
    have waw8 := waw.same s8
    have lku8 := lku6.same s68
    have lk8 := lk6.same s68
    have lkx8 := lkx6.same s68
    have net8 := net6.same s68
    obtain ⟨ras, eaw8, taw8⟩ := id waw8
    obtain ⟨rws, ewa8, twa8⟩ := id wwa
    have hAW : (refs ras).length = (sortW (pf (M ++ Xs) e 9 s)).length := by rw [refs_len, taw8.len]
    have hW : (refs rws).length = (sortW (pf M e 9 s)).length := by rw [refs_len, twa8.len]
    have pos : ∀ {L : Lks}, Net L s e rk → 1 ≤ (sortW (pf L e 9 s)).length := fun {L} n => by
      rw [sortW_len]
      exact List.length_pos_iff.mpr (pf_some n)
    have few : ∀ {L : Lks}, Net L s e rk → (sortW (pf L e 9 s)).length ≤ 10000000 := fun {L} n => by
      rw [sortW_len]
      exact pf_len n
    -- the amounts
    refine ⟨_, rfl, _, rfl, st, c, aw, _, _, rfl, S8, eaw8, faw.1, faw.2, by rw [hAW]; exact pos okU.net, by rw [hAW]; exact Nat.le_trans (few okU.net) (by decide), by omega, fun am H9 Am hA a0 a1 a24 b9 S9 nam am1 am2 eam => ⟨[some (.ref a), some (.ref st), some (.ref q), some (.str s), some (.str e), some (.ref np), some (.ref x5), some (.ref u), some (.ref aw), some (.ref wa), some (.ref am), none, none, none, none, none, none, none, none, none, none, none], rfl, ?_⟩⟩
    have ewa9 := b9 _ _ fwa.1 fwa.2 ewa8
    refine ⟨_, rfl, _, rfl, st, c, wa, _, _, rfl, S9, ewa9, fwa.1, fwa.2, by rw [hW]; exact pos okM.net, by rw [hW]; exact Nat.le_trans (few okM.net) (by decide), by omega, fun mo H10 Bm hB b0 b1 b24 b10 S10 nmo mo1 mo2 emo => ⟨[some (.ref a), some (.ref st), some (.ref q), some (.str s), some (.str e), some (.ref np), some (.ref x5), some (.ref u), some (.ref aw), some (.ref wa), some (.ref am), some (.ref mo), none, none, none, none, none, none, none, none, none, none], rfl, ?_⟩⟩
    have b810 := b9.trans b10
    have eam10 := b10 _ _ am1 am2 eam
    have waw10 := ways_but waw8 b810 S8 faw.1 faw.2
    have wwa10 := ways_but wwa b810 S8 fwa.1 fwa.2
    have lku10 := lks_but lku8 b810 S8 fu.1 fu.2
    have lk10 := lks_but lk8 b810 S8 q1 q2
    have lkx10 := lks_but lkx8 b810 S8 fx5.1 fx5.2
    have net10 := net_but net8 b810 S8
    -- the last amount raised
    have hBne : Bm ≠ [] := fun z => by rw [z] at b1; simp at b1
    obtain ⟨B0, xl, rfl⟩ : ∃ B0 xl, Bm = B0 ++ [xl] := by
      rcases List.eq_nil_or_concat Bm with z | ⟨l, b, z⟩
      · exact absurd z hBne
      · exact ⟨l, b, by rw [z, List.concat_eq_append]⟩
    have emap : (B0 ++ [xl]).map V.int = B0.map V.int ++ [V.int xl] := by rw [List.map_append]; rfl
    generalize hup : (if Am.sum - (B0 ++ [xl]).sum > 0 then Am.sum - (B0 ++ [xl]).sum else (0 : Int)) = up
    have hup0 : 0 ≤ up ∧ Am.sum ≤ (B0 ++ [xl + up]).sum ∧ 1 ≤ (B0 ++ [xl + up]).sum := by
      rw [← hup]
      simp only [List.sum_append, List.sum_cons, List.sum_nil] at b1 ⊢
      split <;> omega
    have hset : ((B0 ++ [xl]).map V.int).set ((B0 ++ [xl]).map V.int).length.pred (.int (xl + up)) = (B0 ++ [xl + up]).map V.int := by
      rw [emap]
      simp
    refine ⟨_, rfl, _, rfl, mo, _, -1, .int xl, rfl, rfl, SqL.of emo, by rw [emap]; exact atI_last _ _, ?_⟩
    refine ⟨_, rfl, am, Am, rfl, SqL.of eam10, _, rfl, mo, _, rfl, SqL.of emo, _, _, rfl, rfl, _, _, rfl, _, _, rfl, rfl, ?_⟩
    rw [hup]
    refine ⟨_, rfl, _, rfl, mo, _, -1, _, rfl, rfl, emo, ixN_last (by rw [List.length_map]; simp), ?_⟩
    have hset2 : ((B0 ++ [xl]).map V.int).set (((B0 ++ [xl]).map V.int).length - 1) (.int (xl + up)) = (B0 ++ [xl + up]).map V.int := hset
    rw [hset2]
    have hBl : (B0 ++ [xl + up]).length = (sortW (pf M e 9 s)).length := by
      rw [hW] at hB
      rw [← hB]
      simp
    have hB0 : ∀ x ∈ B0 ++ [xl + up], 0 ≤ x := fun x hx => by
      rcases List.mem_append.mp hx with hx | hx
      · exact b0 x (List.mem_append_left _ hx)
      · rw [List.mem_singleton.mp hx]
        have := b0 xl (List.mem_append_right _ (List.mem_singleton.mpr rfl))
        omega
    generalize hBd : B0 ++ [xl + up] = Bd at hup0 hBl hB0
    have hAl : Am.length = (sortW (pf (M ++ Xs) e 9 s)).length := hA.trans hAW
    have e11 : ∀ (b : Addr) (o : HO), b ≠ mo → H10 b = some o → (upd H10 mo (.lst (Bd.map V.int))) b = some o := fun b o hb e => by rw [upd_ne hb]; exact e
    have nmo8 : H8 mo = none := b9.fresh (S8.mono (by omega)) nmo S9
    have apart : ∀ (b : Addr) (o : HO), H8 b = some o → b ≠ mo := fun b o e => ne_of_none e nmo8
    have hmam : am ≠ mo := ne_of_none eam nmo
    have eam11 := e11 _ _ hmam eam10
    have emo11 : (upd H10 mo (.lst (Bd.map V.int))) mo = some (.lst (Bd.map V.int)) := upd_same
    have tup11 : ∀ (b : Addr) (zs : List V), H10 b = some (.tup zs) → (upd H10 mo (.lst (Bd.map V.int))) b = some (.tup zs) := fun b zs e => upd_apart emo e
    have lk_11 : ∀ {b : Addr} {L : Lks}, b ≠ mo → LksAt H10 b L → LksAt (upd H10 mo (.lst (Bd.map V.int))) b L := fun {b L} hb ⟨ts, e, t⟩ => ⟨ts, e11 _ _ hb e, t.mono fun _ _ h => tup11 _ _ h⟩
    have ways_11 : ∀ {b : Addr} {L : List (List Str)}, b ≠ mo → WaysAt H10 b L → WaysAt (upd H10 mo (.lst (Bd.map V.int))) b L := fun {b L} hb ⟨ts, e, t⟩ => ⟨ts, e11 _ _ hb e, t.mono fun _ _ h => tup11 _ _ h⟩
    obtain ⟨_, elku8, _⟩ := id lku8
    have lku11 := lk_11 (apart _ _ elku8) lku10
    obtain ⟨_, elk8, _⟩ := id lk8
    have lk11 := lk_11 (apart _ _ elk8) lk10
    obtain ⟨_, elkx8, _⟩ := id lkx8
    have lkx11 := lk_11 (apart _ _ elkx8) lkx10
    have waw11 := ways_11 (apart _ _ eaw8) waw10
    have wwa11 := ways_11 (apart _ _ ewa8) wwa10
    have net11 : NetA CN (upd H10 mo (.lst (Bd.map V.int))) np s e Tb := by
      obtain ⟨dx, d, kvs, n1, n2, n3⟩ := net10
      exact ⟨dx, d, kvs, e11 _ _ (ne_of n1 emo (fun z => nomatch z)) n1, e11 _ _ (ne_of n2 emo (fun z => nomatch z)) n2, n3.mono fun _ _ ⟨r, h1, h2⟩ => ⟨r, h1, tup11 _ _ h2⟩⟩
    generalize upd H10 mo (.lst (Bd.map V.int)) = H11 at eam11 emo11 lku11 lk11 lkx11 waw11 wwa11 net11
    -- the loads
    refine ⟨_, rfl, _, rfl, _, rfl, u, aw, am, M ++ Xs, _, Am, rfl, lku11, okU.net.nd, okU.net.len, waw11, Nat.le_trans (few okU.net) (by decide), eam11, hAl, fun be H12 s12 nbe ebe => ⟨[some (.ref a), some (.ref st), some (.ref q), some (.str s), some (.str e), some (.ref np), some (.ref x5), some (.ref u), some (.ref aw), some (.ref wa), some (.ref am), some (.ref mo), some (.ref be), none, none, none, none, none, none, none, none, none], rfl, ?_⟩⟩
    refine ⟨_, rfl, _, rfl, _, rfl, q, wa, mo, M, _, Bd, rfl, lk11.same s12, okM.net.nd, hM, wwa11.same s12, Nat.le_trans (few okM.net) (by decide), s12 _ _ emo11, hBl, fun af H13 s13 naf eaf => ⟨[some (.ref a), some (.ref st), some (.ref q), some (.str s), some (.str e), some (.ref np), some (.ref x5), some (.ref u), some (.ref aw), some (.ref wa), some (.ref am), some (.ref mo), some (.ref be), some (.ref af), none, none, none, none, none, none, none, none], rfl, ?_⟩⟩
    have s11 := s12.trans s13
    have ebe13 := s13 _ _ ebe
    have wwa13 := wwa11.same s11
    have lk13 := lk11.same s11
    have lkx13 := lkx11.same s11
    have net13 := net11.same s11
    have eam13 := s11 _ _ eam11
    obtain ⟨wy, rest, hdue, hfirst⟩ := due_head okM.net cut okU.net xok.lead hAl hBl a0 hB0 hup0.2.2 hup0.2.1
    have hcut : ∀ (U : Lks) (S : List Str) (p : Str), U.Perm (M ++ Xs) → (∀ q, q ∈ S ↔ q = s ∨ q = p ∨ Leads M q p) → p ≠ e → crossI (wload ((sortW (pf (M ++ Xs) e 9 s)).zip Am)) S U = Am.sum ∧ ∀ l ∈ U, l.2.2 ∈ S → l.2.1 ∈ S := fun U S p hU hS hp => cut_is okM.net okU.net xok.lead hU hAl hS hp
    have hWp : ∀ w ∈ sortW (pf M e 9 s), Path M s w e := sortW_paths
    have hWfew : (sortW (pf M e 9 s)).length ≤ 10000000 := few okM.net
    generalize sortW (pf M e 9 s) = W at wwa13 hdue hBl eaf hfirst hWp hWfew
    generalize sortW (pf (M ++ Xs) e 9 s) = AW at ebe13 hdue hAl hfirst hcut
    have hWn : ∀ w ∈ W, ∀ n ∈ w, ∃ l ∈ M, l.1 = n := fun w hw => path_names (hWp w hw)
    have hWnm : ∀ w ∈ W, ∀ n ∈ w, n ∈ nameWords := fun w hw n hn => by
      obtain ⟨l, hl, rfl⟩ := hWn w hw n hn
      exact (D.nm l hl).1
    have hWl : ∀ w ∈ W, w.length < 8 := fun w hw => by
      have h1 := (hWp w hw).rank okM.net.ranked
      have h2 := okM.net.low e
      omega
    obtain ⟨rw13, ewa13, twa13⟩ := id wwa13
    have hrwl : (refs rw13).length = W.length := by rw [refs_len, twa13.len]
    have hZ : ∀ w ∈ W, ∀ n ∈ w, n ∈ M.map (·.1) ∧ n ∈ (M ++ Xs).map (·.1) := fun w hw n hn => by
      obtain ⟨l, hl, rfl⟩ := hWn w hw n hn
      exact ⟨List.mem_map.mpr ⟨l, hl, rfl⟩, List.mem_map.mpr ⟨l, List.mem_append_left _ hl, rfl⟩⟩
    generalize wload (W.zip Bd) = fa at hdue hfirst eaf
    generalize wload (AW.zip Am) = fb at hdue hfirst ebe13 hcut
    -- what is due
    refine ⟨_, rfl, wa, rfl, ⟨_, SqL.of ewa13⟩, fun D14 nD14 => ?_⟩
    refine wk_it (walk_list (xs := refs rw13)) (fun i H' => Same H13 H' ∧ ∃ rs : List Addr, H' D14 = some (.lst (refs rs)) ∧ rs.length ≤ i ∧ A2 (WayAt H') rs ((W.take i).filter (bearsB fb fa))) ⟨same_upd nD14, [], upd_same, Nat.le_refl _, .nil⟩ (fun i H' _ ⟨s1, _⟩ => SqL.of (s1 _ _ ewa13)) ?_ ?_
    · rintro i y H14 H15 hi ⟨s14, rs, eD, hrs, tD⟩ ⟨rfl, ey⟩
      rw [hrwl] at hi
      obtain ⟨wq, eq⟩ := XL.get_some hi
      obtain ⟨r, er, hr'⟩ := twa13.get eq
      rw [refs_get er] at ey
      cases ey
      have hwm := List.mem_of_getElem? eq
      have er14 : H15 r = some (.tup (stz wq)) := s14 _ _ hr'
      refine ⟨rfl, _, rfl, r, rfl, ⟨_, SqT.of er14⟩, fun D2 nD2 => ?_⟩
      refine wk_it (walk_tup (xs := stz wq)) (fun j H' => Same H15 H' ∧ H' D2 = some (.lst (((wq.take j).map fun n => decide (0 < fa n) && decide (fb n ≤ fa n)).map V.bl))) ⟨same_upd nD2, upd_same⟩ (fun j H' _ ⟨s2, _⟩ => SqT.of (s2 _ _ er14)) ?_ ?_
      · rintro j y H16 H17 hj ⟨s16, e16⟩ ⟨rfl, ey⟩
        rw [stz_len] at hj
        obtain ⟨n, en⟩ := XL.get_some hj
        rw [stz_get en] at ey
        cases ey
        have hn := List.mem_of_getElem? en
        have hk := hZ _ hwm _ hn
        have s1316 := s14.trans s16
        have go : ∀ b : Bool, b = (decide (0 < fa n) && decide (fb n ≤ fa n)) → ∃ acc, H17 D2 = some (.lst acc) ∧ acc.length < sizeLine ∧ Same H15 (upd H17 D2 (.lst (acc ++ [V.bl b]))) ∧ (upd H17 D2 (.lst (acc ++ [V.bl b]))) D2 = some (.lst (((wq.take (j + 1)).map fun n => decide (0 < fa n) && decide (fb n ≤ fa n)).map V.bl)) := fun b hb => by
          refine ⟨_, e16, ?_, (fun b o eb => ?_), ?_⟩
          · rw [List.length_map, List.length_map, List.length_take]
            have := hWl _ hwm
            exact small1000 (by omega)
          · rw [upd_ne (ne_of_none eb nD2)]
            exact s16 _ _ eb
          · rw [upd_same, inner_get en, List.map_append, List.map_append, hb]
            rfl
        refine ⟨rfl, _, rfl, _, rfl, af, .int _, rfl, .inl ⟨_, Sum.inr n, .inl (s1316 _ _ eaf), rfl, (intD_at _ hk.1).symm⟩, _, _, rfl, rfl, _, rfl, iteB (fun h1 => ?_) (fun h1 => ?_)⟩
        · refine ⟨_, rfl, _, rfl, af, .int _, rfl, .inl ⟨_, Sum.inr n, .inl (s1316 _ _ eaf), rfl, (intD_at _ hk.1).symm⟩, _, rfl, _, rfl, be, .int _, rfl, .inl ⟨_, Sum.inr n, .inl (s1316 _ _ ebe13), rfl, (intD_at _ hk.2).symm⟩, _, _, rfl, rfl, ?_⟩
          exact go _ (by rw [h1]; rfl)
        · exact go _ (by rw [h1]; rfl)
      rintro H16 ⟨s16, e16⟩
      rw [stz_len, List.take_length] at e16
      have t16 : A2 (WayAt H16) rs ((W.take i).filter (bearsB fb fa)) := tD.mono fun _ _ h => s16 _ _ h
      have eD16 := s16 _ _ eD
      have s1316 := s14.trans s16
      have hall : ((wq.map fun n => decide (0 < fa n) && decide (fb n ≤ fa n)).all id) = bearsB fb fa wq := by
        rw [List.all_map]
        rfl
      refine ⟨D2, _, rfl, SqL.of e16, _, rfl, ?_⟩
      rw [hall]
      refine iteB (fun h1 => ?_) (fun h1 => ?_)
      · refine ⟨_, rfl, _, eD16, ?_, (fun b o eb => ?_), rs ++ [r], ?_, ?_, ?_⟩
        · rw [refs_len]
          exact Nat.lt_of_le_of_lt (m := 10000000) (by omega) (by decide)
        · rw [upd_ne (ne_of_none eb nD14)]
          exact s1316 _ _ eb
        · rw [upd_same]
          unfold refs
          rw [List.map_append]
          rfl
        · rw [List.length_append]
          exact Nat.succ_le_succ hrs
        · rw [inner_get eq, List.filter_append]
          have : [wq].filter (bearsB fb fa) = [wq] := by rw [List.filter_cons, if_pos h1]; rfl
          rw [this]
          refine (t16.mono fun _ _ h => ?_).app (.cons ?_ .nil)
          · exact upd_apart eD16 h
          · exact upd_apart eD16 (s16 _ _ er14)
      · refine ⟨s1316, rs, eD16, Nat.le_succ_of_le hrs, ?_⟩
        rw [inner_get eq, List.filter_append]
        have : [wq].filter (bearsB fb fa) = [] := by rw [List.filter_cons, if_neg (by rw [h1]; exact Bool.false_ne_true)]; rfl
        rw [this, List.append_nil]
        exact t16
    rintro H14 ⟨s14, rs, eD14, hrs, tD14⟩
    rw [hrwl, List.take_length, hdue] at tD14
    refine ⟨[some (.ref a), some (.ref st), some (.ref q), some (.str s), some (.str e), some (.ref np), some (.ref x5), some (.ref u), some (.ref aw), some (.ref wa), some (.ref am), some (.ref mo), some (.ref be), some (.ref af), some (.ref D14), none, none, none, none, none, none, none], rfl, ?_⟩
    have wwm : wy ∈ W := by
      have : wy ∈ W.filter (bearsB fb fa) := by rw [hdue]; exact List.mem_cons_self
      exact (List.mem_filter.mp this).1
    have hdm : ∀ w ∈ wy :: rest, ∀ n ∈ w, n ∈ nameWords := fun w hw => by
      rw [← hdue] at hw
      exact hWnm w (List.mem_filter.mp hw).1
    have hT : ∀ l ∈ Tb, l.1 ∈ M.map (·.1) ∧ l.1 ∈ (M ++ Xs).map (·.1) := fun l hl => by
      have hl := pT.mem_iff.mp hl
      exact ⟨List.mem_map.mpr ⟨l, hl, rfl⟩, List.mem_map.mpr ⟨l, List.mem_append_left _ hl, rfl⟩⟩
    have hUl : (M ++ Xs).length ≤ 10 := okU.net.len
    have hul : ((M ++ Xs).map (·.1)).length ≤ 100 := by rw [List.length_map]; omega
    have hml : (M.map (·.1)).length ≤ 100 := by rw [List.length_map]; omega
    have ebe14 := s14 _ _ ebe13
    have eaf14 := s14 _ _ eaf
    have net14 := net13.same s14
    have lk14 := lk13.same s14
    have lkx14 := lkx13.same s14
    have eam14 := s14 _ _ eam13
    cases tD14 with
    | @cons r0 _ rs' _ hr0 hrs' =>
    refine ⟨_, rfl, by decide, fun z nz => ⟨.list ((wy :: rest).map encW), .list [], ?_, ?_, ?_, rfl, ?_⟩⟩
    · exact .lst (SqL.of (same_upd (o := .lst []) nz _ _ eD14)) (dpAll_ways (rs := r0 :: rs') (.cons (same_upd (o := .lst []) nz _ _ hr0) (hrs'.mono fun _ _ h => same_upd (o := .lst []) nz _ _ h)))
    · exact .lst (SqL.of upd_same) .nil
    · exact shaped_ways hdm
    refine ⟨_, rfl, iteKF ?_ ?_⟩
    · rfl
    have sz := same_upd (o := .lst []) nz
    have s15 := s14.trans sz
    have eD15 := sz _ _ eD14
    generalize upd H14 z (.lst []) = H15 at sz s15 eD15
    refine ⟨_, rfl, _, rfl, be, _, _, rfl, s15 _ _ ebe13, okU.net.nd, hul, fun rb H16 s16 nrb rdb => ?_⟩
    refine ⟨_, rfl, af, _, _, rfl, s16 _ _ (s15 _ _ eaf), okM.net.nd, hml, fun ra H17 s17 nra rda => ?_⟩
    refine ⟨np, rb, ra, s, e, Tb, rk, fb, fa, _, _, wy, rfl, net13.same (s15.trans (s16.trans s17)), okM.net.perm pT.symm, rdb.same s17, rda, fun l hl => (hT l hl).2, fun l hl => (hT l hl).1, hfirst Tb pT, fun wx H18 s18 ewx => ?_⟩
    have s1518 := s16.trans (s17.trans s18)
    have s18a := s15.trans s1518
    refine ⟨_, rfl, D14, _, 0, .ref r0, rfl, rfl, SqL.of (s1518 _ _ eD15), at_of (j := 0) rfl rfl, ?_⟩
    have er18 : WayAt H18 r0 wy := s1518 _ _ (sz _ _ hr0)
    have hwn : ∀ n ∈ wy, n ∈ nameWords := hWnm _ wwm
    refine ⟨encW wy, encW wy, dp_way ewx, dp_way er18, shaped_way hwn, shaped_way hwn, ?_⟩
    refine ⟨_, rfl, iteKF (by rw [eqv_way hwn]; rfl) ?_⟩
    -- every cut
    have net18 := net13.same s18a
    obtain ⟨ndx, ndd, nkv, en18, ed18, tn18⟩ := id net18
    have hTl : Tb.length ≤ 10 := by rw [pT.length_eq]; exact hM
    refine ⟨_, rfl, np, ndx, _, rfl, en18, np, s, e, Tb, rfl, net18, hTl, fun pq H19 ps s19 npq epq inn => ?_⟩
    have estz : stz (s :: ps ++ [e]) = stz (s :: ps) ++ [V.str e] := by unfold stz; rw [List.map_append]; rfl
    rw [estz] at epq
    refine ⟨_, rfl, -1, rfl, pq, _, rfl, SqT.of epq, not_whole _ _, fun pp npp => ?_⟩
    have ecut : cutV (stz (s :: ps) ++ [V.str e]) none (some (-1)) = stz (s :: ps) := cutV_last _ _
    have s20 := same_upd (o := .tup (cutV (stz (s :: ps) ++ [V.str e]) none (some (-1)))) npp
    have epp : (upd H19 pp (.tup (cutV (stz (s :: ps) ++ [V.str e]) none (some (-1))))) pp = some (.tup (stz (s :: ps))) := by rw [upd_same, ecut]
    refine ⟨pp, rfl, ⟨_, SqT.of epp⟩, for_tup (K := K) (a := pp) (xs := stz (s :: ps)) (fun i σ H' => ∃ v15 v16 v17, σ = [some (.ref a), some (.ref st), some (.ref q), some (.str s), some (.str e), some (.ref np), some (.ref x5), some (.ref u), some (.ref aw), some (.ref wa), some (.ref am), some (.ref mo), some (.ref be), some (.ref af), some (.ref D14), v15, v16, v17, none, none, none, none] ∧ Same (upd H19 pp (.tup (cutV (stz (s :: ps) ++ [V.str e]) none (some (-1))))) H')
      ⟨none, none, none, rfl, fun _ _ z => z⟩ (fun i σ H' _ ⟨_, _, _, _, s5⟩ => SqT.of (s5 _ _ epp)) ?_ ?_⟩
    · rintro i r σ H21 hr' ⟨v15, v16, v17, rfl, s21⟩
      have hi : i < (s :: ps).length := by rw [← stz_len (rs := s :: ps)]; exact (List.getElem?_eq_some_iff.mp hr').1
      obtain ⟨pl, epl⟩ := XL.get_some hi
      rw [stz_get epl] at hr'
      cases hr'
      have hplm := List.mem_of_getElem? epl
      have hpe : pl ≠ e := by
        rcases List.mem_cons.mp hplm with h | h
        · rw [h]; exact okM.net.se
        · exact ((inn.mem pl).mp h).2.1
      have s1421 : Same H13 H21 := s18a.trans (s19.trans (s20.trans s21))
      have net21 := net13.same s1421
      have lk21 := lk13.same s1421
      have lkx21 := lkx13.same s1421
      obtain ⟨ndx2, ndd2, nkv2, en21, ed21, tn21⟩ := id net21
      -- the spots
      refine ⟨_, rfl, _, rfl, (by show 2 ≤ sizeLine; decide), fun z2 nz2 => ?_⟩
      have s22 := same_upd (o := .lst [V.str s, V.str pl]) nz2
      refine ⟨_, rfl, np, ndx2, _, rfl, s22 _ _ en21, np, s, e, Tb, rfl, net21.same s22, hTl, fun q2 H23 ps2 s23 nq2 eq2 inn2 => ?_⟩
      have hfew : (s :: ps2 ++ [e]).length ≤ 8 := Inner.few okM pT inn2
      have s2123 := s22.trans s23
      refine ⟨q2, rfl, ⟨_, SqT.of eq2⟩, fun D3 nD3 => ?_⟩
      refine wk_it (walk_tup (xs := stz (s :: ps2 ++ [e]))) (fun j H' => Same H23 H' ∧ H' D3 = some (.lst (stz (((s :: ps2 ++ [e]).take j).filter fun o => decide (pl ∈ (roundsF M 10 [o]).drop 1))))) ⟨same_upd nD3, upd_same⟩ (fun j H' _ ⟨s24, _⟩ => SqT.of (s24 _ _ eq2)) ?_ ?_
      · rintro j y H24 H25 hj ⟨s24, e24⟩ ⟨rfl, ey⟩
        rw [stz_len] at hj
        obtain ⟨o, eo⟩ := XL.get_some hj
        rw [stz_get eo] at ey
        cases ey
        refine ⟨rfl, _, rfl, _, rfl, _, rfl, q, o, pl, M, rfl, lk21.same (s2123.trans s24), hM, fun H26 s26 => ⟨_, rfl, iteB (fun h1 => ?_) (fun h1 => ?_)⟩⟩
        · refine ⟨_, rfl, _, s26 _ _ e24, ?_, (fun b o eb => ?_), ?_⟩
          · rw [stz_len]
            refine Nat.lt_of_le_of_lt (List.length_filter_le _ _) ?_
            rw [List.length_take]
            exact small1000 (by omega)
          · rw [upd_ne (ne_of_none eb nD3)]
            exact s26 _ _ (s24 _ _ eb)
          · rw [upd_same, inner_get eo, List.filter_append, List.filter_cons, if_pos h1]
            unfold stz
            rw [List.map_append]
            rfl
        · refine ⟨s24.trans s26, ?_⟩
          rw [inner_get eo, List.filter_append, List.filter_cons, if_neg (by rw [h1]; exact Bool.false_ne_true), List.filter_nil, List.append_nil]
          exact s26 _ _ e24
      rintro H24 ⟨s24, e24⟩
      rw [stz_len, List.take_length] at e24
      have ez24 : H24 z2 = some (.lst [V.str s, V.str pl]) := s24 _ _ (s23 _ _ upd_same)
      have s2124 := s2123.trans s24
      have hFl : ((s :: ps2 ++ [e]).filter fun o => decide (pl ∈ (roundsF M 10 [o]).drop 1)).length ≤ 8 := Nat.le_trans (List.length_filter_le _ _) hfew
      have hFm : ∀ o, o ∈ ((s :: ps2 ++ [e]).filter fun o => decide (pl ∈ (roundsF M 10 [o]).drop 1)) ↔ Leads M o pl := fun o => by
        rw [List.mem_filter, decide_eq_true_eq, rounds_leads okM.net.ranked okM.net.low]
        refine ⟨fun h => h.2, fun h => ⟨?_, h⟩⟩
        obtain ⟨⟨l, hl, hlo⟩, _⟩ := leads_ends h
        by_cases h1 : o = s
        · rw [h1]; exact List.mem_cons_self
        · by_cases h2 : o = e
          · rw [h2]; exact List.mem_append_right _ (List.mem_singleton.mpr rfl)
          · exact List.mem_append_left _ (List.mem_cons_of_mem _ ((inn2.mem o).mpr ⟨h1, h2, l, pT.mem_iff.mpr hl, .inl hlo.symm⟩))
      generalize ((s :: ps2 ++ [e]).filter fun o => decide (pl ∈ (roundsF M 10 [o]).drop 1)) = FS at e24 hFl hFm
      refine ⟨z2, D3, _, _, rfl, rfl, ez24, e24, ?_, fun u2 nu2 => ⟨[some (.ref a), some (.ref st), some (.ref q), some (.str s), some (.str e), some (.ref np), some (.ref x5), some (.ref u), some (.ref aw), some (.ref wa), some (.ref am), some (.ref mo), some (.ref be), some (.ref af), some (.ref D14), some (.str pl), some (.ref u2), v17, none, none, none, none], rfl, ?_⟩⟩
      · rw [stz_len]
        exact Nat.le_of_lt (small1000 (by show 2 + FS.length ≤ 1000; omega))
      have s25 := same_upd (o := .lst ([V.str s, V.str pl] ++ stz FS)) nu2
      have eu25 : (upd H24 u2 (.lst ([V.str s, V.str pl] ++ stz FS))) u2 = some (.lst (stz (s :: pl :: FS))) := upd_same
      have s2125 := s2124.trans s25
      have s1425 := s1421.trans s2125
      have hS : ∀ o, o ∈ s :: pl :: FS ↔ o = s ∨ o = pl ∨ Leads M o pl := fun o => by
        rw [List.mem_cons, List.mem_cons, hFm]
      generalize upd H24 u2 (.lst ([V.str s, V.str pl] ++ stz FS)) = H25 at s25 eu25 s2125 s1425
      -- the load over the cut
      refine ⟨_, rfl, _, rfl, np, x5, s, e, Tb, Xs, rk, rfl, net13.same s1425, lkx13.same s1425, okU.perm (pT.symm.append_right Xs), fun oq H28 U pU s28 noq neto => ?_⟩
      have hU : U.Perm (M ++ Xs) := pU.trans (pT.append_right Xs)
      have s1428 := s1425.trans s28
      refine ⟨_, rfl, be, _, _, rfl, s1428 _ _ ebe13, okU.net.nd, hul, fun rb2 H29 s29 nrb2 rdb2 => ?_⟩
      obtain ⟨hx1, hx2⟩ := hcut U (s :: pl :: FS) pl hU hS hpe
      have hMU : ∀ l ∈ M, l ∈ U := fun l hl => hU.mem_iff.mpr (List.mem_append_left _ hl)
      refine ⟨_, rfl, oq, rb2, u2, s, e, U, fb, _, s :: pl :: FS, rfl, neto.same s29, by rw [hU.length_eq]; exact hUl, (hU.map (·.1)).nodup_iff.mpr okU.net.nd, rdb2, fun l hl => List.mem_map.mpr ⟨l, hU.mem_iff.mp hl, rfl⟩, s29 _ _ (s28 _ _ eu25), fun x hx => ?_, hx2, fun tr H30 s30 ratr => ⟨[some (.ref a), some (.ref st), some (.ref q), some (.str s), some (.str e), some (.ref np), some (.ref x5), some (.ref u), some (.ref aw), some (.ref wa), some (.ref am), some (.ref mo), some (.ref be), some (.ref af), some (.ref D14), some (.str pl), some (.ref u2), some (.ref tr), none, none, none, none], rfl, ?_⟩⟩
      · rcases (hS x).mp hx with h | h | h
        · exact .inl h
        · rcases List.mem_cons.mp hplm with h2 | h2
          · exact .inl (h.trans h2)
          · obtain ⟨_, _, l, hl, h3⟩ := (inn.mem pl).mp h2
            rw [h]
            exact .inr (.inr ⟨l, hMU l (pT.mem_iff.mp hl), h3⟩)
        · obtain ⟨⟨l, hl, hlo⟩, _⟩ := leads_ends h
          exact .inr (.inr ⟨l, hMU l hl, .inl hlo.symm⟩)
      rw [hx1] at ratr
      have s1430 := s1428.trans (s29.trans s30)
      refine ⟨_, rfl, _, rfl, am, Am, rfl, SqL.of (s1430 _ _ eam13), fun r dx nr ndx nex => ⟨r, dx, Am.sum, 3, rfl, upd_same, by decide, by decide, fun H31 s31' e31' => ⟨rfl, ?_⟩⟩⟩
      obtain ⟨s31, ra⟩ := rat_facts nr ndx s31' e31'
      have ratr31 := RatAt.same ratr s31
      obtain ⟨dt, et⟩ := id ratr31
      obtain ⟨da, ea⟩ := id ra
      refine ⟨tr, r, dt, da, _, _, rfl, rfl, et, ea, tr, r, Am.sum, Am.sum, rfl, ratr31, ra, _, rfl, ?_⟩
      refine ⟨_, rfl, iteKF (by rw [decide_eq_true rfl]; rfl) ⟨_, _, _, rfl, s21.trans (s2125.trans (s28.trans (s29.trans (s30.trans s31))))⟩⟩
    · rintro σ H21 ⟨v15, v16, v17, rfl, s21⟩
      exact k _
end
end XW

/-! What the top has written, and the law's own head. -/
namespace XW
open PySem L2 XL XSt XG
section
variable {K : PySem.W.Frag} {h : Heap} {mg : Str → Option Value} {C : Addr}
theorem dfe_Lstart (X : K.In h) (G : h.Ns mainGlobals mg) {f : Addr} {od an : Option Addr} {osl : Array (Option Value)} {oc kV dc pm cd ct : Value} (a : PySem.W.nsIn K mainGlobals "_law_start" = some (some (.ref f))) (l : K.lookup f = some ⟨oc, od, .func (PySem.W.fnOf "_law_start" "_law_start" (defArgs sLStart) (defBody sLStart) (defScope sLStart) .none kV dc pm an cd ct), osl⟩) (c : PySem.W.codeIn K cd "_law_start" = true) (k : PySem.W.keepIn K (.ref f) = true) : DfE K mg "_law_start" sLStart ["_law_script"] :=
  ⟨f, _, fun_mk (st := sLStart) l c k, (fun_mk (st := sLStart) l c k).binds (ps := ["_law_script"]) fun _ _ _ _ _ _ us hl => match us, hl with | [_], _ => rfl, PySem.W.mg_of X G a⟩
theorem dfe_Ltake (X : K.In h) (G : h.Ns mainGlobals mg) {f : Addr} {od an : Option Addr} {osl : Array (Option Value)} {oc kV dc pm cd ct : Value} (a : PySem.W.nsIn K mainGlobals "_law_take" = some (some (.ref f))) (l : K.lookup f = some ⟨oc, od, .func (PySem.W.fnOf "_law_take" "_law_take" (defArgs sLTake) (defBody sLTake) (defScope sLTake) .none kV dc pm an cd ct), osl⟩) (c : PySem.W.codeIn K cd "_law_take" = true) (k : PySem.W.keepIn K (.ref f) = true) : DfE K mg "_law_take" sLTake ["_law_state", "_law_limit"] :=
  ⟨f, _, fun_mk (st := sLTake) l c k, (fun_mk (st := sLTake) l c k).binds (ps := ["_law_state", "_law_limit"]) fun _ _ _ _ _ _ us hl => match us, hl with | [_, _], _ => rfl, PySem.W.mg_of X G a⟩
theorem dfe_Lshuf (X : K.In h) (G : h.Ns mainGlobals mg) {f : Addr} {od an : Option Addr} {osl : Array (Option Value)} {oc kV dc pm cd ct : Value} (a : PySem.W.nsIn K mainGlobals "_law_shuffled" = some (some (.ref f))) (l : K.lookup f = some ⟨oc, od, .func (PySem.W.fnOf "_law_shuffled" "_law_shuffled" (defArgs sLShuffled) (defBody sLShuffled) (defScope sLShuffled) .none kV dc pm an cd ct), osl⟩) (c : PySem.W.codeIn K cd "_law_shuffled" = true) (k : PySem.W.keepIn K (.ref f) = true) : DfE K mg "_law_shuffled" sLShuffled ["_law_state", "_law_items"] :=
  ⟨f, _, fun_mk (st := sLShuffled) l c k, (fun_mk (st := sLShuffled) l c k).binds (ps := ["_law_state", "_law_items"]) fun _ _ _ _ _ _ us hl => match us, hl with | [_, _], _ => rfl, PySem.W.mg_of X G a⟩
theorem dfe_Lgrown (X : K.In h) (G : h.Ns mainGlobals mg) {f : Addr} {od an : Option Addr} {osl : Array (Option Value)} {oc kV dc pm cd ct : Value} (a : PySem.W.nsIn K mainGlobals "_law_grown" = some (some (.ref f))) (l : K.lookup f = some ⟨oc, od, .func (PySem.W.fnOf "_law_grown" "_law_grown" (defArgs sLGrown) (defBody sLGrown) (defScope sLGrown) .none kV dc pm an cd ct), osl⟩) (c : PySem.W.codeIn K cd "_law_grown" = true) (k : PySem.W.keepIn K (.ref f) = true) : DfE K mg "_law_grown" sLGrown ["_law_state", "_law_turns", "_law_wild"] :=
  ⟨f, _, fun_mk (st := sLGrown) l c k, (fun_mk (st := sLGrown) l c k).binds (ps := ["_law_state", "_law_turns", "_law_wild"]) fun _ _ _ _ _ _ us hl => match us, hl with | [_, _, _], _ => rfl, PySem.W.mg_of X G a⟩
theorem dfe_Lnamed (X : K.In h) (G : h.Ns mainGlobals mg) {f : Addr} {od an : Option Addr} {osl : Array (Option Value)} {oc kV dc pm cd ct : Value} (a : PySem.W.nsIn K mainGlobals "_law_named" = some (some (.ref f))) (l : K.lookup f = some ⟨oc, od, .func (PySem.W.fnOf "_law_named" "_law_named" (defArgs sLNamed) (defBody sLNamed) (defScope sLNamed) .none kV dc pm an cd ct), osl⟩) (c : PySem.W.codeIn K cd "_law_named" = true) (k : PySem.W.keepIn K (.ref f) = true) : DfE K mg "_law_named" sLNamed ["_law_state", "_law_links", "_law_count"] :=
  ⟨f, _, fun_mk (st := sLNamed) l c k, (fun_mk (st := sLNamed) l c k).binds (ps := ["_law_state", "_law_links", "_law_count"]) fun _ _ _ _ _ _ us hl => match us, hl with | [_, _, _], _ => rfl, PySem.W.mg_of X G a⟩
theorem dfe_Lnetw (X : K.In h) (G : h.Ns mainGlobals mg) {f : Addr} {od an : Option Addr} {osl : Array (Option Value)} {oc kV dc pm cd ct : Value} (a : PySem.W.nsIn K mainGlobals "_law_network" = some (some (.ref f))) (l : K.lookup f = some ⟨oc, od, .func (PySem.W.fnOf "_law_network" "_law_network" (defArgs sLNetwork) (defBody sLNetwork) (defScope sLNetwork) .none kV dc pm an cd ct), osl⟩) (c : PySem.W.codeIn K cd "_law_network" = true) (k : PySem.W.keepIn K (.ref f) = true) : DfE K mg "_law_network" sLNetwork ["_law_state", "_law_wild"] :=
  ⟨f, _, fun_mk (st := sLNetwork) l c k, (fun_mk (st := sLNetwork) l c k).binds (ps := ["_law_state", "_law_wild"]) fun _ _ _ _ _ _ us hl => match us, hl with | [_, _], _ => rfl, PySem.W.mg_of X G a⟩
theorem dfe_Lways (X : K.In h) (G : h.Ns mainGlobals mg) {f : Addr} {od an : Option Addr} {osl : Array (Option Value)} {oc kV dc pm cd ct : Value} (a : PySem.W.nsIn K mainGlobals "_law_ways" = some (some (.ref f))) (l : K.lookup f = some ⟨oc, od, .func (PySem.W.fnOf "_law_ways" "_law_ways" (defArgs sLWays) (defBody sLWays) (defScope sLWays) .none kV dc pm an cd ct), osl⟩) (c : PySem.W.codeIn K cd "_law_ways" = true) (k : PySem.W.keepIn K (.ref f) = true) : DfE K mg "_law_ways" sLWays ["_law_links", "_law_start_here", "_law_end"] :=
  ⟨f, _, fun_mk (st := sLWays) l c k, (fun_mk (st := sLWays) l c k).binds (ps := ["_law_links", "_law_start_here", "_law_end"]) fun _ _ _ _ _ _ us hl => match us, hl with | [_, _, _], _ => rfl, PySem.W.mg_of X G a⟩
theorem dfe_Lleads (X : K.In h) (G : h.Ns mainGlobals mg) {f : Addr} {od an : Option Addr} {osl : Array (Option Value)} {oc kV dc pm cd ct : Value} (a : PySem.W.nsIn K mainGlobals "_law_leads" = some (some (.ref f))) (l : K.lookup f = some ⟨oc, od, .func (PySem.W.fnOf "_law_leads" "_law_leads" (defArgs sLLeads) (defBody sLLeads) (defScope sLLeads) .none kV dc pm an cd ct), osl⟩) (c : PySem.W.codeIn K cd "_law_leads" = true) (k : PySem.W.keepIn K (.ref f) = true) : DfE K mg "_law_leads" sLLeads ["_law_links", "_law_first", "_law_second"] :=
  ⟨f, _, fun_mk (st := sLLeads) l c k, (fun_mk (st := sLLeads) l c k).binds (ps := ["_law_links", "_law_first", "_law_second"]) fun _ _ _ _ _ _ us hl => match us, hl with | [_, _, _], _ => rfl, PySem.W.mg_of X G a⟩
theorem dfe_Lextra (X : K.In h) (G : h.Ns mainGlobals mg) {f : Addr} {od an : Option Addr} {osl : Array (Option Value)} {oc kV dc pm cd ct : Value} (a : PySem.W.nsIn K mainGlobals "_law_extra" = some (some (.ref f))) (l : K.lookup f = some ⟨oc, od, .func (PySem.W.fnOf "_law_extra" "_law_extra" (defArgs sLExtra) (defBody sLExtra) (defScope sLExtra) .none kV dc pm an cd ct), osl⟩) (c : PySem.W.codeIn K cd "_law_extra" = true) (k : PySem.W.keepIn K (.ref f) = true) : DfE K mg "_law_extra" sLExtra ["_law_state", "_law_links", "_law_start_here", "_law_end", "_law_along"] :=
  ⟨f, _, fun_mk (st := sLExtra) l c k, (fun_mk (st := sLExtra) l c k).binds (ps := ["_law_state", "_law_links", "_law_start_here", "_law_end", "_law_along"]) fun _ _ _ _ _ _ us hl => match us, hl with | [_, _, _, _, _], _ => rfl, PySem.W.mg_of X G a⟩
theorem dfe_Lloads (X : K.In h) (G : h.Ns mainGlobals mg) {f : Addr} {od an : Option Addr} {osl : Array (Option Value)} {oc kV dc pm cd ct : Value} (a : PySem.W.nsIn K mainGlobals "_law_loads" = some (some (.ref f))) (l : K.lookup f = some ⟨oc, od, .func (PySem.W.fnOf "_law_loads" "_law_loads" (defArgs sLLoads) (defBody sLLoads) (defScope sLLoads) .none kV dc pm an cd ct), osl⟩) (c : PySem.W.codeIn K cd "_law_loads" = true) (k : PySem.W.keepIn K (.ref f) = true) : DfE K mg "_law_loads" sLLoads ["_law_links", "_law_ways_here", "_law_amounts_here"] :=
  ⟨f, _, fun_mk (st := sLLoads) l c k, (fun_mk (st := sLLoads) l c k).binds (ps := ["_law_links", "_law_ways_here", "_law_amounts_here"]) fun _ _ _ _ _ _ us hl => match us, hl with | [_, _, _], _ => rfl, PySem.W.mg_of X G a⟩
theorem dfe_Lamounts (X : K.In h) (G : h.Ns mainGlobals mg) {f : Addr} {od an : Option Addr} {osl : Array (Option Value)} {oc kV dc pm cd ct : Value} (a : PySem.W.nsIn K mainGlobals "_law_amounts" = some (some (.ref f))) (l : K.lookup f = some ⟨oc, od, .func (PySem.W.fnOf "_law_amounts" "_law_amounts" (defArgs sLAmounts) (defBody sLAmounts) (defScope sLAmounts) .none kV dc pm an cd ct), osl⟩) (c : PySem.W.codeIn K cd "_law_amounts" = true) (k : PySem.W.keepIn K (.ref f) = true) : DfE K mg "_law_amounts" sLAmounts ["_law_state", "_law_ways_here", "_law_most"] :=
  ⟨f, _, fun_mk (st := sLAmounts) l c k, (fun_mk (st := sLAmounts) l c k).binds (ps := ["_law_state", "_law_ways_here", "_law_most"]) fun _ _ _ _ _ _ us hl => match us, hl with | [_, _, _], _ => rfl, PySem.W.mg_of X G a⟩
theorem dfe_Lratios (X : K.In h) (G : h.Ns mainGlobals mg) {f : Addr} {od an : Option Addr} {osl : Array (Option Value)} {oc kV dc pm cd ct : Value} (a : PySem.W.nsIn K mainGlobals "_law_ratios" = some (some (.ref f))) (l : K.lookup f = some ⟨oc, od, .func (PySem.W.fnOf "_law_ratios" "_law_ratios" (defArgs sLRatios) (defBody sLRatios) (defScope sLRatios) .none kV dc pm an cd ct), osl⟩) (c : PySem.W.codeIn K cd "_law_ratios" = true) (k : PySem.W.keepIn K (.ref f) = true) : DfE K mg "_law_ratios" sLRatios ["_law_loads_here", "_law_bottom"] :=
  ⟨f, _, fun_mk (st := sLRatios) l c k, (fun_mk (st := sLRatios) l c k).binds (ps := ["_law_loads_here", "_law_bottom"]) fun _ _ _ _ _ _ us hl => match us, hl with | [_, _], _ => rfl, PySem.W.mg_of X G a⟩
theorem dfe_Mvalid (X : K.In h) (G : h.Ns mainGlobals mg) {f : Addr} {od an : Option Addr} {osl : Array (Option Value)} {oc kV dc pm cd ct : Value} (a : PySem.W.nsIn K mainGlobals "valid_name" = some (some (.ref f))) (l : K.lookup f = some ⟨oc, od, .func (PySem.W.fnOf "valid_name" "valid_name" (defArgs sValid) (defBody sValid) (defScope sValid) .none kV dc pm an cd ct), osl⟩) (c : PySem.W.codeIn K cd "valid_name" = true) (k : PySem.W.keepIn K (.ref f) = true) : DfE K mg "valid_name" sValid ["text"] :=
  ⟨f, _, fun_mk (st := sValid) l c k, (fun_mk (st := sValid) l c k).binds (ps := ["text"]) fun _ _ _ _ _ _ us hl => match us, hl with | [_], _ => rfl, PySem.W.mg_of X G a⟩
theorem dfe_Mcheck (X : K.In h) (G : h.Ns mainGlobals mg) {f : Addr} {od an : Option Addr} {osl : Array (Option Value)} {oc kV dc pm cd ct : Value} (a : PySem.W.nsIn K mainGlobals "check_names" = some (some (.ref f))) (l : K.lookup f = some ⟨oc, od, .func (PySem.W.fnOf "check_names" "check_names" (defArgs sCheckNames) (defBody sCheckNames) (defScope sCheckNames) .none kV dc pm an cd ct), osl⟩) (c : PySem.W.codeIn K cd "check_names" = true) (k : PySem.W.keepIn K (.ref f) = true) : DfE K mg "check_names" sCheckNames ["links", "start", "end"] :=
  ⟨f, _, fun_mk (st := sCheckNames) l c k, (fun_mk (st := sCheckNames) l c k).binds (ps := ["links", "start", "end"]) fun _ _ _ _ _ _ us hl => match us, hl with | [_, _, _], _ => rfl, PySem.W.mg_of X G a⟩
theorem dfe_Mfollow (X : K.In h) (G : h.Ns mainGlobals mg) {f : Addr} {od an : Option Addr} {osl : Array (Option Value)} {oc kV dc pm cd ct : Value} (a : PySem.W.nsIn K mainGlobals "followed" = some (some (.ref f))) (l : K.lookup f = some ⟨oc, od, .func (PySem.W.fnOf "followed" "followed" (defArgs sFollowed) (defBody sFollowed) (defScope sFollowed) .none kV dc pm an cd ct), osl⟩) (c : PySem.W.codeIn K cd "followed" = true) (k : PySem.W.keepIn K (.ref f) = true) : DfE K mg "followed" sFollowed ["links", "place"] :=
  ⟨f, _, fun_mk (st := sFollowed) l c k, (fun_mk (st := sFollowed) l c k).binds (ps := ["links", "place"]) fun _ _ _ _ _ _ us hl => match us, hl with | [_, _], _ => rfl, PySem.W.mg_of X G a⟩
theorem dfe_Museful (X : K.In h) (G : h.Ns mainGlobals mg) {f : Addr} {od an : Option Addr} {osl : Array (Option Value)} {oc kV dc pm cd ct : Value} (a : PySem.W.nsIn K mainGlobals "useful_links" = some (some (.ref f))) (l : K.lookup f = some ⟨oc, od, .func (PySem.W.fnOf "useful_links" "useful_links" (defArgs sUseful) (defBody sUseful) (defScope sUseful) .none kV dc pm an cd ct), osl⟩) (c : PySem.W.codeIn K cd "useful_links" = true) (k : PySem.W.keepIn K (.ref f) = true) : DfE K mg "useful_links" sUseful ["links", "start", "end"] :=
  ⟨f, _, fun_mk (st := sUseful) l c k, (fun_mk (st := sUseful) l c k).binds (ps := ["links", "start", "end"]) fun _ _ _ _ _ _ us hl => match us, hl with | [_, _, _], _ => rfl, PySem.W.mg_of X G a⟩
theorem dfe_Gchkl (X : K.In h) (G : h.Ns mainGlobals mg) {f : Addr} {od an : Option Addr} {osl : Array (Option Value)} {oc kV dc pm cd ct : Value} (a : PySem.W.nsIn K mainGlobals "check_loads" = some (some (.ref f))) (l : K.lookup f = some ⟨oc, od, .func (PySem.W.fnOf "check_loads" "check_loads" (defArgs sCheckLoads) (defBody sCheckLoads) (defScope sCheckLoads) .none kV dc pm an cd ct), osl⟩) (c : PySem.W.codeIn K cd "check_loads" = true) (k : PySem.W.keepIn K (.ref f) = true) : DfE K mg "check_loads" sCheckLoads ["network", "loads"] :=
  ⟨f, _, fun_mk (st := sCheckLoads) l c k, (fun_mk (st := sCheckLoads) l c k).binds (ps := ["network", "loads"]) fun _ _ _ _ _ _ us hl => match us, hl with | [_, _], _ => rfl, PySem.W.mg_of X G a⟩
theorem dfe_Gbears (X : K.In h) (G : h.Ns mainGlobals mg) {f : Addr} {od an : Option Addr} {osl : Array (Option Value)} {oc kV dc pm cd ct : Value} (a : PySem.W.nsIn K mainGlobals "bears" = some (some (.ref f))) (l : K.lookup f = some ⟨oc, od, .func (PySem.W.fnOf "bears" "bears" (defArgs sBears) (defBody sBears) (defScope sBears) .none kV dc pm an cd ct), osl⟩) (c : PySem.W.codeIn K cd "bears" = true) (k : PySem.W.keepIn K (.ref f) = true) : DfE K mg "bears" sBears ["way", "before", "after"] :=
  ⟨f, _, fun_mk (st := sBears) l c k, (fun_mk (st := sBears) l c k).binds (ps := ["way", "before", "after"]) fun _ _ _ _ _ _ us hl => match us, hl with | [_, _, _], _ => rfl, PySem.W.mg_of X G a⟩
theorem dfe_Gwit (X : K.In h) (G : h.Ns mainGlobals mg) {f : Addr} {od an : Option Addr} {osl : Array (Option Value)} {oc kV dc pm cd ct : Value} (a : PySem.W.nsIn K mainGlobals "witness" = some (some (.ref f))) (l : K.lookup f = some ⟨oc, od, .func (PySem.W.fnOf "witness" "witness" (defArgs sWitness) (defBody sWitness) (defScope sWitness) .none kV dc pm an cd ct), osl⟩) (c : PySem.W.codeIn K cd "witness" = true) (k : PySem.W.keepIn K (.ref f) = true) : DfE K mg "witness" sWitness ["network", "before", "after"] :=
  ⟨f, _, fun_mk (st := sWitness) l c k, (fun_mk (st := sWitness) l c k).binds (ps := ["network", "before", "after"]) fun _ _ _ _ _ _ us hl => match us, hl with | [_, _, _], _ => rfl, PySem.W.mg_of X G a⟩
theorem dfe_Gcut (X : K.In h) (G : h.Ns mainGlobals mg) {f : Addr} {od an : Option Addr} {osl : Array (Option Value)} {oc kV dc pm cd ct : Value} (a : PySem.W.nsIn K mainGlobals "cut_load" = some (some (.ref f))) (l : K.lookup f = some ⟨oc, od, .func (PySem.W.fnOf "cut_load" "cut_load" (defArgs sCutLoad) (defBody sCutLoad) (defScope sCutLoad) .none kV dc pm an cd ct), osl⟩) (c : PySem.W.codeIn K cd "cut_load" = true) (k : PySem.W.keepIn K (.ref f) = true) : DfE K mg "cut_load" sCutLoad ["network", "loads", "places"] :=
  ⟨f, _, fun_mk (st := sCutLoad) l c k, (fun_mk (st := sCutLoad) l c k).binds (ps := ["network", "loads", "places"]) fun _ _ _ _ _ _ us hl => match us, hl with | [_, _, _], _ => rfl, PySem.W.mg_of X G a⟩
theorem dfe_Gopened (X : K.In h) (G : h.Ns mainGlobals mg) {f : Addr} {od an : Option Addr} {osl : Array (Option Value)} {oc kV dc pm cd ct : Value} (a : PySem.W.nsIn K mainGlobals "opened" = some (some (.ref f))) (l : K.lookup f = some ⟨oc, od, .func (PySem.W.fnOf "opened" "opened" (defArgs sOpened) (defBody sOpened) (defScope sOpened) .none kV dc pm an cd ct), osl⟩) (c : PySem.W.codeIn K cd "opened" = true) (k : PySem.W.keepIn K (.ref f) = true) : DfE K mg "opened" sOpened ["network", "extra"] :=
  ⟨f, _, fun_mk (st := sOpened) l c k, (fun_mk (st := sOpened) l c k).binds (ps := ["network", "extra"]) fun _ _ _ _ _ _ us hl => match us, hl with | [_, _], _ => rfl, PySem.W.mg_of X G a⟩
theorem dfe_Rasr (X : K.In h) (G : h.Ns mainGlobals mg) {f : Addr} {od an : Option Addr} {osl : Array (Option Value)} {oc kV dc pm cd ct : Value} (a : PySem.W.nsIn K mainGlobals "as_ratio" = some (some (.ref f))) (l : K.lookup f = some ⟨oc, od, .func (PySem.W.fnOf "as_ratio" "as_ratio" (defArgs sAsRatio) (defBody sAsRatio) (defScope sAsRatio) .none kV dc pm an cd ct), osl⟩) (c : PySem.W.codeIn K cd "as_ratio" = true) (k : PySem.W.keepIn K (.ref f) = true) : DfE K mg "as_ratio" sAsRatio ["value"] :=
  ⟨f, _, fun_mk (st := sAsRatio) l c k, (fun_mk (st := sAsRatio) l c k).binds (ps := ["value"]) fun _ _ _ _ _ _ us hl => match us, hl with | [_], _ => rfl, PySem.W.mg_of X G a⟩
theorem dfe_Rdiv (X : K.In h) (G : h.Ns mainGlobals mg) {f : Addr} {od an : Option Addr} {osl : Array (Option Value)} {oc kV dc pm cd ct : Value} (a : PySem.W.nsIn K mainGlobals "common_divisor" = some (some (.ref f))) (l : K.lookup f = some ⟨oc, od, .func (PySem.W.fnOf "common_divisor" "common_divisor" (defArgs sDivisor) (defBody sDivisor) (defScope sDivisor) .none kV dc pm an cd ct), osl⟩) (c : PySem.W.codeIn K cd "common_divisor" = true) (k : PySem.W.keepIn K (.ref f) = true) : DfE K mg "common_divisor" sDivisor ["first", "second"] :=
  ⟨f, _, fun_mk (st := sDivisor) l c k, (fun_mk (st := sDivisor) l c k).binds (ps := ["first", "second"]) fun _ _ _ _ _ _ us hl => match us, hl with | [_, _], _ => rfl, PySem.W.mg_of X G a⟩
theorem prp_Rsign {p : Addr} {f : Addr} {od an : Option Addr} {osl : Array (Option Value)} {oc kV dc pm cd ct : Value} {rest : List Value} (a : PySem.W.findIn K (.ref C) "sign" = some (some (.ref p))) (g : PySem.W.specialIn K (.ref p) "__get__" = some (some (.builtin "property.__get__"))) (t : PySem.W.takesIn K (.ref p) = some true) (r : PySem.W.recIn K p "property" = some (.ref f :: rest)) (l : K.lookup f = some ⟨oc, od, .func (PySem.W.fnOf "sign" "Ratio.sign" (defArgs sRSign) (defBody sRSign) (defScope sRSign) .none kV dc pm an cd ct), osl⟩) (c : PySem.W.codeIn K cd "Ratio.sign" = true) (k : PySem.W.keepIn K (.ref f) = true) : PrpD K C "sign" "Ratio.sign" sRSign :=
  ⟨p, f, _, fun_mk (st := sRSign) l c k, (fun_mk (st := sRSign) l c k).binds (ps := ["self"]) fun _ _ _ _ _ _ us hl => match us, hl with | [_], _ => rfl, ⟨a, g, t, rest, r⟩⟩
theorem prp_Nnames {p : Addr} {f : Addr} {od an : Option Addr} {osl : Array (Option Value)} {oc kV dc pm cd ct : Value} {rest : List Value} (a : PySem.W.findIn K (.ref C) "names" = some (some (.ref p))) (g : PySem.W.specialIn K (.ref p) "__get__" = some (some (.builtin "property.__get__"))) (t : PySem.W.takesIn K (.ref p) = some true) (r : PySem.W.recIn K p "property" = some (.ref f :: rest)) (l : K.lookup f = some ⟨oc, od, .func (PySem.W.fnOf "names" "Network.names" (defArgs sNNames) (defBody sNNames) (defScope sNNames) .none kV dc pm an cd ct), osl⟩) (c : PySem.W.codeIn K cd "Network.names" = true) (k : PySem.W.keepIn K (.ref f) = true) : PrpD K C "names" "Network.names" sNNames :=
  ⟨p, f, _, fun_mk (st := sNNames) l c k, (fun_mk (st := sNNames) l c k).binds (ps := ["self"]) fun _ _ _ _ _ _ us hl => match us, hl with | [_], _ => rfl, ⟨a, g, t, rest, r⟩⟩
theorem prp_Nstart {p : Addr} {f : Addr} {od an : Option Addr} {osl : Array (Option Value)} {oc kV dc pm cd ct : Value} {rest : List Value} (a : PySem.W.findIn K (.ref C) "start" = some (some (.ref p))) (g : PySem.W.specialIn K (.ref p) "__get__" = some (some (.builtin "property.__get__"))) (t : PySem.W.takesIn K (.ref p) = some true) (r : PySem.W.recIn K p "property" = some (.ref f :: rest)) (l : K.lookup f = some ⟨oc, od, .func (PySem.W.fnOf "start" "Network.start" (defArgs sNStart) (defBody sNStart) (defScope sNStart) .none kV dc pm an cd ct), osl⟩) (c : PySem.W.codeIn K cd "Network.start" = true) (k : PySem.W.keepIn K (.ref f) = true) : PrpD K C "start" "Network.start" sNStart :=
  ⟨p, f, _, fun_mk (st := sNStart) l c k, (fun_mk (st := sNStart) l c k).binds (ps := ["self"]) fun _ _ _ _ _ _ us hl => match us, hl with | [_], _ => rfl, ⟨a, g, t, rest, r⟩⟩
theorem prp_Nstop {p : Addr} {f : Addr} {od an : Option Addr} {osl : Array (Option Value)} {oc kV dc pm cd ct : Value} {rest : List Value} (a : PySem.W.findIn K (.ref C) "end" = some (some (.ref p))) (g : PySem.W.specialIn K (.ref p) "__get__" = some (some (.builtin "property.__get__"))) (t : PySem.W.takesIn K (.ref p) = some true) (r : PySem.W.recIn K p "property" = some (.ref f :: rest)) (l : K.lookup f = some ⟨oc, od, .func (PySem.W.fnOf "end" "Network.end" (defArgs sNEnd) (defBody sNEnd) (defScope sNEnd) .none kV dc pm an cd ct), osl⟩) (c : PySem.W.codeIn K cd "Network.end" = true) (k : PySem.W.keepIn K (.ref f) = true) : PrpD K C "end" "Network.end" sNEnd :=
  ⟨p, f, _, fun_mk (st := sNEnd) l c k, (fun_mk (st := sNEnd) l c k).binds (ps := ["self"]) fun _ _ _ _ _ _ us hl => match us, hl with | [_], _ => rfl, ⟨a, g, t, rest, r⟩⟩
theorem prp_Nplaces {p : Addr} {f : Addr} {od an : Option Addr} {osl : Array (Option Value)} {oc kV dc pm cd ct : Value} {rest : List Value} (a : PySem.W.findIn K (.ref C) "places" = some (some (.ref p))) (g : PySem.W.specialIn K (.ref p) "__get__" = some (some (.builtin "property.__get__"))) (t : PySem.W.takesIn K (.ref p) = some true) (r : PySem.W.recIn K p "property" = some (.ref f :: rest)) (l : K.lookup f = some ⟨oc, od, .func (PySem.W.fnOf "places" "Network.places" (defArgs sNPlaces) (defBody sNPlaces) (defScope sNPlaces) .none kV dc pm an cd ct), osl⟩) (c : PySem.W.codeIn K cd "Network.places" = true) (k : PySem.W.keepIn K (.ref f) = true) : PrpD K C "places" "Network.places" sNPlaces :=
  ⟨p, f, _, fun_mk (st := sNPlaces) l c k, (fun_mk (st := sNPlaces) l c k).binds (ps := ["self"]) fun _ _ _ _ _ _ us hl => match us, hl with | [_], _ => rfl, ⟨a, g, t, rest, r⟩⟩
theorem m_below {f : Addr} {od an : Option Addr} {osl : Array (Option Value)} {oc kV dc pm cd ct : Value} (a : PySem.W.findIn K (.ref C) "below" = some (some (.ref f))) (i : PySem.W.isFn K (.ref f) = true) (l : K.lookup f = some ⟨oc, od, .func (PySem.W.fnOf "below" "Ratio.below" (defArgs sRBelow) (defBody sRBelow) (defScope sRBelow) .none kV dc pm an cd ct), osl⟩) (c : PySem.W.codeIn K cd "Ratio.below" = true) (k : PySem.W.keepIn K (.ref f) = true) : ∃ f fd, Fun K "below" "Ratio.below" sRBelow f fd ∧ Binds K fd ["self", "value"] [] ∧ Meth K C "below" f :=
  ⟨f, _, fun_mk (st := sRBelow) l c k, (fun_mk (st := sRBelow) l c k).binds (ps := ["self", "value"]) fun _ _ _ _ _ _ us hl => match us, hl with | [_, _], _ => rfl, a, i, k⟩
theorem m_add {f : Addr} {od an : Option Addr} {osl : Array (Option Value)} {oc kV dc pm cd ct : Value} (a : PySem.W.findIn K (.ref C) "__add__" = some (some (.ref f))) (i : PySem.W.isFn K (.ref f) = true) (sf : PySem.W.selfFirst K C = true) (l : K.lookup f = some ⟨oc, od, .func (PySem.W.fnOf "__add__" "Ratio.__add__" (defArgs sRAdd) (defBody sRAdd) (defScope sRAdd) .none kV dc pm an cd ct), osl⟩) (c : PySem.W.codeIn K cd "Ratio.__add__" = true) (k : PySem.W.keepIn K (.ref f) = true) : ∃ f fd, Fun K "__add__" "Ratio.__add__" sRAdd f fd ∧ Binds K fd ["self", "other"] [] ∧ PySem.W.selfFirst K C = true ∧ PySem.W.findIn K (.ref C) "__add__" = some (some (.ref f)) ∧ PySem.W.isFn K (.ref f) = true :=
  ⟨f, _, fun_mk (st := sRAdd) l c k, (fun_mk (st := sRAdd) l c k).binds (ps := ["self", "other"]) fun _ _ _ _ _ _ us hl => match us, hl with | [_, _], _ => rfl, sf, a, i⟩
theorem m_eq {f : Addr} {od an : Option Addr} {osl : Array (Option Value)} {oc kV dc pm cd ct : Value} (a : PySem.W.findIn K (.ref C) "__eq__" = some (some (.ref f))) (i : PySem.W.isFn K (.ref f) = true) (ne : PySem.W.findIn K (.ref C) "__ne__" = some (some (.builtin "object.__ne__"))) (sb : PySem.W.subIn K (.ref C) (.type "object") = some true) (l : K.lookup f = some ⟨oc, od, .func (PySem.W.fnOf "__eq__" "Ratio.__eq__" (defArgs sREq) (defBody sREq) (defScope sREq) .none kV dc pm an cd ct), osl⟩) (c : PySem.W.codeIn K cd "Ratio.__eq__" = true) (k : PySem.W.keepIn K (.ref f) = true) : ∃ f fd, Fun K "__eq__" "Ratio.__eq__" sREq f fd ∧ Binds K fd ["self", "other"] [] ∧ PySem.W.findIn K (.ref C) "__ne__" = some (some (.builtin "object.__ne__")) ∧ PySem.W.subIn K (.ref C) (.type "object") = some true ∧ PySem.W.findIn K (.ref C) "__eq__" = some (some (.ref f)) ∧ PySem.W.isFn K (.ref f) = true :=
  ⟨f, _, fun_mk (st := sREq) l c k, (fun_mk (st := sREq) l c k).binds (ps := ["self", "other"]) fun _ _ _ _ _ _ us hl => match us, hl with | [_, _], _ => rfl, ne, sb, a, i⟩
theorem m_get {f : Addr} {od an : Option Addr} {osl : Array (Option Value)} {oc kV dc pm cd ct : Value} (a : PySem.W.findIn K (.ref C) "__getitem__" = some (some (.ref f))) (i : PySem.W.isFn K (.ref f) = true) (fi : PySem.W.fnIn K f = true) (l : K.lookup f = some ⟨oc, od, .func (PySem.W.fnOf "__getitem__" "Network.__getitem__" (defArgs sNGet) (defBody sNGet) (defScope sNGet) .none kV dc pm an cd ct), osl⟩) (c : PySem.W.codeIn K cd "Network.__getitem__" = true) (k : PySem.W.keepIn K (.ref f) = true) : ∃ f fd, Fun K "__getitem__" "Network.__getitem__" sNGet f fd ∧ Binds K fd ["self", "name"] [] ∧ PySem.W.findIn K (.ref C) "__getitem__" = some (some (.ref f)) ∧ PySem.W.fnIn K f = true ∧ PySem.W.isFn K (.ref f) = true :=
  ⟨f, _, fun_mk (st := sNGet) l c k, (fun_mk (st := sNGet) l c k).binds (ps := ["self", "name"]) fun _ _ _ _ _ _ us hl => match us, hl with | [_, _], _ => rfl, a, fi, i⟩
theorem m_ninit {f : Addr} {od an : Option Addr} {osl : Array (Option Value)} {oc kV dc pm cd ct : Value} (a : PySem.W.findIn K (.ref C) "__init__" = some (some (.ref f))) (i : PySem.W.isFn K (.ref f) = true) (mk : PySem.W.makesIn K C = true) (kc : PySem.W.keepIn K (.ref C) = true) (l : K.lookup f = some ⟨oc, od, .func (PySem.W.fnOf "__init__" "Network.__init__" (defArgs sNInit) (defBody sNInit) (defScope sNInit) .none kV dc pm an cd ct), osl⟩) (c : PySem.W.codeIn K cd "Network.__init__" = true) (k : PySem.W.keepIn K (.ref f) = true) : ∃ f fd, Fun K "__init__" "Network.__init__" sNInit f fd ∧ Binds K fd ["self", "links", "start", "end"] [] ∧ Mk K C f :=
  ⟨f, _, fun_mk (st := sNInit) l c k, (fun_mk (st := sNInit) l c k).binds (ps := ["self", "links", "start", "end"]) fun _ _ _ _ _ _ us hl => match us, hl with | [_, _, _, _], _ => rfl, mk, a, i, kc⟩
theorem m_ways {f : Addr} {od an : Option Addr} {osl : Array (Option Value)} {oc kV dc pm cd ct : Value} (a : PySem.W.findIn K (.ref C) "ways" = some (some (.ref f))) (i : PySem.W.isFn K (.ref f) = true) (l : K.lookup f = some ⟨oc, od, .func (PySem.W.fnOf "ways" "Network.ways" (defArgs sNWays) (defBody sNWays) (defScope sNWays) .none kV dc pm an cd ct), osl⟩) (c : PySem.W.codeIn K cd "Network.ways" = true) (k : PySem.W.keepIn K (.ref f) = true) : ∃ f fd, Fun K "ways" "Network.ways" sNWays f fd ∧ Binds K fd ["self"] [] ∧ Meth K C "ways" f :=
  ⟨f, _, fun_mk (st := sNWays) l c k, (fun_mk (st := sNWays) l c k).binds (ps := ["self"]) fun _ _ _ _ _ _ us hl => match us, hl with | [_], _ => rfl, a, i, k⟩
theorem m_rinit {f T : Addr} {od od2 an : Option Addr} {osl osl2 : Array (Option Value)} {oc oc2 kV dc pm cd ct : Value} {tk : Tok} {n : Nat} (a : PySem.W.findIn K (.ref C) "__init__" = some (some (.ref f))) (i : PySem.W.isFn K (.ref f) = true) (mk : PySem.W.makesIn K C = true) (kc : PySem.W.keepIn K (.ref C) = true)
    (l : K.lookup f = some ⟨oc, od, .func (PySem.W.fnOf "__init__" "Ratio.__init__" (defArgs sRInit) (defBody sRInit) (defScope sRInit) (.ref T) kV dc pm an cd ct), osl⟩) (c : PySem.W.codeIn K cd "Ratio.__init__" = true) (k : PySem.W.keepIn K (.ref f) = true)
    (lT : K.lookup T = some ⟨oc2, od2, .seq [Value.int 1 tk].toArray n, osl2⟩) :
    ∃ f fd one, FunD K "__init__" "Ratio.__init__" (defArgs sRInit) (defBody sRInit) (defScope sRInit) [.int 1] [] f fd ∧ Mk K C f ∧ Binds K fd ["self", "top", "bottom"] [] ∧ Binds K fd ["self", "top", "bottom"] [one] ∧ Vals [.int 1] [one] := by
  have F : FunD K "__init__" "Ratio.__init__" (defArgs sRInit) (defBody sRInit) (defScope sRInit) [.int 1] [] f _ := ⟨⟨oc, od, .ref T, kV, dc, pm, an, cd, ct, osl, rfl, l, c, .inr ⟨by simp, T, _, [Value.int 1 tk], n, rfl, lT, rfl, .cons ⟨_, rfl⟩ .nil⟩, .inl rfl⟩, k⟩
  obtain ⟨d0, v0, b0⟩ := F.binds1 (ps := ["self", "top", "bottom"]) 3 1 (by simp) rfl (fun T kV doc pm an cdv ct us its hu hi => match us, its, hu, hi with | [_, _, _], [_], _, _ => ⟨_, rfl, rfl⟩)
  obtain ⟨d1, v1, b1⟩ := F.binds1 (ps := ["self", "top", "bottom"]) 2 0 (by simp) rfl (fun T kV doc pm an cdv ct us its hu hi => match us, its, hu, hi with | [_, _], [_], _, _ => ⟨_, rfl, rfl⟩)
  cases v0
  cases v1 with
  | cons r t =>
    cases t
    exact ⟨f, _, _, F, ⟨mk, a, i, kc⟩, b0, b1, .cons r .nil⟩
theorem bl_mk (X : K.In h) (G : h.Ns mainGlobals mg) (z0 : PySem.W.nsIn K mainGlobals "abs" = some none) (z1 : PySem.W.nsIn K mainGlobals "int" = some none) (z2 : PySem.W.nsIn K mainGlobals "len" = some none) (z3 : PySem.W.nsIn K mainGlobals "list" = some none) (z4 : PySem.W.nsIn K mainGlobals "max" = some none) (z5 : PySem.W.nsIn K mainGlobals "range" = some none) (z6 : PySem.W.nsIn K mainGlobals "sum" = some none) (z7 : PySem.W.nsIn K mainGlobals "all" = some none) (z8 : PySem.W.nsIn K mainGlobals "sorted" = some none) (z9 : PySem.W.nsIn K mainGlobals "tuple" = some none) (z10 : PySem.W.nsIn K mainGlobals "set" = some none) (z11 : PySem.W.nsIn K mainGlobals "isinstance" = some none) : Bl mg :=
  ⟨PySem.W.mg_none_of X G z0, PySem.W.mg_none_of X G z1, PySem.W.mg_none_of X G z2, PySem.W.mg_none_of X G z3, PySem.W.mg_none_of X G z4, PySem.W.mg_none_of X G z5, PySem.W.mg_none_of X G z6, PySem.W.mg_none_of X G z7, PySem.W.mg_none_of X G z8, PySem.W.mg_none_of X G z9, PySem.W.mg_none_of X G z10, PySem.W.mg_none_of X G z11⟩
theorem cst_mk (X : K.In h) (G : h.Ns mainGlobals mg) {t1 t2 t3 : Tok} {v1 v2 : Str} (a1 : PySem.W.nsIn K mainGlobals "LETTERS" = some (some (.str v1 t1))) (e1 : v1 = lettersS) (a2 : PySem.W.nsIn K mainGlobals "DIGITS" = some (some (.str v2 t2))) (e2 : v2 = digitsS) (a3 : PySem.W.nsIn K mainGlobals "LONGEST" = some (some (.int 6 t3))) : Cst mg := by
  subst e1
  subst e2
  exact ⟨⟨_, PySem.W.mg_of X G a1, ⟨_, rfl⟩⟩, ⟨_, PySem.W.mg_of X G a2, ⟨_, rfl⟩⟩, ⟨_, PySem.W.mg_of X G a3, ⟨_, rfl⟩⟩⟩
theorem ntx_mk (X : K.In h) (G : h.Ns mainGlobals mg) {t1 t2 : Tok} (aN : PySem.W.nsIn K mainGlobals "Network" = some (some (.ref C))) (pg : PySem.W.plainGet K C Str.empty = true) (hd : PySem.W.hasDictIn K C = true) (po : PySem.W.plainOver K C = true) (sa : PySem.W.findIn K (.ref C) "__setattr__" = some (some (.builtin "object.__setattr__"))) (nS : PySem.W.findIn K (.ref C) "source" = some none) (nT : PySem.W.findIn K (.ref C) "target" = some none) (nB : PySem.W.findIn K (.ref C) "table" = some none)
    (rd : PySem.W.readsIn K C (.type "type") = true) (ga : PySem.W.specialIn K (.ref C) "__getattribute__" = some (some (.builtin "type.__getattribute__"))) (ml : PySem.W.findCls K (.ref C) (.type "type") "MOST_LINKS" = some (.val (.int 10 t1))) (mp : PySem.W.findCls K (.ref C) (.type "type") "MOST_PLACES" = some (.val (.int 8 t2))) : NTx K mg C :=
  ⟨⟨pg, hd, po, sa⟩, nS, nT, nB, PySem.W.mg_of X G aN, ⟨_, _, ⟨rd, ga⟩, ml, ⟨_, rfl⟩⟩, ⟨_, _, ⟨rd, ga⟩, mp, ⟨_, rfl⟩⟩⟩
theorem rtx_mk (X : K.In h) (G : h.Ns mainGlobals mg) (aR : PySem.W.nsIn K mainGlobals "Ratio" = some (some (.ref C))) (pg : PySem.W.plainGet K C Str.empty = true) (hd : PySem.W.hasDictIn K C = true) (po : PySem.W.plainOver K C = true) (sa : PySem.W.findIn K (.ref C) "__setattr__" = some (some (.builtin "object.__setattr__"))) (nU : PySem.W.findIn K (.ref C) "upper" = some none) (nL : PySem.W.findIn K (.ref C) "lower" = some none)
    (ha : PySem.W.findIn K (.ref C) "__class__" = some (some (.builtin "object.__class__"))) (hn : PySem.W.specialIn K (.builtin "object.__class__") "__get__" = some (some (.builtin "getset_descriptor.__get__"))) (ht : PySem.W.takesIn K (.builtin "object.__class__") = some true) (hm : PySem.W.mroIn K C (.type "object") = some true) : RTx K mg C :=
  ⟨⟨pg, hd, po, sa⟩, nU, nL, PySem.W.mg_of X G aR, ⟨⟨pg, hd, po, sa⟩, ha, hn, ht, hm, if_pos (beq_self_eq_true _)⟩⟩
theorem all_mk {l : PySem.W.OpenLaw} {w : World} {fa CN CR f4 : Addr} {od4 an4 : Option Addr} {sl4 : Array (Option Value)} {oc4 kV4 dc4 pm4 cd4 ct4 : Value} (X : K.In h) (G : h.Ns mainGlobals mg) (hfa : mg "law" = some (.ref fa))
    (aN : PySem.W.nsIn K mainGlobals "Network" = some (some (.ref CN))) (aR : PySem.W.nsIn K mainGlobals "Ratio" = some (some (.ref CR)))
    (L : LawX K mg) (M : ModX K mg) (N : NetX K mg CN) (R : RatX K mg CR) (Pg : ProgX K mg CN)
    (a4 : PySem.W.nsIn K mainGlobals "law" = some (some (.ref f4))) (l4 : K.lookup f4 = some ⟨oc4, od4, .func (PySem.W.fnOf "law" "law" (defArgs sLaw) (defBody sLaw) (defScope sLaw) .none kV4 dc4 pm4 an4 cd4 ct4), sl4⟩) (c4 : PySem.W.codeIn K cd4 "law" = true) (k4 : PySem.W.keepIn K (.ref f4) = true) :
    ∃ fd : FuncData, (∀ (s : Shared) (v : Value), BindsTo s fd ⟨[v], []⟩ [("_law_script", v)]) ∧ ∀ base : Heap, K.In base → base.Ns mainGlobals mg → FnOk l.prog w K mg base CX0 7 fa fd ["_law_script"] (spLaw K) := by
  have e := hfa.symm.trans (PySem.W.mg_of X G a4)
  cases e
  exact ⟨PySem.W.fnOf "law" "law" (defArgs sLaw) (defBody sLaw) (defScope sLaw) .none kV4 dc4 pm4 an4 cd4 ct4, fun s v => .of_eq rfl, fun base _ _ => ok_law (fun_mk (st := sLaw) l4 c4 k4) M N R L Pg⟩
end
theorem walk {l : PySem.W.OpenLaw} {q : Program} {loose : List Str} {XP : (Str → Option Value) → Heap → Prop} {YP : World → Heap → Prop} {d : DefRec} {K : Params → PySem.W.Frag} (hn : l.most = some 63) (hdf : d.params.defaults = [])
    (hY : ∀ (w : World) (h : Heap), YP w h → (K w.params).In h)
    (F : ∀ (w : World) (mg : Str → Option Value) (fa : Addr) (h : Heap), (K w.params).In h → h.Ns mainGlobals mg → mg d.name = some (.ref fa) →
      ∃ fd : FuncData, (∀ (s : Shared) (u : Value), BindsTo s fd ⟨[u], []⟩ [("_law_script", u)]) ∧ ∀ base : Heap, (K w.params).In base → base.Ns mainGlobals mg → FnOk l.prog w (K w.params) mg base CX0 7 fa fd ["_law_script"] (spLaw (K w.params))) :
    PySem.W.WalkO q loose XP YP l.row.toRowW d [] (fun f vs => PySem.call f vs) :=
  L2.walk_of (n := 63) (k := 7) (x := "_law_script") (CX := fun _ => CX0) (sp := fun w => spLaw (K w.params)) hn (by decide) hdf ⟨rfl, by decide, by decide⟩ hY F (fun _ _ a ns hl _ hS => ⟨a, ns, rfl, hS, hl, fun _ => rfl⟩) fun _ _ _ _ _ z => z
end XW

open PySem PySem.W PyProof.Rows in
set_option maxRecDepth 100000 in
set_option maxHeartbeats 0 in
theorem PySem.Challenge.cw_extralink_k84_whole_witness_for_extra_li_holds : PySem.Challenge.rw_extralink_k84_whole_witness_for_extra_li.Holds := by
  w_on; o_law; k_head; (case hw => w_witness2)
  k_fill
  refine XW.walk (l := PySem.Challenge.rw_extralink_k84_whole_witness_for_extra_li) rfl rfl (fun w h Y => PySem.W.kIn_of Y) ?F
  case F =>
    intro w mg fa h KX G hmg
    refine' XW.all_mk KX G hmg ?xq1_aN ?xq1_aR ?xq1_L ?xq1_M ?xq1_N ?xq1_R ?xq1_Pg ?xq1_a4 ?xq1_l4 ?xq1_c4 ?xq1_k4
    (case xq1_aN => k_is)
    (case xq1_aR => k_is)
    (case xq1_a4 => k_is)
    (case xq1_l4 => k_is)
    (case xq1_c4 => k_is)
    (case xq1_k4 => k_is)
    case xq1_L =>
      refine' ⟨?xq2_start, ?xq2_take, ?xq2_shuf, ?xq2_grown, ?xq2_named, ?xq2_netw, ?xq2_ways, ?xq2_leads, ?xq2_extra, ?xq2_loads, ?xq2_amounts, ?xq2_ratios⟩
      (case xq2_start => refine' XW.dfe_Lstart KX G ?xq3_a ?xq3_l ?xq3_c ?xq3_k; (case xq3_a => k_is); (case xq3_l => k_is); (case xq3_c => k_is); (case xq3_k => k_is))
      (case xq2_take => refine' XW.dfe_Ltake KX G ?xq4_a ?xq4_l ?xq4_c ?xq4_k; (case xq4_a => k_is); (case xq4_l => k_is); (case xq4_c => k_is); (case xq4_k => k_is))
      (case xq2_shuf => refine' XW.dfe_Lshuf KX G ?xq5_a ?xq5_l ?xq5_c ?xq5_k; (case xq5_a => k_is); (case xq5_l => k_is); (case xq5_c => k_is); (case xq5_k => k_is))
      (case xq2_grown => refine' XW.dfe_Lgrown KX G ?xq6_a ?xq6_l ?xq6_c ?xq6_k; (case xq6_a => k_is); (case xq6_l => k_is); (case xq6_c => k_is); (case xq6_k => k_is))
      (case xq2_named => refine' XW.dfe_Lnamed KX G ?xq7_a ?xq7_l ?xq7_c ?xq7_k; (case xq7_a => k_is); (case xq7_l => k_is); (case xq7_c => k_is); (case xq7_k => k_is))
      (case xq2_netw => refine' XW.dfe_Lnetw KX G ?xq8_a ?xq8_l ?xq8_c ?xq8_k; (case xq8_a => k_is); (case xq8_l => k_is); (case xq8_c => k_is); (case xq8_k => k_is))
      (case xq2_ways => refine' XW.dfe_Lways KX G ?xq9_a ?xq9_l ?xq9_c ?xq9_k; (case xq9_a => k_is); (case xq9_l => k_is); (case xq9_c => k_is); (case xq9_k => k_is))
      (case xq2_leads => refine' XW.dfe_Lleads KX G ?xq10_a ?xq10_l ?xq10_c ?xq10_k; (case xq10_a => k_is); (case xq10_l => k_is); (case xq10_c => k_is); (case xq10_k => k_is))
      (case xq2_extra => refine' XW.dfe_Lextra KX G ?xq11_a ?xq11_l ?xq11_c ?xq11_k; (case xq11_a => k_is); (case xq11_l => k_is); (case xq11_c => k_is); (case xq11_k => k_is))
      (case xq2_loads => refine' XW.dfe_Lloads KX G ?xq12_a ?xq12_l ?xq12_c ?xq12_k; (case xq12_a => k_is); (case xq12_l => k_is); (case xq12_c => k_is); (case xq12_k => k_is))
      (case xq2_amounts => refine' XW.dfe_Lamounts KX G ?xq13_a ?xq13_l ?xq13_c ?xq13_k; (case xq13_a => k_is); (case xq13_l => k_is); (case xq13_c => k_is); (case xq13_k => k_is))
      (case xq2_ratios => refine' XW.dfe_Lratios KX G ?xq14_a ?xq14_l ?xq14_c ?xq14_k; (case xq14_a => k_is); (case xq14_l => k_is); (case xq14_c => k_is); (case xq14_k => k_is))
    case xq1_M =>
      refine' ⟨?xq15_B, ?xq15_Cs, ?xq15_valid, ?xq15_check, ?xq15_follow, ?xq15_useful⟩
      (case xq15_B => refine' XW.bl_mk KX G ?xq16_z0 ?xq16_z1 ?xq16_z2 ?xq16_z3 ?xq16_z4 ?xq16_z5 ?xq16_z6 ?xq16_z7 ?xq16_z8 ?xq16_z9 ?xq16_z10 ?xq16_z11; (case xq16_z0 => k_is); (case xq16_z1 => k_is); (case xq16_z2 => k_is); (case xq16_z3 => k_is); (case xq16_z4 => k_is); (case xq16_z5 => k_is); (case xq16_z6 => k_is); (case xq16_z7 => k_is); (case xq16_z8 => k_is); (case xq16_z9 => k_is); (case xq16_z10 => k_is); (case xq16_z11 => k_is))
      (case xq15_Cs => refine' XW.cst_mk KX G ?xq17_a1 ?xq17_e1 ?xq17_a2 ?xq17_e2 ?xq17_a3; (case xq17_a1 => k_is); (case xq17_e1 => first | rfl | decide +kernel); (case xq17_a2 => k_is); (case xq17_e2 => first | rfl | decide +kernel); (case xq17_a3 => k_is))
      (case xq15_valid => refine' XW.dfe_Mvalid KX G ?xq18_a ?xq18_l ?xq18_c ?xq18_k; (case xq18_a => k_is); (case xq18_l => k_is); (case xq18_c => k_is); (case xq18_k => k_is))
      (case xq15_check => refine' XW.dfe_Mcheck KX G ?xq19_a ?xq19_l ?xq19_c ?xq19_k; (case xq19_a => k_is); (case xq19_l => k_is); (case xq19_c => k_is); (case xq19_k => k_is))
      (case xq15_follow => refine' XW.dfe_Mfollow KX G ?xq20_a ?xq20_l ?xq20_c ?xq20_k; (case xq20_a => k_is); (case xq20_l => k_is); (case xq20_c => k_is); (case xq20_k => k_is))
      (case xq15_useful => refine' XW.dfe_Museful KX G ?xq21_a ?xq21_l ?xq21_c ?xq21_k; (case xq21_a => k_is); (case xq21_l => k_is); (case xq21_c => k_is); (case xq21_k => k_is))
    case xq1_N =>
      refine' ⟨?xq22_T, ?xq22_names, ?xq22_start, ?xq22_stop, ?xq22_places, ?xq22_get, ?xq22_init⟩
      (case xq22_T => refine' XW.ntx_mk KX G ?xq23_aN ?xq23_pg ?xq23_hd ?xq23_po ?xq23_sa ?xq23_nS ?xq23_nT ?xq23_nB ?xq23_rd ?xq23_ga ?xq23_ml ?xq23_mp; (case xq23_aN => k_is); (case xq23_pg => k_is); (case xq23_hd => k_is); (case xq23_po => k_is); (case xq23_sa => k_is); (case xq23_nS => k_is); (case xq23_nT => k_is); (case xq23_nB => k_is); (case xq23_rd => k_is); (case xq23_ga => k_is); (case xq23_ml => k_is); (case xq23_mp => k_is))
      (case xq22_names => refine' XW.prp_Nnames ?xq24_a ?xq24_g ?xq24_t ?xq24_r ?xq24_l ?xq24_c ?xq24_k; (case xq24_a => k_is); (case xq24_g => k_is); (case xq24_t => k_is); (case xq24_r => k_is); (case xq24_l => k_is); (case xq24_c => k_is); (case xq24_k => k_is))
      (case xq22_start => refine' XW.prp_Nstart ?xq25_a ?xq25_g ?xq25_t ?xq25_r ?xq25_l ?xq25_c ?xq25_k; (case xq25_a => k_is); (case xq25_g => k_is); (case xq25_t => k_is); (case xq25_r => k_is); (case xq25_l => k_is); (case xq25_c => k_is); (case xq25_k => k_is))
      (case xq22_stop => refine' XW.prp_Nstop ?xq26_a ?xq26_g ?xq26_t ?xq26_r ?xq26_l ?xq26_c ?xq26_k; (case xq26_a => k_is); (case xq26_g => k_is); (case xq26_t => k_is); (case xq26_r => k_is); (case xq26_l => k_is); (case xq26_c => k_is); (case xq26_k => k_is))
      (case xq22_places => refine' XW.prp_Nplaces ?xq27_a ?xq27_g ?xq27_t ?xq27_r ?xq27_l ?xq27_c ?xq27_k; (case xq27_a => k_is); (case xq27_g => k_is); (case xq27_t => k_is); (case xq27_r => k_is); (case xq27_l => k_is); (case xq27_c => k_is); (case xq27_k => k_is))
      (case xq22_get => refine' XW.m_get ?xq28_a ?xq28_i ?xq28_fi ?xq28_l ?xq28_c ?xq28_k; (case xq28_a => k_is); (case xq28_i => k_is); (case xq28_fi => k_is); (case xq28_l => k_is); (case xq28_c => k_is); (case xq28_k => k_is))
      (case xq22_init => refine' XW.m_ninit ?xq29_a ?xq29_i ?xq29_mk ?xq29_kc ?xq29_l ?xq29_c ?xq29_k; (case xq29_a => k_is); (case xq29_i => k_is); (case xq29_mk => k_is); (case xq29_kc => k_is); (case xq29_l => k_is); (case xq29_c => k_is); (case xq29_k => k_is))
    case xq1_R =>
      refine' ⟨?xq30_T, ?xq30_asr, ?xq30_sign, ?xq30_below, ?xq30_add, ?xq30_eq, ?xq30_init, ?xq30_div⟩
      (case xq30_T => refine' XW.rtx_mk KX G ?xq31_aR ?xq31_pg ?xq31_hd ?xq31_po ?xq31_sa ?xq31_nU ?xq31_nL ?xq31_ha ?xq31_hn ?xq31_ht ?xq31_hm; (case xq31_aR => k_is); (case xq31_pg => k_is); (case xq31_hd => k_is); (case xq31_po => k_is); (case xq31_sa => k_is); (case xq31_nU => k_is); (case xq31_nL => k_is); (case xq31_ha => k_is); (case xq31_hn => k_is); (case xq31_ht => k_is); (case xq31_hm => k_is))
      (case xq30_asr => refine' XW.dfe_Rasr KX G ?xq32_a ?xq32_l ?xq32_c ?xq32_k; (case xq32_a => k_is); (case xq32_l => k_is); (case xq32_c => k_is); (case xq32_k => k_is))
      (case xq30_div => refine' XW.dfe_Rdiv KX G ?xq33_a ?xq33_l ?xq33_c ?xq33_k; (case xq33_a => k_is); (case xq33_l => k_is); (case xq33_c => k_is); (case xq33_k => k_is))
      (case xq30_sign => refine' XW.prp_Rsign ?xq34_a ?xq34_g ?xq34_t ?xq34_r ?xq34_l ?xq34_c ?xq34_k; (case xq34_a => k_is); (case xq34_g => k_is); (case xq34_t => k_is); (case xq34_r => k_is); (case xq34_l => k_is); (case xq34_c => k_is); (case xq34_k => k_is))
      (case xq30_below => refine' XW.m_below ?xq35_a ?xq35_i ?xq35_l ?xq35_c ?xq35_k; (case xq35_a => k_is); (case xq35_i => k_is); (case xq35_l => k_is); (case xq35_c => k_is); (case xq35_k => k_is))
      (case xq30_add => refine' XW.m_add ?xq36_a ?xq36_i ?xq36_sf ?xq36_l ?xq36_c ?xq36_k; (case xq36_a => k_is); (case xq36_i => k_is); (case xq36_sf => k_is); (case xq36_l => k_is); (case xq36_c => k_is); (case xq36_k => k_is))
      (case xq30_eq => refine' XW.m_eq ?xq37_a ?xq37_i ?xq37_ne ?xq37_sb ?xq37_l ?xq37_c ?xq37_k; (case xq37_a => k_is); (case xq37_i => k_is); (case xq37_ne => k_is); (case xq37_sb => k_is); (case xq37_l => k_is); (case xq37_c => k_is); (case xq37_k => k_is))
      (case xq30_init => refine' XW.m_rinit ?xq38_a ?xq38_i ?xq38_mk ?xq38_kc ?xq38_l ?xq38_c ?xq38_k ?xq38_lT; (case xq38_a => k_is); (case xq38_i => k_is); (case xq38_mk => k_is); (case xq38_kc => k_is); (case xq38_l => k_is); (case xq38_c => k_is); (case xq38_k => k_is); (case xq38_lT => k_is))
    case xq1_Pg =>
      refine' ⟨?xq39_chkl, ?xq39_bears, ?xq39_wit, ?xq39_cut, ?xq39_opened, ?xq39_ways⟩
      (case xq39_chkl => refine' XW.dfe_Gchkl KX G ?xq40_a ?xq40_l ?xq40_c ?xq40_k; (case xq40_a => k_is); (case xq40_l => k_is); (case xq40_c => k_is); (case xq40_k => k_is))
      (case xq39_bears => refine' XW.dfe_Gbears KX G ?xq41_a ?xq41_l ?xq41_c ?xq41_k; (case xq41_a => k_is); (case xq41_l => k_is); (case xq41_c => k_is); (case xq41_k => k_is))
      (case xq39_wit => refine' XW.dfe_Gwit KX G ?xq42_a ?xq42_l ?xq42_c ?xq42_k; (case xq42_a => k_is); (case xq42_l => k_is); (case xq42_c => k_is); (case xq42_k => k_is))
      (case xq39_cut => refine' XW.dfe_Gcut KX G ?xq43_a ?xq43_l ?xq43_c ?xq43_k; (case xq43_a => k_is); (case xq43_l => k_is); (case xq43_c => k_is); (case xq43_k => k_is))
      (case xq39_opened => refine' XW.dfe_Gopened KX G ?xq44_a ?xq44_l ?xq44_c ?xq44_k; (case xq44_a => k_is); (case xq44_l => k_is); (case xq44_c => k_is); (case xq44_k => k_is))
      (case xq39_ways => refine' XW.m_ways ?xq45_a ?xq45_i ?xq45_l ?xq45_c ?xq45_k; (case xq45_a => k_is); (case xq45_i => k_is); (case xq45_l => k_is); (case xq45_c => k_is); (case xq45_k => k_is))
