/- Proof of MatchRight, part 6 of 6: what the functions compute, and that it answers. -/
import Derived.Test.YtabojfgmbfnoiaaGreatDoorZMatchRight5
section
/- Kids of nodes that are paired. GENERATED (gen/matchc.py). -/
set_option linter.unusedVariables false
set_option linter.unusedSimpArgs false
namespace Go.Proofs.YtabojfgmbfnoiaaGreatDoor
/-- One place ends where the other begins, or ahead. -/
def Sep (A : Tree) (x y : Int) : Prop := 0 ≤ x ∧ ∀ k, A.nodes[x.toNat]? = some k → x + k.card ≤ y
theorem kidrow {A u : Tree} {i : Nat} (hu : A.nodes[i]? = some u) : (∀ x ∈ posL (i + 1) u.kids, (i : Int) < x ∧ x < A.card) ∧ (posL (i + 1) u.kids).Pairwise (Sep A) ∧ (posL (i + 1) u.kids).length = u.kids.length := by
  refine ⟨fun x hx => ?_, ?_, posL_length _ _⟩
  · obtain ⟨n, hn, e⟩ := List.mem_iff_getElem.1 hx
    obtain ⟨k, a1, a2, a3, a4, a5⟩ := kid_at hu (x := x) (n := n) (by rw [List.getElem?_eq_getElem hn, e])
    have := lt_of_some a3
    have e : A.nodes.length = A.card := rfl
    omega
  · rw [List.pairwise_iff_getElem]
    intro n m hn hm hlt
    obtain ⟨k, a1, a2, a3, a4, a5⟩ := kid_at hu (n := n) (List.getElem?_eq_getElem hn)
    refine ⟨by omega, fun k' hk' => ?_⟩
    rw [a3, Option.some.injEq] at hk'
    subst hk'
    exact kid_lt (List.getElem?_eq_getElem hn) a1 (List.getElem?_eq_getElem hm) hlt
theorem Sep.get {A : Tree} {r : List Int} (h : r.Pairwise (Sep A)) {n m : Nat} {x y : Int} (hx : r[n]? = some x) (hy : r[m]? = some y) (hlt : n < m) : Sep A x y := by
  rw [List.pairwise_iff_getElem] at h
  have h1 := lt_of_some hx
  have h2 := lt_of_some hy
  have := h n m h1 h2 hlt
  rw [List.getElem?_eq_getElem h1, Option.some.injEq] at hx
  rw [List.getElem?_eq_getElem h2, Option.some.injEq] at hy
  rw [hx, hy] at this; exact this
section
variable {A B : Tree} {pa pb ma mb : List Int} {g : Int → Option Tree}
/-- A pair, or two trees that are the same. -/
theorem step_t {f' : Nat → Nat → Option (List Int × List Int)} (hA : A.card ≤ 20001) (hB : B.card ≤ 20001) (hma : Marked g A ma) (hmb : Marked g B mb) {to of : List Int} (hJ : J A B to of) {x y : Int} (x0 : 0 ≤ x) (y0 : 0 ≤ y) (hal : Alike A B x y) (hx : to[x.toNat]? = some (-1)) (hy : of[y.toNat]? = some (-1)) {Q : List Int × List Int → Prop} (hQ : ∀ r, J A B r.1 r.2 → Keep to r.1 → (∀ u, A.nodes[x.toNat]? = some u → Out to r.1 x.toNat u.card) → (∀ v, B.nodes[y.toNat]? = some v → Out of r.2 y.toNat v.card) → r.1[x.toNat]? = some y → Q r) : T (fun f _ => (idx ma x).bind fun m => (idx mb y).bind fun m' => bif (m == m') then ((F26 f A.nodes pa (cards A.nodes) (A.plan 0) B.nodes pb (cards B.nodes) (B.plan 0) ma mb to of x y).bind fun r => some (r.1, r.2)) else ((F27 f A.nodes pa (cards A.nodes) (A.plan 0) B.nodes pb (cards B.nodes) (B.plan 0) ma mb to of x y).bind fun _ => some ((to.set x.toNat y), (of.set y.toNat x)))) Q := by
  have l1 := hma.1
  have l2 := hmb.1
  have lx := lt_of_some hx
  have ly := lt_of_some hy
  have j1 := hJ.lt
  have j2 := hJ.lo
  obtain ⟨u, v, hu, hv, e⟩ := hal
  refine T.idx' (by omega) fun m h1 => T.idx' (by omega) fun m' h2 => T.beq (fun em => ?_) fun _ => ?_
  · subst em
    obtain ⟨w, a, b⟩ := same_of_mark hma hmb h1 h2
    refine T.bind (F26_t hA hB hJ x0 y0 a b) fun r hr => T.ret (hQ (r.1, r.2) hr.1 hr.2.1 ?_ ?_ (hr.2.2.2.2 hx hy))
    · intro u' hu'
      rw [a, Option.some.injEq] at hu'
      subst hu'; exact hr.2.2.1
    · intro v' hv'
      rw [b, Option.some.injEq] at hv'
      subst hv'; exact hr.2.2.2.1
  · have ey : y = (y.toNat : Int) := by omega
    have ex : x = (x.toNat : Int) := by omega
    refine T.bind (F27_t ⟨x0, by omega⟩ ⟨y0, by omega⟩) fun _ _ => T.ret (hQ (_, _) ?_ (Keep.rfl.set hx) ?_ ?_ ?_)
    · simp only
      have := hJ.pair hx hy hu hv e
      rw [← ey, ← ex] at this; exact this
    · intro u' _
      have := card_pos u'
      exact Out.rfl.set (by omega) (by omega)
    · intro v' _
      have := card_pos v'
      exact Out.rfl.set (by omega) (by omega)
    · simp only
      exact List.getElem?_set_self (by omega)
theorem l139_t (hA : A.card ≤ 20001) (hB : B.card ≤ 20001) (hma : Marked g A ma) (hmb : Marked g B mb) {to of : List Int} (hJ : J A B to of) (r : List (Int × Int)) (hrl : r.length ≤ 100000) (hs1 : (r.map Prod.fst).Pairwise (Sep A)) (hs2 : (r.map Prod.snd).Pairwise (Sep B)) (hal : ∀ p ∈ r, Alike A B p.1 p.2 ∧ 0 ≤ p.1 ∧ 0 ≤ p.2 ∧ to[p.1.toNat]? = some (-1) ∧ of[p.2.toNat]? = some (-1)) : T (fun f _ => F30_l139 f A.nodes pa (cards A.nodes) (A.plan 0) B.nodes pb (cards B.nodes) (B.plan 0) ma mb r f to of 0) (fun v => (∃ q, v = .inl q ∧ J A B q.1 q.2 ∧ Keep to q.1) ∨ ∃ q, v = .inr q ∧ J A B q.1 q.2 ∧ Keep to q.1) := by
  refine T.diag (f := fun f n => F30_l139 f A.nodes pa (cards A.nodes) (A.plan 0) B.nodes pb (cards B.nodes) (B.plan 0) ma mb r n to of 0) ?_
  refine T.loop (L := fun f n (s : List Int × List Int × Int) => F30_l139 f A.nodes pa (cards A.nodes) (A.plan 0) B.nodes pb (cards B.nodes) (B.plan 0) ma mb r n s.1 s.2.1 s.2.2) (fun s => 0 ≤ s.2.2 ∧ s.2.2 ≤ r.length ∧ J A B s.1 s.2.1 ∧ Keep to s.1 ∧ ∀ (n : Nat) (p : Int × Int), s.2.2 ≤ n → r[n]? = some p → s.1[p.1.toNat]? = some (-1) ∧ s.2.1[p.2.toNat]? = some (-1)) (fun s => r.length - s.2.2.toNat) ?_ (_, _, 0) ⟨by simp, by simp, hJ, Keep.rfl, fun n p _ hp => (hal p (mem_of_get hp)).2.2.2⟩
  rintro ⟨t, o, c⟩ ⟨c0, c1, j, kp, op⟩ rec
  simp only at c0 c1 j kp op rec ⊢
  simp only [F30_l139]
  refine T.dec (fun q => ?_) fun q => T.ret (.inl ⟨_, rfl, j, kp⟩)
  refine T.bind (P := fun (s : List Int × List Int) => J A B s.1 s.2 ∧ Keep to s.1 ∧ ∀ (n : Nat) (p : Int × Int), c + 1 ≤ n → r[n]? = some p → s.1[p.1.toNat]? = some (-1) ∧ s.2[p.2.toNat]? = some (-1)) ?_ ?_
  · refine T.idx' (by omega) fun p hp => ?_
    obtain ⟨a1, a2, a3, _, _⟩ := hal p (mem_of_get hp)
    obtain ⟨b1, b2⟩ := op c.toNat p (by omega) hp
    refine step_t (f' := fun _ _ => none) hA hB hma hmb j a2 a3 a1 b1 b2 fun s s1 s2 s3 s4 _ => ⟨s1, kp.trans s2, fun n p2 hn hp2 => ?_⟩
    obtain ⟨d1, d2⟩ := op n p2 (by omega) hp2
    obtain ⟨u, v, hu, hv, _⟩ := a1
    have e1 := Sep.get hs1 (n := c.toNat) (m := n) (x := p.1) (y := p2.1) (by rw [List.getElem?_map, hp]; rfl) (by rw [List.getElem?_map, hp2]; rfl) (by omega)
    have e2 := Sep.get hs2 (n := c.toNat) (m := n) (x := p.2) (y := p2.2) (by rw [List.getElem?_map, hp]; rfl) (by rw [List.getElem?_map, hp2]; rfl) (by omega)
    have f1 := e1.2 u hu
    have f2 := e2.2 v hv
    exact ⟨by rw [s3 u hu _ (.inr (by omega))]; exact d1, by rw [s4 v hv _ (.inr (by omega))]; exact d2⟩
  · rintro ⟨t2, o2⟩ ⟨a1, a2, a3⟩
    simp only at a1 a2 a3 ⊢
    exact T.ck (by omega) (rec (_, _, _) ⟨by simp only; omega, by simp only; omega, a1, a2, a3⟩ (by simp only; omega))
theorem l172_t (hA : A.card ≤ 20001) (hB : B.card ≤ 20001) (hma : Marked g A ma) (hmb : Marked g B mb) {to of : List Int} (hJ : J A B to of) (r : List (Int × Int)) (hrl : r.length ≤ 100000) (hs1 : (r.map Prod.fst).Pairwise (Sep A)) (hs2 : (r.map Prod.snd).Pairwise (Sep B)) (hal : ∀ p ∈ r, Alike A B p.1 p.2 ∧ 0 ≤ p.1 ∧ 0 ≤ p.2 ∧ to[p.1.toNat]? = some (-1) ∧ of[p.2.toNat]? = some (-1)) : T (fun f _ => F30_l172 f A.nodes pa (cards A.nodes) (A.plan 0) B.nodes pb (cards B.nodes) (B.plan 0) ma mb r f to of 0) (fun v => (∃ q, v = .inl q ∧ J A B q.1 q.2 ∧ Keep to q.1) ∨ ∃ q, v = .inr q ∧ J A B q.1 q.2 ∧ Keep to q.1) := by
  refine T.diag (f := fun f n => F30_l172 f A.nodes pa (cards A.nodes) (A.plan 0) B.nodes pb (cards B.nodes) (B.plan 0) ma mb r n to of 0) ?_
  refine T.loop (L := fun f n (s : List Int × List Int × Int) => F30_l172 f A.nodes pa (cards A.nodes) (A.plan 0) B.nodes pb (cards B.nodes) (B.plan 0) ma mb r n s.1 s.2.1 s.2.2) (fun s => 0 ≤ s.2.2 ∧ s.2.2 ≤ r.length ∧ J A B s.1 s.2.1 ∧ Keep to s.1 ∧ ∀ (n : Nat) (p : Int × Int), s.2.2 ≤ n → r[n]? = some p → s.1[p.1.toNat]? = some (-1) ∧ s.2.1[p.2.toNat]? = some (-1)) (fun s => r.length - s.2.2.toNat) ?_ (_, _, 0) ⟨by simp, by simp, hJ, Keep.rfl, fun n p _ hp => (hal p (mem_of_get hp)).2.2.2⟩
  rintro ⟨t, o, c⟩ ⟨c0, c1, j, kp, op⟩ rec
  simp only at c0 c1 j kp op rec ⊢
  simp only [F30_l172]
  refine T.dec (fun q => ?_) fun q => T.ret (.inl ⟨_, rfl, j, kp⟩)
  refine T.bind (P := fun (s : List Int × List Int) => J A B s.1 s.2 ∧ Keep to s.1 ∧ ∀ (n : Nat) (p : Int × Int), c + 1 ≤ n → r[n]? = some p → s.1[p.1.toNat]? = some (-1) ∧ s.2[p.2.toNat]? = some (-1)) ?_ ?_
  · refine T.idx' (by omega) fun p hp => ?_
    obtain ⟨a1, a2, a3, _, _⟩ := hal p (mem_of_get hp)
    obtain ⟨b1, b2⟩ := op c.toNat p (by omega) hp
    refine step_t (f' := fun _ _ => none) hA hB hma hmb j a2 a3 a1 b1 b2 fun s s1 s2 s3 s4 _ => ⟨s1, kp.trans s2, fun n p2 hn hp2 => ?_⟩
    obtain ⟨d1, d2⟩ := op n p2 (by omega) hp2
    obtain ⟨u, v, hu, hv, _⟩ := a1
    have e1 := Sep.get hs1 (n := c.toNat) (m := n) (x := p.1) (y := p2.1) (by rw [List.getElem?_map, hp]; rfl) (by rw [List.getElem?_map, hp2]; rfl) (by omega)
    have e2 := Sep.get hs2 (n := c.toNat) (m := n) (x := p.2) (y := p2.2) (by rw [List.getElem?_map, hp]; rfl) (by rw [List.getElem?_map, hp2]; rfl) (by omega)
    have f1 := e1.2 u hu
    have f2 := e2.2 v hv
    exact ⟨by rw [s3 u hu _ (.inr (by omega))]; exact d1, by rw [s4 v hv _ (.inr (by omega))]; exact d2⟩
  · rintro ⟨t2, o2⟩ ⟨a1, a2, a3⟩
    simp only at a1 a2 a3 ⊢
    exact T.ck (by omega) (rec (_, _, _) ⟨by simp only; omega, by simp only; omega, a1, a2, a3⟩ (by simp only; omega))
theorem l205_t (hA : A.card ≤ 20001) (hB : B.card ≤ 20001) (hma : Marked g A ma) (hmb : Marked g B mb) {to of : List Int} (hJ : J A B to of) (r : List (Int × Int)) (hrl : r.length ≤ 100000) (hs1 : (r.map Prod.fst).Pairwise (Sep A)) (hs2 : (r.map Prod.snd).Pairwise (Sep B)) (hal : ∀ p ∈ r, Alike A B p.1 p.2 ∧ 0 ≤ p.1 ∧ 0 ≤ p.2 ∧ to[p.1.toNat]? = some (-1) ∧ of[p.2.toNat]? = some (-1)) : T (fun f _ => F30_l205 f A.nodes pa (cards A.nodes) (A.plan 0) B.nodes pb (cards B.nodes) (B.plan 0) ma mb r f to of 0) (fun v => (∃ q, v = .inl q ∧ J A B q.1 q.2 ∧ Keep to q.1) ∨ ∃ q, v = .inr q ∧ J A B q.1 q.2 ∧ Keep to q.1) := by
  refine T.diag (f := fun f n => F30_l205 f A.nodes pa (cards A.nodes) (A.plan 0) B.nodes pb (cards B.nodes) (B.plan 0) ma mb r n to of 0) ?_
  refine T.loop (L := fun f n (s : List Int × List Int × Int) => F30_l205 f A.nodes pa (cards A.nodes) (A.plan 0) B.nodes pb (cards B.nodes) (B.plan 0) ma mb r n s.1 s.2.1 s.2.2) (fun s => 0 ≤ s.2.2 ∧ s.2.2 ≤ r.length ∧ J A B s.1 s.2.1 ∧ Keep to s.1 ∧ ∀ (n : Nat) (p : Int × Int), s.2.2 ≤ n → r[n]? = some p → s.1[p.1.toNat]? = some (-1) ∧ s.2.1[p.2.toNat]? = some (-1)) (fun s => r.length - s.2.2.toNat) ?_ (_, _, 0) ⟨by simp, by simp, hJ, Keep.rfl, fun n p _ hp => (hal p (mem_of_get hp)).2.2.2⟩
  rintro ⟨t, o, c⟩ ⟨c0, c1, j, kp, op⟩ rec
  simp only at c0 c1 j kp op rec ⊢
  simp only [F30_l205]
  refine T.dec (fun q => ?_) fun q => T.ret (.inl ⟨_, rfl, j, kp⟩)
  refine T.bind (P := fun (s : List Int × List Int) => J A B s.1 s.2 ∧ Keep to s.1 ∧ ∀ (n : Nat) (p : Int × Int), c + 1 ≤ n → r[n]? = some p → s.1[p.1.toNat]? = some (-1) ∧ s.2[p.2.toNat]? = some (-1)) ?_ ?_
  · refine T.idx' (by omega) fun p hp => ?_
    obtain ⟨a1, a2, a3, _, _⟩ := hal p (mem_of_get hp)
    obtain ⟨b1, b2⟩ := op c.toNat p (by omega) hp
    refine step_t (f' := fun _ _ => none) hA hB hma hmb j a2 a3 a1 b1 b2 fun s s1 s2 s3 s4 _ => ⟨s1, kp.trans s2, fun n p2 hn hp2 => ?_⟩
    obtain ⟨d1, d2⟩ := op n p2 (by omega) hp2
    obtain ⟨u, v, hu, hv, _⟩ := a1
    have e1 := Sep.get hs1 (n := c.toNat) (m := n) (x := p.1) (y := p2.1) (by rw [List.getElem?_map, hp]; rfl) (by rw [List.getElem?_map, hp2]; rfl) (by omega)
    have e2 := Sep.get hs2 (n := c.toNat) (m := n) (x := p.2) (y := p2.2) (by rw [List.getElem?_map, hp]; rfl) (by rw [List.getElem?_map, hp2]; rfl) (by omega)
    have f1 := e1.2 u hu
    have f2 := e2.2 v hv
    exact ⟨by rw [s3 u hu _ (.inr (by omega))]; exact d1, by rw [s4 v hv _ (.inr (by omega))]; exact d2⟩
  · rintro ⟨t2, o2⟩ ⟨a1, a2, a3⟩
    simp only at a1 a2 a3 ⊢
    exact T.ck (by omega) (rec (_, _, _) ⟨by simp only; omega, by simp only; omega, a1, a2, a3⟩ (by simp only; omega))
theorem F30_t (hA : A.card ≤ 20001) (hB : B.card ≤ 20001) (hma : Marked g A ma) (hmb : Marked g B mb) {to of : List Int} (hJ : J A B to of) {i k : Int} (i0 : 0 ≤ i) (k0 : 0 ≤ k) {u v : Tree} (hu : A.nodes[i.toNat]? = some u) (hv : B.nodes[k.toNat]? = some v) : T (fun f _ => F30 f A.nodes pa (cards A.nodes) (A.plan 0) B.nodes pb (cards B.nodes) (B.plan 0) ma mb to of i k) (fun r => J A B r.1 r.2 ∧ Keep to r.1) := by
  obtain ⟨k1, k2, k3⟩ := kidrow hu
  obtain ⟨m1, m2, m3⟩ := kidrow hv
  have n1 := (node_at A 0 i.toNat u hu).2.1
  have n2 := (node_at B 0 k.toNat v hv).2.1
  rw [Nat.zero_add] at n1 n2
  have ku : (posL (i.toNat + 1) u.kids).length ≤ 20001 := by
    have h1 := length_le_nodesL u.kids
    have h2 := card_mem (mem_of_get hu)
    rw [card_eq] at h2; omega
  have kv : (posL (k.toNat + 1) v.kids).length ≤ 20001 := by
    have h1 := length_le_nodesL v.kids
    have h2 := card_mem (mem_of_get hv)
    rw [card_eq] at h2; omega
  generalize posL (i.toNat + 1) u.kids = row at k1 k2 k3 n1 ku
  generalize posL (k.toNat + 1) v.kids = col at m1 m2 m3 n2 kv
  have fin : ∀ {t o : List Int} (j : J A B t o) {xs ys : List Int} (hx : xs.Sublist row ∧ ∀ x ∈ xs, ∃ z, t[x.toNat]? = some z ∧ z < 0) (hy : ys.Sublist col ∧ ∀ x ∈ ys, ∃ z, o[x.toNat]? = some z ∧ z < 0) (r : List (Int × Int)) (hr : Pairs A B xs ys r), r.length ≤ 100000 ∧ (r.map Prod.fst).Pairwise (Sep A) ∧ (r.map Prod.snd).Pairwise (Sep B) ∧ ∀ p ∈ r, Alike A B p.1 p.2 ∧ 0 ≤ p.1 ∧ 0 ≤ p.2 ∧ t[p.1.toNat]? = some (-1) ∧ o[p.2.toNat]? = some (-1) := by
    intro t o j xs ys hx hy r hr
    obtain ⟨r1, r2, r3⟩ := hr
    have l1 := r1.length_le
    have l2 := hx.1.length_le
    rw [List.length_map] at l1
    refine ⟨by omega, k2.sublist (r1.trans hx.1), m2.sublist (r2.trans hy.1), fun p hp => ?_⟩
    have q1 : p.1 ∈ xs := r1.subset (List.mem_map_of_mem hp)
    have q2 : p.2 ∈ ys := r2.subset (List.mem_map_of_mem hp)
    obtain ⟨z, z1, z2⟩ := hx.2 _ q1
    obtain ⟨z', z3, z4⟩ := hy.2 _ q2
    have b1 := k1 _ (hx.1.subset q1)
    have b2 := m1 _ (hy.1.subset q2)
    exact ⟨r3 p hp, by omega, by omega, j.neg z1 z2, j.neg' z3 z4⟩
  simp only [F30]
  refine T.diag (f := fun f n => F30_l20 f A.nodes pa (cards A.nodes) (A.plan 0) B.nodes pb (cards B.nodes) (B.plan 0) ma mb i k n to of 0) ?_
  refine T.loop (L := fun f n (s : List Int × List Int × Int) => F30_l20 f A.nodes pa (cards A.nodes) (A.plan 0) B.nodes pb (cards B.nodes) (B.plan 0) ma mb i k n s.1 s.2.1 s.2.2) (fun s => 0 ≤ s.2.2 ∧ s.2.2 ≤ 3 ∧ J A B s.1 s.2.1 ∧ Keep to s.1) (fun s => 3 - s.2.2.toNat) ?_ (_, _, 0) ⟨by simp, by simp, hJ, Keep.rfl⟩
  rintro ⟨t, o, c⟩ ⟨c0, c1, j, kp⟩ rec
  simp only at c0 c1 j kp rec ⊢
  simp only [F30_l20]
  have jt := j.lt
  have jo := j.lo
  refine T.dec (fun q => ?_) fun q => T.ret ⟨j, kp⟩
  refine T.bsu (P := fun (q : List Int × List Int) => J A B q.1 q.2 ∧ Keep to q.1) (P' := fun (q : List Int × List Int) => J A B q.1 q.2 ∧ Keep to q.1) ?_ (fun x hx => T.ck (by omega) (rec (_, _, _) ⟨by simp only; omega, by simp only; omega, hx.1, hx.2⟩ (by simp only; omega))) (fun x hx => T.ret hx)
  refine T.req (by omega) ?_
  have hrow : ∀ x ∈ row, 0 ≤ x ∧ x < t.length := fun x hx => by have := k1 x hx; omega
  have hcol : ∀ x ∈ col, 0 ≤ x ∧ x < o.length := fun x hx => by have := m1 x hx; omega
  have hb : ∀ {xs ys : List Int}, xs.Sublist row → ys.Sublist col → xs.length ≤ 20001 ∧ ys.length ≤ 20001 ∧ (∀ x ∈ xs, 0 ≤ x ∧ x < A.card) ∧ ∀ y ∈ ys, 0 ≤ y ∧ y < B.card := fun h1 h2 => ⟨by have := h1.length_le; omega, by have := h2.length_le; omega, fun x hx => by have := k1 x (h1.subset hx); omega, fun x hx => by have := m1 x (h2.subset hx); omega⟩
  have mulb : ∀ {m n : Nat}, m ≤ 20001 → n ≤ 20001 → 0 ≤ (m : Int) * (n : Int) ∧ (m : Int) * (n : Int) ≤ 400040001 := fun h1 h2 => by
    have := Nat.mul_le_mul h1 h2
    rw [← Int.natCast_mul]; omega
  refine T.beq (fun _ => ?_) fun _ => ?_
  · refine T.idx i0 n1 (T.idx k0 n2 (T.bind (F46_t (by omega) hrow) fun xs hx => T.bind (F46_t (by omega) hcol) fun ys hy => ?_))
    obtain ⟨w1, w2, w3, w4⟩ := hb hx.1 hy.1
    have w5 := mulb w1 w2
    refine T.ck (by omega) (T.dec (fun _ => T.ret (.inr ⟨_, rfl, j, kp⟩)) fun _ => T.bind (F47_t hma hmb w1 w2 w3 w4) fun r hr => ?_)
    obtain ⟨v1, v2, v3, v4⟩ := fin j hx hy r hr
    refine T.mono (l139_t hA hB hma hmb j r v1 v2 v3 v4) ?_
    rintro z (⟨q, e, a1, a2⟩ | ⟨q, e, a1, a2⟩)
    · exact .inl ⟨q, e, a1, kp.trans a2⟩
    · exact .inr ⟨q, e, a1, kp.trans a2⟩
  refine T.beq (fun _ => ?_) fun _ => ?_
  · refine T.idx i0 n1 (T.idx k0 n2 (T.bind (F46_t (by omega) hrow) fun xs hx => T.bind (F46_t (by omega) hcol) fun ys hy => ?_))
    obtain ⟨w1, w2, w3, w4⟩ := hb hx.1 hy.1
    have w5 := mulb w1 w2
    refine T.ck (by omega) (T.dec (fun _ => T.ret (.inr ⟨_, rfl, j, kp⟩)) fun _ => T.bind (F47v1_t hma hmb w1 w2 w3 w4) fun r hr => ?_)
    obtain ⟨v1, v2, v3, v4⟩ := fin j hx hy r hr
    refine T.mono (l172_t hA hB hma hmb j r v1 v2 v3 v4) ?_
    rintro z (⟨q, e, a1, a2⟩ | ⟨q, e, a1, a2⟩)
    · exact .inl ⟨q, e, a1, kp.trans a2⟩
    · exact .inr ⟨q, e, a1, kp.trans a2⟩
  refine T.beq (fun _ => ?_) fun _ => ?_
  · refine T.idx i0 n1 (T.idx k0 n2 (T.bind (F46_t (by omega) hrow) fun xs hx => T.bind (F46_t (by omega) hcol) fun ys hy => ?_))
    obtain ⟨w1, w2, w3, w4⟩ := hb hx.1 hy.1
    have w5 := mulb w1 w2
    refine T.ck (by omega) (T.dec (fun _ => T.ret (.inr ⟨_, rfl, j, kp⟩)) fun _ => T.bind (F47v2_t hma hmb w1 w2 w3 w4) fun r hr => ?_)
    obtain ⟨v1, v2, v3, v4⟩ := fin j hx hy r hr
    refine T.mono (l205_t hA hB hma hmb j r v1 v2 v3 v4) ?_
    rintro z (⟨q, e, a1, a2⟩ | ⟨q, e, a1, a2⟩)
    · exact .inl ⟨q, e, a1, kp.trans a2⟩
    · exact .inr ⟨q, e, a1, kp.trans a2⟩
  exfalso; omega
/-- All nodes that are paired. -/
theorem l36_t (hA : A.card ≤ 20001) (hB : B.card ≤ 20001) (hma : Marked g A ma) (hmb : Marked g B mb) {to of : List Int} (hJ : J A B to of) : T (fun f _ => F10_l36 f (A.nodes, pa, cards A.nodes, A.plan 0) (B.nodes, pb, cards B.nodes, B.plan 0) ma mb f to of 0) (fun r => J A B r.1 r.2 ∧ Keep to r.1) := by
  refine T.diag (f := fun f n => F10_l36 f (A.nodes, pa, cards A.nodes, A.plan 0) (B.nodes, pb, cards B.nodes, B.plan 0) ma mb n to of 0) ?_
  refine T.loop (L := fun f n (s : List Int × List Int × Int) => F10_l36 f (A.nodes, pa, cards A.nodes, A.plan 0) (B.nodes, pb, cards B.nodes, B.plan 0) ma mb n s.1 s.2.1 s.2.2) (fun s => 0 ≤ s.2.2 ∧ s.2.2 ≤ ma.length ∧ J A B s.1 s.2.1 ∧ Keep to s.1) (fun s => ma.length - s.2.2.toNat) ?_ (_, _, 0) ⟨by simp, by simp, hJ, Keep.rfl⟩
  rintro ⟨t, o, c⟩ ⟨c0, c1, j, kp⟩ rec
  simp only at c0 c1 j kp rec ⊢
  simp only [F10_l36]
  have l1 := hma.1
  have jt := j.lt
  refine T.dec (fun q => ?_) fun q => T.ret ⟨j, kp⟩
  refine T.bind (P := fun (s : List Int × List Int) => J A B s.1 s.2 ∧ Keep to s.1) ?_ (fun s hs => T.ck (by omega) (rec (_, _, _) ⟨by simp only; omega, by simp only; omega, hs.1, hs.2⟩ (by simp only; omega)))
  refine T.idx' (by omega) fun x hx => T.dec (fun x0 => ?_) fun _ => T.ret ⟨j, kp⟩
  rcases j.to_ c.toNat x hx with h | ⟨_, _, u, v, hu, hv, _⟩
  · exfalso; omega
  · exact T.bind (F30_t hA hB hma hmb j c0 x0 hu hv) fun r hr => T.ret ⟨hr.1, kp.trans hr.2⟩
end
end Go.Proofs.YtabojfgmbfnoiaaGreatDoor
end
section
/- Anchors, what was moved, and the whole match. GENERATED (gen/matchd.py). -/
set_option linter.unusedVariables false
set_option linter.unusedSimpArgs false
namespace Go.Proofs.YtabojfgmbfnoiaaGreatDoor
section
variable {A B : Tree} {pa pb ma mb : List Int} {g : Int → Option Tree}
theorem F48_t (hA : A.card ≤ 20001) {ps : List Int} (hm : ma.length = A.card) (hp : ps.length = A.card) : T (fun f _ => F48 f A.nodes pa (cards A.nodes) (A.plan 0) ma ps) (fun r => ∀ m i, mget r m = some i → 0 ≤ i → ma[i.toNat]? = some m) := by
  simp only [F48]
  refine T.bind (P := fun r => ∀ m i, mget r m = some i → 0 ≤ i → ma[i.toNat]? = some m) (T.diag (f := fun f n => F48_l11 f (cards A.nodes) ma ps n [] 0) ?_) fun _ h => T.ret h
  refine T.loop (L := fun f n (s : List (Int × Int) × Int) => F48_l11 f (cards A.nodes) ma ps n s.1 s.2) (fun s => 0 ≤ s.2 ∧ s.2 ≤ ma.length ∧ ∀ m i, mget s.1 m = some i → 0 ≤ i → ma[i.toNat]? = some m) (fun s => ma.length - s.2.toNat) ?_ (_, 0) ⟨by simp, by simp, fun m i h => by cases h⟩
  rintro ⟨t, c⟩ ⟨c0, c1, h⟩ rec
  simp only at c0 c1 h rec ⊢
  simp only [F48_l11]
  have hc : (cards A.nodes).length = A.card := List.length_map ..
  refine T.dec (fun q => ?_) fun q => T.ret h
  refine T.bind (P := fun r => ∀ m i, mget r m = some i → 0 ≤ i → ma[i.toNat]? = some m) ?_ (fun r hr => T.ck (by omega) (rec (_, _) ⟨by simp only; omega, by simp only; omega, hr⟩ (by simp only; omega)))
  have hput : ∀ x v, (0 ≤ v → ma[v.toNat]? = some x) → ∀ m i, mget (mput t x v) m = some i → 0 ≤ i → ma[i.toNat]? = some m := fun x v hv m i hi i0 => by
    rw [mget_mput] at hi
    split at hi
    · rename_i e
      simp only [Option.some.injEq] at hi
      subst hi; subst e; exact hv i0
    · exact h m i hi i0
  refine T.idx' (by omega) fun x hx => T.bind (P := fun _ => True) ?_ fun _ _ => T.bif (fun _ => T.ret h) fun _ => T.bif (fun _ => T.ret (hput x (-1) (fun h => by omega))) fun _ => T.ret (hput x c fun _ => hx)
  exact T.idx' (by omega) fun _ _ => T.dec (fun _ => T.ret trivial) fun _ => T.idx' (by omega) fun _ _ => T.ret trivial
theorem F31_t (hA : A.card ≤ 20001) (hB : B.card ≤ 20001) (hma : Marked g A ma) (hmb : Marked g B mb) {to of : List Int} (hJ : J A B to of) : T (fun f _ => F31 f A.nodes pa (cards A.nodes) (A.plan 0) B.nodes pb (cards B.nodes) (B.plan 0) ma mb to of) (fun r => J A B r.1 r.2 ∧ Keep to r.1) := by
  have l1 := hma.1
  have l2 := hmb.1
  simp only [F31]
  refine T.bind (F48_t hB l2 hJ.lo) fun r1 h1 => T.bind (F48_t hA l1 hJ.lt) fun r2 h2 => T.diag (f := fun f n => F31_l20 f A.nodes pa (cards A.nodes) (A.plan 0) B.nodes pb (cards B.nodes) (B.plan 0) ma mb r1 r2 n to of 0) ?_
  refine T.loop (L := fun f n (s : List Int × List Int × Int) => F31_l20 f A.nodes pa (cards A.nodes) (A.plan 0) B.nodes pb (cards B.nodes) (B.plan 0) ma mb r1 r2 n s.1 s.2.1 s.2.2) (fun s => 0 ≤ s.2.2 ∧ s.2.2 ≤ ma.length ∧ J A B s.1 s.2.1 ∧ Keep to s.1) (fun s => ma.length - s.2.2.toNat) ?_ (_, _, 0) ⟨by simp, by simp, hJ, Keep.rfl⟩
  rintro ⟨t, o, c⟩ ⟨c0, c1, j, kp⟩ rec
  simp only at c0 c1 j kp rec ⊢
  simp only [F31_l20]
  have jt := j.lt
  have jo := j.lo
  refine T.dec (fun q => ?_) fun q => T.ret ⟨j, kp⟩
  refine T.bind (P := fun (s : List Int × List Int) => J A B s.1 s.2 ∧ Keep to s.1) ?_ (fun s hs => T.ck (by omega) (rec (_, _, _) ⟨by simp only; omega, by simp only; omega, hs.1, hs.2⟩ (by simp only; omega)))
  refine T.idx' (by omega) fun x hx => ?_
  cases hg : mget r1 x with
  | none =>
    simp only [Option.isSome_none, Option.getD_none, Bool.not_false]
    exact T.bbi (T.bt (by rfl) (T.bso (T.bt (by rfl) (T.ret ⟨j, kp⟩))))
  | some k =>
    simp only [Option.isSome_some, Option.getD_some, Bool.not_true]
    refine T.bind (P := fun b => b = false → 0 ≤ k ∧ k < o.length) ?_ fun b hb => T.bif (fun _ => T.ret ⟨j, kp⟩) fun bq => ?_
    · refine T.bf (by rfl) (T.bif (fun _ => T.ret (by simp)) fun _ => T.dec (fun _ => T.ret (by simp)) fun k0 => T.bif (fun _ => T.ret (by simp)) fun _ => T.idx' (by omega) fun _ _ => T.dec (fun _ => T.ret (by simp)) fun _ => ?_)
      have := lt_of_some (h1 x k hg (by omega))
      exact T.idx' (by omega) fun _ _ => T.ret fun _ => by omega
    · obtain ⟨k0, k1⟩ := hb bq
      obtain ⟨u, a, b⟩ := same_of_mark hma hmb hx (h1 x k hg k0)
      exact T.bind (F26_t hA hB j c0 k0 a b) fun r hr => T.ret ⟨hr.1, kp.trans hr.2.1⟩
/-- What an item is called. -/
def KeyAt (A : Tree) (pa ma : List Int) (i : Int) (x : K4) : Prop := ∃ r, (∀ f, F42 f A.nodes pa (cards A.nodes) (A.plan 0) ma i = some r) ∧ r.2.2.2.2 = true ∧ x = (r.1, r.2.1, r.2.2.1, r.2.2.2.1)
theorem F42_t (hm : ma.length = A.card) (ok : ∀ u ∈ A.nodes, Okn u) {i : Int} (i0 : 0 ≤ i) {u : Tree} (hu : A.nodes[i.toNat]? = some u) : ∃ r, (∀ f, F42 f A.nodes pa (cards A.nodes) (A.plan 0) ma i = some r) ∧ (r.2.2.2.2 = true → r.1 = u.kind) := by
  have key : T (fun _ _ => F42 0 A.nodes pa (cards A.nodes) (A.plan 0) ma i) (fun r => r.2.2.2.2 = true → r.1 = u.kind) := by
    simp only [F42]
    have hou := ok u (mem_of_get hu)
    refine T.idx i0 hu (T.beq (fun e => T.ret fun _ => rfl) fun _ => T.bind (P := fun _ => True) ?_ fun _ _ => T.bif (fun _ => T.ret fun _ => rfl) fun _ => T.beq (fun e => ?_) fun _ => T.ret (fun h => by cases h))
    · repeat' first | with_reducible refine T.bt (by rfl) ?_ | with_reducible refine T.bf (by rfl) ?_ | with_reducible refine T.bdn (fun _ => ?_) (fun _ => ?_) | with_reducible refine T.bnot (fun _ => ?_) (fun _ => ?_) | with_reducible refine T.dec (fun _ => ?_) (fun _ => ?_) | with_reducible refine T.beq (fun _ => ?_) (fun _ => ?_) | with_reducible refine T.bne (fun _ => ?_) (fun _ => ?_) | with_reducible refine T.bif (fun _ => ?_) (fun _ => ?_) | (with_reducible refine T.ret ?_; first | trivial | omega | (simp; done) | (simp; omega))
    · have hk := hou.1 e
      refine T.bind (P := fun _ => True) ?_ fun _ _ => T.ret fun _ => rfl
      refine T.idx' (by omega) fun z hz => T.beq (fun e16 => ?_) fun _ => T.ret trivial
      have hk2 := (ok z (nodes_trans (mem_of_get hu) (kid_mem (mem_of_get hz)))).2 e16
      have n1 := (node_at A 0 i.toNat u hu).2.1
      rw [Nat.zero_add] at n1
      refine T.idx i0 n1 (T.idx' (by rw [posL_length]; omega) fun x hx => ?_)
      obtain ⟨k, a1, a2, a3, a4, a5⟩ := kid_at hu hx
      rw [hz, Option.some.injEq] at a1
      subst a1
      have n2 := (node_at A 0 x.toNat z a3).2.1
      rw [Nat.zero_add] at n2
      refine T.idx (by omega) n2 (T.idx' (by rw [posL_length]; omega) fun y hy => ?_)
      obtain ⟨w, b1, b2, b3, b4, b5⟩ := kid_at a3 hy
      have := lt_of_some b3
      have e : A.nodes.length = A.card := rfl
      exact T.idx' (by omega) fun _ _ => T.ret trivial
  obtain ⟨r, p, N, h⟩ := key
  exact ⟨r, fun f => h N N (Nat.le_refl _) (Nat.le_refl _), p⟩
theorem F41_t (hA : A.card ≤ 20001) (hm : ma.length = A.card) (ok : ∀ u ∈ A.nodes, Okn u) {row : List Int} (hrow : (A.plan 0)[0]? = some row) (hr : ∀ x ∈ row, 0 < x ∧ x < A.card) (hrl : row.length ≤ 20001) : T (fun f _ => F41 f A.nodes pa (cards A.nodes) (A.plan 0) ma) (fun r => ∀ x i, mget r x = some i → 0 ≤ i → i ∈ row ∧ KeyAt A pa ma i x) := by
  simp only [F41]
  refine T.bind (P := fun r => ∀ x i, mget r x = some i → 0 ≤ i → i ∈ row ∧ KeyAt A pa ma i x) (T.idx (by decide) hrow (T.diag (f := fun f n => F41_l10 f A.nodes pa (cards A.nodes) (A.plan 0) ma row n [] 0) ?_)) fun _ h => T.ret h
  refine T.loop (L := fun f n (s : List (K4 × Int) × Int) => F41_l10 f A.nodes pa (cards A.nodes) (A.plan 0) ma row n s.1 s.2) (fun s => 0 ≤ s.2 ∧ s.2 ≤ row.length ∧ ∀ x i, mget s.1 x = some i → 0 ≤ i → i ∈ row ∧ KeyAt A pa ma i x) (fun s => row.length - s.2.toNat) ?_ (_, 0) ⟨by simp, by simp, fun m i h => by cases h⟩
  rintro ⟨t, c⟩ ⟨c0, c1, h⟩ rec
  simp only at c0 c1 h rec ⊢
  simp only [F41_l10]
  refine T.dec (fun q => ?_) fun q => T.ret h
  refine T.bind (P := fun r => ∀ x i, mget r x = some i → 0 ≤ i → i ∈ row ∧ KeyAt A pa ma i x) ?_ (fun r hr => T.ck (by omega) (rec (_, _) ⟨by simp only; omega, by simp only; omega, hr⟩ (by simp only; omega)))
  refine T.idx' (by omega) fun i hi => ?_
  have him := mem_of_get hi
  obtain ⟨i1, i2⟩ := hr i him
  have e : A.nodes.length = A.card := rfl
  obtain ⟨u, hu, _⟩ := get_of_lt (l := A.nodes) (i := i.toNat) (by omega)
  obtain ⟨r, hr1, hr2⟩ := F42_t (pa := pa) hm ok (by omega) hu
  have hput : ∀ x v, (0 ≤ v → v ∈ row ∧ KeyAt A pa ma v x) → ∀ m i, mget (mput t x v) m = some i → 0 ≤ i → i ∈ row ∧ KeyAt A pa ma i m := fun x v hv m i hi i0 => by
    rw [mget_mput] at hi
    split at hi
    · rename_i e
      simp only [Option.some.injEq] at hi
      subst hi; subst e; exact hv i0
    · exact h m i hi i0
  refine T.use r ⟨r, rfl, 0, fun f _ _ _ => hr1 f⟩ (T.bif (fun b => T.bif (fun _ => T.ret (hput _ _ fun h => by omega)) fun _ => T.ret (hput _ _ fun _ => ⟨him, r, hr1, b, rfl⟩)) fun _ => T.ret h)
theorem F29_t (hA : A.card ≤ 20001) (hB : B.card ≤ 20001) (hma : Marked g A ma) (hmb : Marked g B mb) (okA : ∀ u ∈ A.nodes, Okn u) (okB : ∀ u ∈ B.nodes, Okn u) {to of : List Int} (hJ : J A B to of) (hto : ∀ i : Nat, 0 < i → i < A.card → to[i]? = some (-1)) (hof : ∀ i : Nat, 0 < i → i < B.card → of[i]? = some (-1)) : T (fun f _ => F29 f A.nodes pa (cards A.nodes) (A.plan 0) B.nodes pb (cards B.nodes) (B.plan 0) ma mb to of) (fun r => J A B r.1 r.2 ∧ Keep to r.1) := by
  have l1 := hma.1
  have l2 := hmb.1
  have eA : A.nodes.length = A.card := rfl
  have eB : B.nodes.length = B.card := rfl
  have hA0 : A.nodes[0]? = some A := by rw [nodes_eq]; rfl
  have hB0 : B.nodes[0]? = some B := by rw [nodes_eq]; rfl
  obtain ⟨k1, k2, k3⟩ := kidrow hA0
  obtain ⟨m1, m2, m3⟩ := kidrow hB0
  have n1 := (node_at A 0 0 A hA0).2.1
  have n2 := (node_at B 0 0 B hB0).2.1
  simp only [Nat.zero_add] at n1 n2 k1 k2 k3 m1 m2 m3
  have ku : (posL 1 A.kids).length ≤ 20001 := by
    have h1 := length_le_nodesL A.kids
    have h2 := card_eq A
    omega
  have kv : (posL 1 B.kids).length ≤ 20001 := by
    have h1 := length_le_nodesL B.kids
    have h2 := card_eq B
    omega
  generalize posL 1 A.kids = row at k1 k2 k3 n1 ku
  generalize posL 1 B.kids = col at m1 m2 m3 n2 kv
  have k1' : ∀ x ∈ row, 0 < x ∧ x < (A.card : Int) := fun x hx => by have := k1 x hx; omega
  have m1' : ∀ x ∈ col, 0 < x ∧ x < (B.card : Int) := fun x hx => by have := m1 x hx; omega
  simp only [F29]
  refine T.bind (F41_t hB l2 okB n2 m1' kv) fun rb hb => T.bind (F41_t hA l1 okA n1 k1' ku) fun ra ha => T.idx (by decide) n1 (T.diag (f := fun f n => F29_l21 f A.nodes pa (cards A.nodes) (A.plan 0) B.nodes pb (cards B.nodes) (B.plan 0) ma mb rb ra row n to of 0) ?_)
  refine T.loop (L := fun f n (s : List Int × List Int × Int) => F29_l21 f A.nodes pa (cards A.nodes) (A.plan 0) B.nodes pb (cards B.nodes) (B.plan 0) ma mb rb ra row n s.1 s.2.1 s.2.2) (fun s => 0 ≤ s.2.2 ∧ s.2.2 ≤ row.length ∧ J A B s.1 s.2.1 ∧ Keep to s.1 ∧ (∀ (n : Nat) (i : Int), s.2.2 ≤ n → row[n]? = some i → s.1[i.toNat]? = some (-1)) ∧ (∀ (m : Nat) (k : Int), col[m]? = some k → s.2.1[k.toNat]? = some (-1) ∨ ∃ x, KeyAt B pb mb k x ∧ ∃ (n : Nat) (i : Int), n < s.2.2 ∧ row[n]? = some i ∧ mget ra x = some i)) (fun s => row.length - s.2.2.toNat) ?_ (_, _, 0) ⟨by simp, by simp, hJ, Keep.rfl, fun n i _ hi => ?_, fun m k hk => .inl ?_⟩
  · rintro ⟨t, o, c⟩ ⟨c0, c1, j, kp, ua, ub⟩ rec
    simp only at c0 c1 j kp ua ub rec ⊢
    simp only [F29_l21]
    have jt := j.lt
    have jo := j.lo
    refine T.dec (fun q => ?_) fun q => T.ret ⟨j, kp⟩
    refine T.bind (P := fun (s : List Int × List Int) => J A B s.1 s.2 ∧ Keep to s.1 ∧ (∀ (n : Nat) (i : Int), c + 1 ≤ n → row[n]? = some i → s.1[i.toNat]? = some (-1)) ∧ (∀ (m : Nat) (k : Int), col[m]? = some k → s.2[k.toNat]? = some (-1) ∨ ∃ x, KeyAt B pb mb k x ∧ ∃ (n : Nat) (i : Int), n < c + 1 ∧ row[n]? = some i ∧ mget ra x = some i)) ?_ ?_
    · refine T.idx' (by omega) fun i hi => ?_
      have him := mem_of_get hi
      obtain ⟨i0, i1⟩ := k1' i him
      obtain ⟨u, hu, _⟩ := get_of_lt (l := A.nodes) (i := i.toNat) (by omega)
      obtain ⟨r, hr1, hr2⟩ := F42_t (pa := pa) l1 okA (by omega) hu
      have stay : J A B t o ∧ Keep to t ∧ (∀ (n : Nat) (i : Int), c + 1 ≤ n → row[n]? = some i → t[i.toNat]? = some (-1)) ∧ (∀ (m : Nat) (k : Int), col[m]? = some k → o[k.toNat]? = some (-1) ∨ ∃ x, KeyAt B pb mb k x ∧ ∃ (n : Nat) (i : Int), n < c + 1 ∧ row[n]? = some i ∧ mget ra x = some i) := by
        refine ⟨j, kp, fun n i hn hi => ua n i (by omega) hi, fun m k hk => ?_⟩
        rcases ub m k hk with h | ⟨x, h1, n, i, h2, h3⟩
        · exact .inl h
        · exact .inr ⟨x, h1, n, i, by omega, h3⟩
      refine T.use r ⟨r, rfl, 0, fun f _ _ _ => hr1 f⟩ ?_
      generalize hx : ((r.1, r.2.1, r.2.2.1, r.2.2.2.1) : K4) = x
      cases hg : mget rb x with
      | none =>
        simp only [Option.isSome_none, Option.getD_none, Bool.not_false]
        refine T.bind (P := fun b => b = true) ?_ fun b hb => T.bt hb (T.ret stay)
        exact T.bif (fun _ => T.ret rfl) fun _ => T.bt (by rfl) (T.ret rfl)
      | some k =>
        simp only [Option.isSome_some, Option.getD_some, Bool.not_true]
        refine T.bind (P := fun b => b = false → r.2.2.2.2 = true ∧ 0 ≤ k ∧ (mget ra x).getD 0 = i) ?_ fun b hbb => T.bif (fun _ => T.ret stay) fun bq => ?_
        · refine T.bif (fun _ => T.ret (by simp)) fun h1 => T.bf (by rfl) (T.dec (fun _ => T.ret (by simp)) fun h2 => T.ret fun h3 => ⟨by simpa using h1, by omega, by simpa using h3⟩)
        · obtain ⟨e1, e2, e3⟩ := hbb bq
          obtain ⟨kc, rB, hB1, hB2, hB3⟩ := hb x k hg e2
          have hkA : KeyAt A pa ma i x := ⟨r, hr1, e1, hx.symm⟩
          obtain ⟨k0, kB⟩ := m1' k kc
          have ham : mget ra x = some i := by
            cases hq : mget ra x with
            | none => rw [hq] at e3; simp only [Option.getD_none] at e3; omega
            | some z => rw [hq] at e3; simp only [Option.getD_some] at e3; rw [e3]
          obtain ⟨v, hv, _⟩ := get_of_lt (l := B.nodes) (i := k.toNat) (by omega)
          obtain ⟨rB', hB1', hB2'⟩ := F42_t (pa := pb) l2 okB (by omega) hv
          have er : rB = rB' := Option.some.inj ((hB1 0).symm.trans (hB1' 0))
          subst er
          have ekind : u.kind = v.kind := by
            rw [← hr2 e1, ← hB2' hB2]
            have := hx.trans hB3
            exact (Prod.ext_iff.1 this).1
          obtain ⟨mi, hmi, emi⟩ := List.mem_iff_getElem.1 kc
          have hcm : col[mi]? = some k := by rw [List.getElem?_eq_getElem hmi, emi]
          have hti := ua c.toNat i (by omega) hi
          have hok : o[k.toNat]? = some (-1) := by
            rcases ub mi k hcm with h | ⟨x', ⟨r', h1, h2, h3⟩, n, i', hn, hi', hm'⟩
            · exact h
            · exfalso
              have er : rB = r' := Option.some.inj ((hB1 0).symm.trans (h1 0))
              subst er
              have ex : x' = x := h3.trans hB3.symm
              rw [ex, ham, Option.some.injEq] at hm'
              subst hm'
              have := (Sep.get k2 hi' hi (by omega)).2 u hu
              have := card_pos u
              omega
          refine step_t (f' := fun _ _ => none) hA hB hma hmb j (by omega) (by omega) ⟨u, v, hu, hv, ekind⟩ hti hok fun s s1 s2 s3 s4 _ => ⟨s1, kp.trans s2, fun n i2 hn hi2 => ?_, fun m k2' hk2 => ?_⟩
          · have f1 := (Sep.get k2 hi hi2 (by omega)).2 u hu
            rw [s3 u hu _ (.inr (by omega))]; exact ua n i2 (by omega) hi2
          · by_cases hmm : m = mi
            · subst hmm
              rw [hcm, Option.some.injEq] at hk2
              subst hk2
              exact .inr ⟨x, ⟨rB, hB1, hB2, hB3⟩, c.toNat, i, by omega, hi, ham⟩
            · have hout : s.2[k2'.toNat]? = o[k2'.toNat]? := by
                have hv1 := card_pos v
                rcases Nat.lt_or_ge m mi with hlt | hge
                · have hk2m := m1' k2' (mem_of_get hk2)
                  obtain ⟨w, hw, _⟩ := get_of_lt (l := B.nodes) (i := k2'.toNat) (by omega)
                  have f1 := (Sep.get m2 hk2 hcm hlt).2 w hw
                  have := card_pos w
                  exact s4 v hv _ (.inl (by omega))
                · have f1 := (Sep.get m2 hcm hk2 (by omega)).2 v hv
                  exact s4 v hv _ (.inr (by omega))
              rw [hout]
              rcases ub m k2' hk2 with h | ⟨x', h1, n, i', hn, h3⟩
              · exact .inl h
              · exact .inr ⟨x', h1, n, i', by omega, h3⟩
    · rintro ⟨t2, o2⟩ ⟨a1, a2, a3, a4⟩
      simp only at a1 a2 a3 a4 ⊢
      exact T.ck (by omega) (rec (_, _, _) ⟨by simp only; omega, by simp only; omega, a1, a2, a3, a4⟩ (by simp only; omega))
  · have := k1' i (mem_of_get hi)
    exact hto _ (by omega) (by omega)
  · have := m1' k (mem_of_get hk)
    exact hof _ (by omega) (by omega)
end
end Go.Proofs.YtabojfgmbfnoiaaGreatDoor
end
section
/- The whole match. -/
set_option linter.unusedVariables false
set_option linter.unusedSimpArgs false
namespace Go.Proofs.YtabojfgmbfnoiaaGreatDoor
/-- The pairs of a row of partners. -/
def outs : Nat → List Int → List (Int × Int)
  | _, [] => []
  | c, x :: l => if x ≥ 0 then ((c : Int), x) :: outs (c + 1) l else outs (c + 1) l
theorem outs_append : ∀ (l m : List Int) (c : Nat), outs c (l ++ m) = outs c l ++ outs (c + l.length) m
  | [], m, c => rfl
  | x :: l, m, c => by
    rw [List.cons_append, outs, outs, outs_append l m, List.length_cons, show c + 1 + l.length = c + (l.length + 1) by omega]
    split <;> rfl
theorem outs_len : ∀ (l : List Int) (c : Nat), (outs c l).length ≤ l.length
  | [], c => Nat.le_refl _
  | x :: l, c => by
    have := outs_len l (c + 1)
    rw [outs]
    split <;> (simp only [List.length_cons]; omega)
theorem l55_t (p : List Int × List Int) (h : p.1.length ≤ 100000) : T (fun f _ => F10_l55 f p f [] 0) (· = outs 0 p.1) := by
  refine T.diag (f := fun f n => F10_l55 f p n [] 0) ?_
  refine T.loop (L := fun f n (s : List (Int × Int) × Int) => F10_l55 f p n s.1 s.2) (fun s => 0 ≤ s.2 ∧ s.2 ≤ p.1.length ∧ s.1 = outs 0 (p.1.take s.2.toNat)) (fun s => p.1.length - s.2.toNat) ?_ (_, 0) ⟨by simp, by simp, by simp [outs]⟩
  rintro ⟨l, c⟩ ⟨c0, c1, e⟩ rec
  simp only at c0 c1 e rec ⊢
  simp only [F10_l55]
  have hl := outs_len (p.1.take c.toNat) 0
  rw [List.length_take] at hl
  refine T.dec (fun q => T.bas (T.idx' (by omega) fun x hx => ?_)) fun q => T.ret (by rw [e, List.take_of_length_le (by omega)])
  have e2 : outs 0 (p.1.take (c + 1).toNat) = l ++ (if x ≥ 0 then [(c, x)] else []) := by
    rw [take_succ' c0 hx, outs_append, ← e]
    simp only [outs, Nat.zero_add]
    rw [List.length_take, show min c.toNat p.1.length = c.toNat by omega, show ((c.toNat : Nat) : Int) = c by omega]
  refine T.bbi (T.dec (fun x0 => T.bit (by rw [e, one_len]; omega) (T.bso (T.ck (by omega) (rec (_, _) ⟨by simp only; omega, by simp only; omega, ?_⟩ (by simp only; omega))))) fun x0 => T.bso (T.ck (by omega) (rec (_, _) ⟨by simp only; omega, by simp only; omega, ?_⟩ (by simp only; omega))))
  · simp only; rw [e2, if_pos x0]
  · simp only; rw [e2, if_neg x0, List.append_nil]
theorem empty_get {n i : Nat} (h : i < n) : (List.replicate n (-1 : Int))[i]? = some (-1) := by
  rw [List.getElem?_replicate, if_pos h]
theorem J.empty (A B : Tree) : J A B (List.replicate A.card (-1)) (List.replicate B.card (-1)) := by
  refine ⟨List.length_replicate .., List.length_replicate .., fun i x hx => ?_, fun i x hx => ?_⟩
  · left; exact List.eq_of_mem_replicate (mem_of_get hx)
  · left; exact List.eq_of_mem_replicate (mem_of_get hx)
theorem F10_t (A B : Tree) (cA : A.card ≤ 20000) (cB : B.card ≤ 20000) (fA : ∀ u ∈ A.nodes, Fine u) (fB : ∀ u ∈ B.nodes, Fine u) (RA : T (fun f _ => F28 f A) (fun r => r = true → ∀ u ∈ A.nodes, Okn u)) (RB : T (fun f _ => F28 f B) (fun r => r = true → ∀ u ∈ B.nodes, Okn u)) : T (fun f _ => F10 f A B) (fun r => r.2 = 0 ∧ ((A.kind ≠ B.kind ∧ r.1 = []) ∨ (A.kind = B.kind ∧ ∃ to of, J A B to of ∧ to[0]? = some 0 ∧ r.1 = outs 0 to))) := by
  simp only [F10]
  refine T.bind (F23_t A (by omega)) ?_
  rintro ⟨nA, pA, sA, kA⟩ ⟨h1, h2, h3, h4⟩
  refine T.bind (F23_t B (by omega)) ?_
  rintro ⟨nB, pB, sB, kB⟩ ⟨g1, g2, g3, g4⟩
  simp only at h1 h2 h3 h4 g1 g2 g3 g4 ⊢
  subst h1; subst h3; subst h4; subst g1; subst g3; subst g4
  have eA : A.nodes.length = A.card := rfl
  have eB : B.nodes.length = B.card := rfl
  refine T.use false (T.dec (fun _ => by omega) fun _ => T.ret (by simp; omega)) (T.bf (by rfl) ?_)
  refine T.bne (fun hk => T.ret ⟨rfl, .inl ⟨hk, rfl⟩⟩) fun hk => ?_
  refine T.bind (F24_t A B (by omega) (by omega) fA fB) ?_
  rintro _ ⟨ma, mb, g, rfl, hma, hmb⟩
  have l1 := hma.1
  have l2 := hmb.1
  have pA1 := card_pos A
  have pB1 := card_pos B
  refine T.idx (by decide) rfl (T.idx (by decide) rfl (T.use _ (F25_t (by omega) (by omega)) (T.use _ (F25_t (by omega) (by omega)) ?_)))
  have rA : ((ma.length : Nat) : Int).toNat = A.card := by omega
  have rB : ((mb.length : Nat) : Int).toNat = B.card := by omega
  rw [rA, rB]
  have hJ := J.empty A B
  have hA0 : A.nodes[0]? = some A := by rw [nodes_eq]; rfl
  have hB0 : B.nodes[0]? = some B := by rw [nodes_eq]; rfl
  refine T.bind (P := fun (s : List Int × List Int) => J A B s.1 s.2 ∧ s.1[0]? = some 0) ?_ ?_
  · refine T.idx' (by omega) fun x hx => T.idx' (by omega) fun y hy => T.beq (fun e => ?_) fun _ => ?_
    · subst e
      obtain ⟨u, a, b⟩ := same_of_mark hma hmb hx hy
      exact T.bind (F26_t (by omega) (by omega) hJ (by decide) (by decide) a b) fun r hr => T.ret ⟨hr.1, hr.2.2.2.2 (empty_get (by omega)) (empty_get (by omega))⟩
    · refine T.bind (F27_t ⟨by omega, by rw [List.length_replicate]; omega⟩ ⟨by omega, by rw [List.length_replicate]; omega⟩) fun _ _ => ?_
      have hJ1 : J A B ((List.replicate A.card (-1 : Int)).set (0 : Int).toNat 0) ((List.replicate B.card (-1 : Int)).set (0 : Int).toNat 0) := hJ.pair (i := 0) (k := 0) (empty_get (by omega)) (empty_get (by omega)) hA0 hB0 hk
      have hz : ((List.replicate A.card (-1 : Int)).set (0 : Int).toNat 0)[0]? = some 0 := List.getElem?_set_self (by rw [List.length_replicate]; omega)
      have ht : ∀ i : Nat, 0 < i → i < A.card → ((List.replicate A.card (-1 : Int)).set (0 : Int).toNat 0)[i]? = some (-1) := fun i i0 i1 => by
        rw [List.getElem?_set_ne (by have : (0 : Int).toNat = 0 := rfl; omega)]; exact empty_get i1
      have ho : ∀ i : Nat, 0 < i → i < B.card → ((List.replicate B.card (-1 : Int)).set (0 : Int).toNat 0)[i]? = some (-1) := fun i i0 i1 => by
        rw [List.getElem?_set_ne (by have : (0 : Int).toNat = 0 := rfl; omega)]; exact empty_get i1
      generalize (List.replicate A.card (-1 : Int)).set (0 : Int).toNat 0 = to at hJ1 hz ht ⊢
      generalize (List.replicate B.card (-1 : Int)).set (0 : Int).toNat 0 = of at hJ1 ho ⊢
      refine T.bind (P := fun (s : List Int × List Int) => J A B s.1 s.2 ∧ Keep to s.1) ?_ ?_
      · refine T.bind (P := fun b => b = true → (∀ u ∈ A.nodes, Okn u) ∧ ∀ u ∈ B.nodes, Okn u) ?_ fun b hb => T.bif (fun bq => ?_) fun _ => T.ret ⟨hJ1, Keep.rfl⟩
        · exact T.bind RA fun r hr => T.bif (fun rq => T.bind RB fun r2 hr2 => T.ret fun e => ⟨hr rq, hr2 e⟩) fun _ => T.ret (by simp)
        · obtain ⟨o1, o2⟩ := hb bq
          exact T.bind (F29_t (by omega) (by omega) hma hmb o1 o2 hJ1 ht ho) fun r hr => T.ret hr
      · rintro ⟨t1, o1⟩ ⟨j1, k1⟩
        simp only at j1 k1 ⊢
        refine T.bind (l36_t (by omega) (by omega) hma hmb j1) ?_
        rintro ⟨t2, o2⟩ ⟨j2, k2⟩
        simp only at j2 k2 ⊢
        refine T.bind (F31_t (by omega) (by omega) hma hmb j2) fun r hr => T.ret ⟨hr.1, hr.2 0 0 (k2 0 0 (k1 0 0 hz (by omega)) (by omega)) (by omega)⟩
  · rintro ⟨t, o⟩ ⟨j, hz⟩
    have jt := j.lt
    simp only at j hz jt ⊢
    exact T.use _ (l55_t (t, o) (by simp only; omega)) (T.ret ⟨rfl, .inr ⟨hk, t, o, j, hz, rfl⟩⟩)
end Go.Proofs.YtabojfgmbfnoiaaGreatDoor
end
section
/- Whether pairs are a match; nothing is changed. -/
set_option linter.unusedVariables false
set_option linter.unusedSimpArgs false
namespace Go.Proofs.YtabojfgmbfnoiaaGreatDoor
/-- Whether pairs are a match, behind those gone through. -/
def Rt (na nb : List Tree) : (Int → Bool) → Int → List (Int × Int) → Bool
  | _, _, [] => true
  | s, last, p :: l => if p.1 ≤ last ∨ (na.length : Int) ≤ p.1 ∨ p.2 < 0 ∨ (nb.length : Int) ≤ p.2 ∨ s p.2 = true ∨ ((na[p.1.toNat]?).map Tree.kind) ≠ ((nb[p.2.toNat]?).map Tree.kind) then false else Rt na nb (fun k => k == p.2 || s k) p.1 l
def zeros : List (Int × Int) → Bool
  | [] => false
  | p :: _ => p.1 == 0 && p.2 == 0
def RtAll (na nb : List Tree) (l : List (Int × Int)) : Bool := Rt na nb (fun _ => false) (-1) l && zeros l
theorem Rt_no {na nb : List Tree} {s : Int → Bool} {last : Int} {p : Int × Int} {l : List (Int × Int)} (h : p.1 ≤ last ∨ (na.length : Int) ≤ p.1 ∨ p.2 < 0 ∨ (nb.length : Int) ≤ p.2 ∨ s p.2 = true ∨ ((na[p.1.toNat]?).map Tree.kind) ≠ ((nb[p.2.toNat]?).map Tree.kind)) : Rt na nb s last (p :: l) = false := by
  rw [Rt, if_pos h]
theorem Rt_go {na nb : List Tree} {s : Int → Bool} {last : Int} {p : Int × Int} {l : List (Int × Int)} (h : ¬(p.1 ≤ last ∨ (na.length : Int) ≤ p.1 ∨ p.2 < 0 ∨ (nb.length : Int) ≤ p.2 ∨ s p.2 = true ∨ ((na[p.1.toNat]?).map Tree.kind) ≠ ((nb[p.2.toNat]?).map Tree.kind))) : Rt na nb s last (p :: l) = Rt na nb (fun k => k == p.2 || s k) p.1 l := by
  rw [Rt, if_neg h]
theorem drop_get {α : Type} {l : List α} {i : Int} {z : α} (i0 : 0 ≤ i) (hz : l[i.toNat]? = some z) : l.drop i.toNat = z :: l.drop (i + 1).toNat := by
  have h := lt_of_some hz
  rw [List.drop_eq_getElem_cons h, show (i + 1).toNat = i.toNat + 1 by omega]
  rw [List.getElem?_eq_getElem h, Option.some.injEq] at hz
  rw [hz]
theorem kinds_ne {na nb : List Tree} {x y : Int} {u v : Tree} (hu : na[x.toNat]? = some u) (hv : nb[y.toNat]? = some v) : (((na[x.toNat]?).map Tree.kind) ≠ ((nb[y.toNat]?).map Tree.kind)) ↔ u.kind ≠ v.kind := by
  rw [hu, hv]; simp
theorem F12_t (na nb : List Tree) (q1 q2 q5 q6 : List Int) (q3 q7 : List (List Int)) (l : List (Int × Int)) (hl : l.length ≤ 100000) (hb : nb.length ≤ 100000) : T (fun f _ => F12 f na q1 q2 q3 nb q5 q6 q7 l) (· = RtAll na nb l) := by
  simp only [F12]
  cases l with
  | nil => exact T.use true (T.beq (fun _ => T.ret rfl) fun h => absurd rfl h) (T.bt (by rfl) (T.ret (by simp [RtAll, zeros])))
  | cons p0 l0 =>
    refine T.use (!(p0.1 == 0 && p0.2 == 0)) (T.beq (fun h => by simp only [List.length_cons] at h; omega) fun _ => T.idx (by decide) rfl (T.ret rfl)) ?_
    have eR : RtAll na nb (p0 :: l0) = (Rt na nb (fun _ => false) (-1) (p0 :: l0) && (p0.1 == 0 && p0.2 == 0)) := rfl
    generalize (p0.1 == 0 && p0.2 == 0) = z at eR ⊢
    rw [eR]
    generalize hll : p0 :: l0 = l at hl ⊢
    refine T.bnot (fun h => T.ret (by rw [h, Bool.and_false])) fun h => T.req (by omega) ?_
    subst h
    rw [Bool.and_true]
    refine T.bind (P := fun v => v = if Rt na nb (fun _ => false) (-1) l = true then .inl () else .inr false) (T.diag (f := fun f n => F12_l19 f na nb l n (List.replicate ((nb.length : Int)).toNat false) (-1) 0) ?_) ?_
    · refine T.loop (L := fun f n (s : List Bool × Int × Int) => F12_l19 f na nb l n s.1 s.2.1 s.2.2) (fun s => 0 ≤ s.2.2 ∧ s.2.2 ≤ l.length ∧ -1 ≤ s.2.1 ∧ s.1.length = nb.length ∧ ∃ u : Int → Bool, (∀ (k : Nat) (c : Bool), s.1[k]? = some c → c = u k) ∧ Rt na nb (fun _ => false) (-1) l = Rt na nb u s.2.1 (l.drop s.2.2.toNat)) (fun s => l.length - s.2.2.toNat) ?_ (_, _, 0) ⟨by simp, by simp, by simp, by simp, fun _ => false, fun k c h => List.eq_of_mem_replicate (mem_of_get h), rfl⟩
      rintro ⟨y, last, i⟩ ⟨i0, i1, h0, hy, u, hu, e⟩ rec
      simp only at i0 i1 h0 hy hu e rec ⊢
      simp only [F12_l19]
      rw [e]
      refine T.dec (fun q => T.idx' (by omega) fun p hp => ?_) fun q => T.ret (by rw [List.drop_of_length_le (by omega)]; rfl)
      rw [drop_get i0 hp]
      refine T.bind (P := fun c => (c = true → Rt na nb u last (p :: l.drop (i + 1).toNat) = false) ∧ (c = false → 0 ≤ p.1 ∧ 0 ≤ p.2 ∧ p.2 < nb.length ∧ Rt na nb u last (p :: l.drop (i + 1).toNat) = Rt na nb (fun k => k == p.2 || u k) p.1 (l.drop (i + 1).toNat))) ?_ fun c hc => T.bif (fun cq => T.ret (by rw [hc.1 cq]; rfl)) fun cq => ?_
      · refine T.dec (fun h => T.ret ⟨fun _ => Rt_no (.inl h), by simp⟩) fun h1 => T.dec (fun h => T.ret ⟨fun _ => Rt_no (.inr (.inl (by omega))), by simp⟩) fun h2 => T.dec (fun h => T.ret ⟨fun _ => Rt_no (.inr (.inr (.inl h))), by simp⟩) fun h3 => T.dec (fun h => T.ret ⟨fun _ => Rt_no (.inr (.inr (.inr (.inl (by omega))))), by simp⟩) fun h4 => T.idx' (by omega) fun c hc => ?_
        have hcu := hu _ _ hc
        rw [show ((p.2.toNat : Nat) : Int) = p.2 by omega] at hcu
        refine T.bif (fun h => T.ret ⟨fun _ => Rt_no (.inr (.inr (.inr (.inr (.inl (by rw [← hcu, h])))))), by simp⟩) fun h5 => T.idx' (by omega) fun a ha => T.idx' (by omega) fun b hb => T.ret ⟨fun h => Rt_no (.inr (.inr (.inr (.inr (.inr ((kinds_ne ha hb).2 (by simpa using h))))))), fun h => ⟨by omega, by omega, by omega, Rt_go ?_⟩⟩
        rw [kinds_ne ha hb, ← hcu, h5]
        simp at h
        simp only [h]
        simp; omega
      · obtain ⟨p0, p1, p2, er⟩ := hc.2 cq
        refine T.idx' (by omega) fun _ _ => T.ck (by omega) ?_
        rw [er]
        have e' := e.trans ((congrArg (Rt na nb u last) (drop_get i0 hp)).trans er)
        rw [← e']
        refine rec (y.set p.2.toNat true, p.1, i + 1) ⟨by simp only; omega, by simp only; omega, by simp only; omega, by simp only [List.length_set]; exact hy, fun k => k == p.2 || u k, fun k c hk => ?_, e'⟩ (by simp only; omega)
        simp only at hk ⊢
        by_cases hkp : k = p.2.toNat
        · subst hkp
          rw [List.getElem?_set_self (by omega), Option.some.injEq] at hk
          rw [← hk, show ((p.2.toNat : Nat) : Int) = p.2 by omega]; simp
        · rw [List.getElem?_set_ne (by omega)] at hk
          rw [hu k c hk]
          have : ((k : Int) == p.2) = false := by simp; omega
          rw [this, Bool.false_or]
    · intro v hv
      subst hv
      split
      · rename_i h; rw [h]; exact T.ret rfl
      · rename_i h; exact T.ret (by simpa using h)
theorem F11_t (A B : Tree) (cA : A.card ≤ 100000) (cB : B.card ≤ 100000) (l : List (Int × Int)) (hl : l.length ≤ 100000) : T (fun f _ => F11 f A B l) (· = RtAll A.nodes B.nodes l) := by
  simp only [F11]
  refine T.bind (F23_t A cA) ?_
  rintro ⟨nA, pA, sA, kA⟩ ⟨h1, h2, h3, h4⟩
  refine T.bind (F23_t B cB) ?_
  rintro ⟨nB, pB, sB, kB⟩ ⟨g1, g2, g3, g4⟩
  simp only at h1 h2 h3 h4 g1 g2 g3 g4 ⊢
  subst h1; subst g1
  refine T.bind (P := fun v => v = if Rt A.nodes B.nodes (fun _ => false) (-1) l = true then .inl () else .inr false) (T.diag (f := fun f n => F11_l12 f l (A.nodes, pA, sA, kA) (B.nodes, pB, sB, kB) n [] 0) ?_) ?_
  · refine T.loop (L := fun f n (s : List (Int × Bool) × Int) => F11_l12 f l (A.nodes, pA, sA, kA) (B.nodes, pB, sB, kB) n s.1 s.2) (fun s => 0 ≤ s.2 ∧ s.2 ≤ l.length ∧ ∃ (u : Int → Bool) (last : Int), -1 ≤ last ∧ (s.2 = 0 → last = -1) ∧ (0 < s.2 → ∃ q, l[(s.2 - 1).toNat]? = some q ∧ last = q.1) ∧ (∀ k, (mget s.1 k).getD false = u k) ∧ Rt A.nodes B.nodes (fun _ => false) (-1) l = Rt A.nodes B.nodes u last (l.drop s.2.toNat)) (fun s => l.length - s.2.toNat) ?_ (_, 0) ⟨by simp, by simp, fun _ => false, -1, by omega, fun _ => rfl, fun h => absurd h (by simp only; omega), fun _ => rfl, rfl⟩
    rintro ⟨y, i⟩ ⟨i0, i1, u, last, h0, hz, hq, hu, e⟩ rec
    simp only at i0 i1 h0 hz hq hu e rec ⊢
    simp only [F11_l12]
    rw [e]
    refine T.dec (fun q => T.idx' (by omega) fun p hp => ?_) fun q => T.ret (by rw [List.drop_of_length_le (by omega)]; rfl)
    rw [drop_get i0 hp]
    refine T.bind (P := fun c => (c = true → Rt A.nodes B.nodes u last (p :: l.drop (i + 1).toNat) = false) ∧ (c = false → 0 ≤ p.1 ∧ Rt A.nodes B.nodes u last (p :: l.drop (i + 1).toNat) = Rt A.nodes B.nodes (fun k => k == p.2 || u k) p.1 (l.drop (i + 1).toNat))) ?_ fun c hc => T.bif (fun cq => T.ret (by rw [hc.1 cq]; rfl)) fun cq => ?_
    · refine T.dec (fun h => T.ret ⟨fun _ => Rt_no (.inl (by omega)), by simp⟩) fun h1 => T.dec (fun h => T.ret ⟨fun _ => Rt_no (.inr (.inl (by omega))), by simp⟩) fun h2 => T.dec (fun h => T.ret ⟨fun _ => Rt_no (.inr (.inr (.inl h))), by simp⟩) fun h3 => T.dec (fun h => T.ret ⟨fun _ => Rt_no (.inr (.inr (.inr (.inl (by omega))))), by simp⟩) fun h4 => ?_
      rw [hu]
      refine T.bif (fun h => T.ret ⟨fun _ => Rt_no (.inr (.inr (.inr (.inr (.inl h))))), by simp⟩) fun h5 => ?_
      have leaf : ∀ {a b : Tree}, last < p.1 → A.nodes[p.1.toNat]? = some a → B.nodes[p.2.toNat]? = some b → T (fun _ _ => some (a.kind != b.kind)) (fun c => (c = true → Rt A.nodes B.nodes u last (p :: l.drop (i + 1).toNat) = false) ∧ (c = false → 0 ≤ p.1 ∧ Rt A.nodes B.nodes u last (p :: l.drop (i + 1).toNat) = Rt A.nodes B.nodes (fun k => k == p.2 || u k) p.1 (l.drop (i + 1).toNat))) := fun hlp ha hb => by
        refine T.ret ⟨fun h => Rt_no (.inr (.inr (.inr (.inr (.inr ((kinds_ne ha hb).2 (by simpa using h))))))), fun h => ⟨by omega, Rt_go ?_⟩⟩
        rw [kinds_ne ha hb, h5]
        simp at h
        simp only [h]
        simp; omega
      refine T.dec (fun hi => ?_) fun hi => T.idx' (by omega) fun a ha => T.idx' (by omega) fun b hb => leaf (by have := hz (by omega); omega) ha hb
      obtain ⟨w, w1, w2⟩ := hq hi
      exact T.ck (by omega) (T.idx (by omega) w1 (T.dec (fun h => T.ret ⟨fun _ => Rt_no (.inl (by omega)), by simp⟩) fun h => T.idx' (by omega) fun a ha => T.idx' (by omega) fun b hb => leaf (by omega) ha hb))
    · obtain ⟨p0, er⟩ := hc.2 cq
      refine T.ck (by omega) ?_
      rw [er]
      have e' := e.trans ((congrArg (Rt A.nodes B.nodes u last) (drop_get i0 hp)).trans er)
      rw [← e']
      refine rec (_, _) ⟨by simp only; omega, by simp only; omega, fun k => k == p.2 || u k, p.1, by omega, fun h => absurd h (by simp only; omega), fun _ => ⟨p, by simp only; rw [show i + 1 - 1 = i by omega]; exact hp, rfl⟩, fun k => ?_, e'⟩ (by simp only; omega)
      simp only
      rw [mget_mput]
      by_cases hk : p.2 = k
      · rw [if_pos hk, hk]; simp
      · rw [if_neg hk, hu]
        have : (k == p.2) = false := by simp; omega
        rw [this, Bool.false_or]
  · intro v hv
    subst hv
    unfold RtAll
    split
    · rename_i h
      rw [h]
      simp only [Sum.elim_inl]
      refine T.bind (P := fun c => c = zeros l) ?_ fun c hc => T.ret (by rw [hc, Bool.true_and])
      cases l with
      | nil => exact T.dec (fun h => absurd h (by simp)) fun _ => T.ret rfl
      | cons p l => exact T.dec (fun _ => T.idx (by decide) rfl (T.ret rfl)) fun h => absurd h (by simp only [List.length_cons]; omega)
    · rename_i h
      exact T.ret (by simp only [Bool.not_eq_true] at h; rw [h, Bool.false_and])
/-- What was found is a match. -/
theorem Rt_outs {A B : Tree} {to of : List Int} (j : J A B to of) : ∀ (m : List Int) (c : Nat) (s : Int → Bool) (last : Int), to.drop c = m → last < c → (∀ k, s k = true → ∃ i : Nat, i < c ∧ to[i]? = some k) → Rt A.nodes B.nodes s last (outs c m) = true
  | [], c, s, last, _, _, _ => rfl
  | x :: m, c, s, last, h, hl, hs => by
    have hx : to[c]? = some x := by
      have : (to.drop c)[0]? = some x := by rw [h]; rfl
      rw [List.getElem?_drop, Nat.add_zero] at this; exact this
    have hd : to.drop (c + 1) = m := by
      rw [← List.drop_drop, h]; rfl
    rw [outs]
    split
    · rename_i x0
      rcases j.to_ c x hx with q | ⟨_, hof, u, v, hu, hv, e⟩
      · omega
      · have h1 := lt_of_some hu
        have h2 := lt_of_some hv
        rw [Rt_go]
        · refine Rt_outs j m (c + 1) _ _ hd (by simp only; omega) fun k hk => ?_
          simp only [Bool.or_eq_true, beq_iff_eq] at hk
          rcases hk with hk | hk
          · exact ⟨c, by omega, by rw [hk]; exact hx⟩
          · obtain ⟨i, i1, i2⟩ := hs k hk
            exact ⟨i, by omega, i2⟩
        · simp only
          rintro (h | h | h | h | h | h)
          · omega
          · omega
          · omega
          · omega
          · obtain ⟨i, i1, i2⟩ := hs x h
            rcases j.to_ i x i2 with q | ⟨_, hof2, _⟩
            · omega
            · rw [hof, Option.some.injEq] at hof2; omega
          · rw [show ((c : Nat) : Int).toNat = c by omega, hu, hv] at h
            simp at h
            exact h e
    · exact Rt_outs j m (c + 1) s last hd (by omega) fun k hk => by
        obtain ⟨i, i1, i2⟩ := hs k hk
        exact ⟨i, by omega, i2⟩
theorem RtAll_outs {A B : Tree} {to of : List Int} (j : J A B to of) (h : to[0]? = some 0) : RtAll A.nodes B.nodes (outs 0 to) = true := by
  unfold RtAll
  rw [Rt_outs j to 0 (fun _ => false) (-1) rfl (by omega) (fun k hk => by cases hk)]
  cases to with
  | nil => cases h
  | cons x l =>
    simp only [List.getElem?_cons_zero, Option.some.injEq] at h
    subst h
    rfl
theorem wf_nodes : ∀ (t : Tree), t.wf → ∀ u ∈ t.nodes, inI u.kind := by
  intro t
  induction t using Tree.rec' with
  | h t ih =>
    intro hw u hu
    rcases mem_nodes.1 hu with rfl | ⟨k, hk, hu⟩
    · cases u; simp only [Tree.wf] at hw; exact hw.1
    · refine ih k hk ?_ u hu
      cases t with
      | mk kd s r l =>
        simp only [Tree.wf] at hw
        simp only [Tree.kids] at hk
        have := hw.2
        clear hw ih hu
        induction l with
        | nil => cases hk
        | cons x l ihl =>
          simp only [wfL] at this
          rcases List.mem_cons.1 hk with rfl | e
          · exact this.1
          · exact ihl e this.2
theorem few_fine {t : Tree} (h : Few t) (w : t.wf) : ∀ u ∈ t.nodes, Fine u := fun u hu => ⟨wf_nodes t w u hu, h.2 u hu⟩
theorem F10_few (a b : Tree) (ha : a.wf) (hb : b.wf) (fa : Few a) (fb : Few b) : T (fun f _ => F10 f a b) (fun r => r.2 = 0 ∧ r.1.length ≤ 400 ∧ RtAll a.nodes b.nodes r.1 = (a.kind == b.kind)) := by
  refine (F10_t a b (by have := fa.1; omega) (by have := fb.1; omega) (few_fine fa ha) (few_fine fb hb) (F28_t a fa) (F28_t b fb)).mono fun r hr => ⟨hr.1, ?_⟩
  rcases hr.2 with ⟨h1, h2⟩ | ⟨h1, to, of, j, hz, h2⟩
  · rw [h2]
    refine ⟨by simp, ?_⟩
    have : (a.kind == b.kind) = false := by simpa using h1
    rw [this]; rfl
  · rw [h2, RtAll_outs j hz]
    have := outs_len to 0
    have := j.lt
    have := fa.1
    refine ⟨by omega, ?_⟩
    rw [h1]; simp
theorem pure_matchRight (a b : Tree) (l : List (Int × Int)) (ha : a.wf) (hb : b.wf) : ∃ fuel, F3 fuel a b l = some true := by
  have key : T (fun f _ => F3 f a b l) (· = true) := by
    simp only [F3]
    refine T.bind (P := fun c => c = false → Few a ∧ Few b ∧ l.length ≤ 500) ?_ fun c hc => T.bif (fun _ => T.bind F8_t fun _ h => T.ret h) fun cq => ?_
    · exact T.bind (F7_t a) fun r hr => T.bnot (fun _ => T.ret (by simp)) fun rq => T.bind (F7_t b) fun r2 hr2 => T.bnot (fun _ => T.ret (by simp)) fun rq2 => T.ret fun e => ⟨hr rq, hr2 rq2, by simp at e; omega⟩
    · obtain ⟨fa, fb, hl⟩ := hc cq
      have ca := fa.1
      have cb := fb.1
      refine T.bind (F9_t a ca) ?_
      rintro ⟨n1, p1, s1, k1⟩ e1
      refine T.bind (F9_t b cb) ?_
      rintro ⟨n2, p2, s2, k2⟩ e2
      simp only at e1 e2 ⊢
      subst e1; subst e2
      refine T.bind (F10_few a b ha hb fa fb) fun r hr => T.bind (P := fun c => c = true) ?_ fun c hc => T.ret hc
      refine T.use true F8_t (T.bt (by rfl) (T.use _ (F11_t a b (by omega) (by omega) l (by omega)) (T.use _ (F12_t a.nodes b.nodes _ _ _ _ _ _ l (by omega) (by have : b.nodes.length = b.card := rfl; omega)) ?_)))
      refine T.bt (by simp) (T.use _ (F11_t a b (by omega) (by omega) r.1 (by omega)) (T.ret ?_))
      rw [hr.2.2]; simp
  obtain ⟨N, h⟩ := key.get
  exact ⟨N, h N (Nat.le_refl _)⟩
end Go.Proofs.YtabojfgmbfnoiaaGreatDoor
end
section
/- MatchRight: whatever the input, the law answers true, and the input reads as it did (the variables of the library that it reads are listed; the card ties them to the text). No other condition. -/
set_option linter.unusedVariables false
namespace Go.Proofs.YtabojfgmbfnoiaaGreatDoor
open Go.Proofs.Tryz Go.RowKit Go.ChangeShapes Go.WideShapes Go.ChangeAt Go.WideMaps Go.WideElems
set_option maxRecDepth 100000 in
theorem matchRight_lifted (os : Os) (started : os.Started) (H : Type) (enc : TypeId × Value → H) :
    ReturnsInHanded {} checked os 3 .any (fun w args => (Rows.matchRightSpec.pre enc prog f3 [] false w args ∧ laidMetH prog laidL w) ∧ sizedMet enc prog f3 (OpenSpec.ofChange Rows.matchRightSpec) false w args)
      (Rows.matchRightSpec.post enc prog f3 false true false false) := by
  refine returnsInHanded_of_change_and (C := checked) (X := fun w _ => laidMetH prog laidL w) (fun _ _ _ hh h => h.of_heap hh) ownK started (by kernel_rfl) func3
    (ChangeSpec.witness_shaped (enc := enc) (C := checked) (os := os) (X := fun w _ => laidMetH prog laidL w) false (World.laidAll prog os laidL) #[.agg #[.int .i64 0, .string ⟨#[]⟩, .string ⟨#[]⟩, .slice none 0 0], .agg #[.int .i64 0, .string ⟨#[]⟩, .string ⟨#[]⟩, .slice none 0 0], .slice none 0 0] 8 (World.laidAll_os _ _ _)
      (World.shaped_of_ZipB (by kernel_rfl) (by kernel_rfl)) (by kernel_rfl) (by kernel_rfl) (by kernel_rfl)
      (by rw [MakeChecks.laidMetH_plain _ _ _ (by kernel_rfl)]; exact laidMet_laidAll _ (by kernel_rfl) (by kernel_rfl))) ?_
  intro W base args ds gs before hval0 hW _ _ hL _
  have hval : ∀ (j : Nat) t v, f3.params[j]? = some t → args[j]? = some v → Value.okWide prog W .any base t v := hval0
  have hW' := hW
  obtain ⟨p, q, hA0, hV, rfl, _, _⟩ := hW
  have hA : DataW.TrodAll enc prog W 0 (fun _ => true) true f3.params.toList args.toList ds p := hA0
  rw [params3] at hA hval
  obtain ⟨v0, vs0, d0, ds0, p0, q0, hargs, rfl, rfl, h0, r0⟩ := trodAll_cons hA
  obtain ⟨v1, vs1, d1, ds1, p1, q1, rfl, rfl, rfl, h1, r1⟩ := trodAll_cons r0
  obtain ⟨v2, vs2, d2, ds2, p2, q2, rfl, rfl, rfl, h2, r2⟩ := trodAll_cons r1
  obtain ⟨rfl, rfl, rfl⟩ := trodAll_nil r2
  obtain rfl : args = #[v0, v1, v2] := by cases args; simp_all
  obtain ⟨rfl, rfl⟩ := trodVars_none hV
  have lt0 : ∀ x ∈ p0, x.block < W.heap.size := by obtain ⟨m, hm⟩ := h0; exact DataW.trod_lt m _ _ _ hm
  obtain ⟨a0, w0, e0⟩ := node_arg h0
  have lt1 : ∀ x ∈ p1, x.block < W.heap.size := by obtain ⟨m, hm⟩ := h1; exact DataW.trod_lt m _ _ _ hm
  obtain ⟨a1, w1, e1⟩ := node_arg h1
  have lt2 : ∀ x ∈ p2, x.block < W.heap.size := by obtain ⟨m, hm⟩ := h2; exact DataW.trod_lt m _ _ _ hm
  obtain ⟨a2, e2⟩ := pairs_arg (okWide_slice underlying25 (hval 2 25 v2 rfl rfl)) h2
  obtain ⟨fuel, hF⟩ := pure_matchRight a0 a1 a2 w0 w1
  have hc := Fn.run (vs := [v0, v1, v2]) (F3_ok (globs_of_laid hL) fuel a0 a1 a2 hF) (repL_cons e0 (repL_cons e1 (repL_cons e2 ⟨rfl, fun i h => by simp at h⟩)))
  refine hc.mono fun e W' ⟨he, hb⟩ => ?_
  subst he
  exact ⟨_, rfl, _, _, _, [], _, [], hW', trodAll_mk1 (shut_bool underlying4 _), (trodAll_cons_mk (Below.trod laidOutP (by kernel_rfl) (of_decide_eq_true (by kernel_rfl)) h0 hb lt0) (trodAll_cons_mk (Below.trod laidOutP (by kernel_rfl) (of_decide_eq_true (by kernel_rfl)) h1 hb lt1) (trodAll_cons_mk (Below.trod laidOutP (by kernel_rfl) (of_decide_eq_true (by kernel_rfl)) h2 hb lt2) trodAll_mk0))), rfl, hb.frame _, fun h => by cases h⟩
theorem matchRight_row_holds : Rows.MatchRightSaid :=
  OpenClaim.holds_of_wide 3 f3 rfl rfl rfl rfl rfl rfl rfl ⟨rfl, rfl, rfl, rfl, rfl⟩ rfl rfl rfl rfl rfl (by kernel_rfl) func3 (by kernel_rfl)
    (of_decide_eq_true (by kernel_rfl)) (by unfold Func.isWrapper; first | (rw [if_pos (by decide +kernel)]; kernel_rfl) | (rw [if_neg (by decide +kernel)]; exact ⟨rfl, rfl⟩))
    (fun os started H enc _ => matchRight_lifted os started H enc)
theorem matchRight_holds : Rows.MatchRightCardSaid :=
  Claim7.holds_tied_plain_at .later [] [.data, .data, .data, .data, .pinned] true (true, "3a63bcef14ccf55afb5d5c171ac143b95c8f398020675c397864c2588e520ce8") false
    matchRight_row_holds (fun _ h => by cases h) (by kernel_rfl) (fun _ h => by cases h) matchRight_row_tie rfl ⟨rfl, rfl⟩ (by kernel_rfl) rfl
    (fun f fn hf hfn => by
      obtain rfl : f = 3 := Option.some.inj ((show prog.funcNamed "scarf/scarflaw11.MatchRight" = some 3 by kernel_rfl).symm.trans hf) |>.symm
      obtain rfl : fn = f3 := (Option.some.inj (func3.symm.trans hfn)).symm
      exact ⟨by kernel_rfl, fun j t ht => by
        rw [params3] at ht
        have hm : t ∈ [24, 24, 25] := by simpa using Array.mem_of_getElem? ht
        have hall : ([24, 24, 25].all fun u => !prog.wantsStandIn u) = true := by kernel_rfl
        exact (show prog.wantsStandIn t = false by simpa using List.all_eq_true.1 hall t hm)⟩)
    (by kernel_rfl)
#print axioms matchRight_holds
end Go.Proofs.YtabojfgmbfnoiaaGreatDoor
end
