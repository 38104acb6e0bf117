/- Proof of MatchRight, part 2 of 6: what the functions compute, and that it answers. -/
import Derived.Test.YtabojfgmbfnoiaaGreatDoorZMatchRight1
import Derived.Laws.IdiomCopy
import Derived.WideKeyRuns
import Derived.Lib.AppendStr
import Derived.Lib.UnsafeStr
import Derived.Shelf.LaysM
import Derived.Shelf.Strconv.Itoa3
import Derived.Shelf.Strings.Search1
import Derived.Shelf.Bytes.SlIndexAt
import Derived.Shelf.Spec.DecodeRune
import Derived.Shelf.Bytes.SlTrim
import Derived.Shelf.Strings.Builder1
import Derived.Test.YtabojfgmbfnoiaaGreatDoorProg
import Derived.KernelRfl
import Derived.Test.YtabojfgmbfnoiaaGreatDoorCards
import Derived.Test.YtabojfgmbfnoiaaGreatDoorTie
import Derived.WalkKit
import Derived.ProofKit
import Derived.OpenShut
import Derived.PinnedBridge
import Derived.Lay
import Derived.LaidOnce
import Derived.SevenTiedAt
import Derived.Lib.LaidU8T
import Derived.Carry
section
/- Rows of rows that change: their slices (hs) are told. -/
set_option linter.unusedVariables false
set_option linter.unusedSimpArgs false
namespace Go.Proofs.YtabojfgmbfnoiaaGreatDoor
/-- What holds of these parts holds of those. -/
def Sh (w0 : World) (M M' : List HA) : Prop := ∀ (X : Hp → Prop) w, Mono X → Holds w0 M w X → Holds w0 M' w X
theorem OpS.pre {w0 : World} {P : Program} {o : Oper} {E : Env} {M : List HA} {K : SVal → List HA → Prop} {ι : Type} (M' : ι → List HA) (h : ∀ (X : Hp → Prop) w, Mono X → Holds w0 M w X → ∃ j, Holds w0 (M' j) w X) (k : ∀ j, OpS w0 P o E (M' j) K) : OpS w0 P o E M K := fun X hX a w hd Q => by
  obtain ⟨j, hj⟩ := h (fun φ => EnvRep φ E a ∧ X φ) w (fun φ φ' hl hx => ⟨hx.1.mono hl, hX _ _ hl hx.2⟩) hd
  exact k j X hX a w hj Q
theorem OpS.post {w0 : World} {P : Program} {o : Oper} {E : Env} {M : List HA} {K K0 : SVal → List HA → Prop} (h : OpS w0 P o E M K0) (hk : ∀ s M1, K0 s M1 → ∃ M2, Sh w0 M1 M2 ∧ K s M2) : OpS w0 P o E M K := fun X hX a w hd Q =>
  Oper.wp_mono (fun a' w' ⟨v, s, H', e, k0, r⟩ => by
    obtain ⟨M2, hs, k2⟩ := hk s H' k0
    exact ⟨v, s, M2, e, k2, hs _ _ (fun φ φ' hl hx => ⟨hx.1.mono hl, hX _ _ hl hx.2⟩) r⟩) (h X hX a w hd Q)
abbrev nilH : Hnd := (none, 0, 0)
def rowsL (e : TypeId) (k : EK) : List Hnd → List (List k.T) → List HA
  | q :: hs, xs :: xss => ownA (sl q) e k xs :: rowsL e k hs xss
  | _, _ => []
/-- A row of rows of one's own. -/
def own2A (v : Value) (ety e : TypeId) (k : EK) (hs : List Hnd) (xss : List (List k.T)) : HA where
  p φ h := hs.length = xss.length ∧ (starA (ownA v ety .val (hs.map sl) :: rowsL e k hs xss)).p φ h
  mono hl := fun ⟨e1, e2⟩ => ⟨e1, (starA _).mono hl e2⟩
/-- The same, the row at i being elsewhere. -/
def own2H (v : Value) (ety e : TypeId) (k : EK) (hs : List Hnd) (xss : List (List k.T)) (i : Nat) : HA where
  p φ h := (hs.length = xss.length ∧ i < hs.length) ∧ (starA (ownA v ety .val (hs.map sl) :: (rowsL e k hs xss).eraseIdx i)).p φ h
  mono hl := fun ⟨e1, e3⟩ => ⟨e1, (starA _).mono hl e3⟩
theorem rowsL_get {e : TypeId} {k : EK} : ∀ {hs : List Hnd} {xss : List (List k.T)} {i : Nat} {q : Hnd} {xs : List k.T}, hs[i]? = some q → xss[i]? = some xs → (rowsL e k hs xss)[i]? = some (ownA (sl q) e k xs)
  | q :: hs, xs :: xss, 0, _, _, h1, h2 => by simp at h1 h2; subst h1; subst h2; rfl
  | q :: hs, xs :: xss, i + 1, _, _, h1, h2 => by
    simp only [List.getElem?_cons_succ] at h1 h2
    simp only [rowsL, List.getElem?_cons_succ]
    exact rowsL_get h1 h2
  | [], _, _, _, _, h1, _ => by simp at h1
  | _ :: _, [], _, _, _, _, h2 => by simp at h2
theorem rowsL_set {e : TypeId} {k : EK} : ∀ (hs : List Hnd) (xss : List (List k.T)) (i : Nat) (q : Hnd) (ys : List k.T), rowsL e k (hs.set i q) (xss.set i ys) = (rowsL e k hs xss).set i (ownA (sl q) e k ys)
  | q0 :: hs, xs :: xss, 0, q, ys => rfl
  | q0 :: hs, xs :: xss, i + 1, q, ys => by simp [rowsL, rowsL_set hs xss i q ys]
  | [], _, i, q, ys => by cases i <;> simp [rowsL]
  | _ :: _, [], i, q, ys => by cases i <;> simp [rowsL]
theorem rowsL_snoc {e : TypeId} {k : EK} : ∀ (hs : List Hnd) (xss : List (List k.T)) (q : Hnd) (ys : List k.T), hs.length = xss.length → rowsL e k (hs ++ [q]) (xss ++ [ys]) = rowsL e k hs xss ++ [ownA (sl q) e k ys]
  | [], [], q, ys, _ => rfl
  | q0 :: hs, xs :: xss, q, ys, h => by
    have h : hs.length = xss.length := by simpa using h
    simp [rowsL, rowsL_snoc hs xss q ys h]
  | [], _ :: _, _, _, h => by simp at h
  | _ :: _, [], _, _, h => by simp at h
theorem getD_get {hs : List Hnd} {i : Nat} (h : i < hs.length) : hs[i]? = some (hs.getD i nilH) := by
  rw [List.getD_eq_getElem?_getD, List.getElem?_eq_getElem h]; rfl
theorem set_getD {hs : List Hnd} {i : Nat} : hs.set i (hs.getD i nilH) = hs := by
  by_cases h : i < hs.length
  · rw [List.getD_eq_getElem?_getD, List.getElem?_eq_getElem h]; simp
  · rw [List.set_eq_of_length_le (by omega)]
theorem lt_of_get {α : Type} {hs : List Hnd} {xss : List α} {i : Nat} {xs : α} (hl : hs.length = xss.length) (hz : xss[i]? = some xs) : i < hs.length := by
  obtain ⟨h, _⟩ := List.getElem?_eq_some_iff.1 hz
  omega
class Own2Ctx (v : Value) (H : List HA) (ety e : outParam TypeId) (k : outParam EK) (hs : outParam (List Hnd)) (xss : outParam (List (List k.T))) (C : outParam (HA → List HA)) : Prop where
  u : InCtx (own2A v ety e k hs xss) H C
class Own2HCtx (v : Value) (H : List HA) (ety e : outParam TypeId) (k : outParam EK) (hs : outParam (List Hnd)) (xss : outParam (List (List k.T))) (i : outParam Nat) (C : outParam (HA → List HA)) : Prop where
  u : InCtx (own2H v ety e k hs xss i) H C
class SubCtx (hs : List Hnd) (H : List HA) (v : outParam Value) (ety e : outParam TypeId) (k : outParam EK) (xss : outParam (List (List k.T))) (C : outParam (HA → List HA)) : Prop where
  u : InCtx (own2A v ety e k hs xss) H C
section
variable {v : Value} {ety e : TypeId} {k : EK} {hs : List Hnd} {xss : List (List k.T)} {i : Nat} {q : Hnd} {A : HA} {t m R : List HA} {C : HA → List HA}
instance : Own2Ctx v (own2A v ety e k hs xss :: t) ety e k hs xss (fun B => B :: t) := ⟨.here _ _⟩
instance [h : Own2Ctx v t ety e k hs xss C] : Own2Ctx v (A :: t) ety e k hs xss (fun B => A :: C B) := ⟨.there _ h.u⟩
instance : Own2Ctx v ((own2A v ety e k hs xss :: m) ++ R) ety e k hs xss (fun B => B :: (m ++ R)) := ⟨.here _ _⟩
instance [h : Own2Ctx v (m ++ R) ety e k hs xss C] : Own2Ctx v ((A :: m) ++ R) ety e k hs xss (fun B => A :: C B) := ⟨.there _ h.u⟩
instance [h : Own2Ctx v R ety e k hs xss C] : Own2Ctx v ([] ++ R) ety e k hs xss C := h
instance : Own2HCtx v (own2H v ety e k hs xss i :: t) ety e k hs xss i (fun B => B :: t) := ⟨.here _ _⟩
instance [h : Own2HCtx v t ety e k hs xss i C] : Own2HCtx v (A :: t) ety e k hs xss i (fun B => A :: C B) := ⟨.there _ h.u⟩
instance : Own2HCtx v ((own2H v ety e k hs xss i :: m) ++ R) ety e k hs xss i (fun B => B :: (m ++ R)) := ⟨.here _ _⟩
instance [h : Own2HCtx v (m ++ R) ety e k hs xss i C] : Own2HCtx v ((A :: m) ++ R) ety e k hs xss i (fun B => A :: C B) := ⟨.there _ h.u⟩
instance [h : Own2HCtx v R ety e k hs xss i C] : Own2HCtx v ([] ++ R) ety e k hs xss i C := h
instance : SubCtx hs (own2A v ety e k hs xss :: t) v ety e k xss (fun B => B :: t) := ⟨.here _ _⟩
instance [h : SubCtx hs t v ety e k xss C] : SubCtx hs (A :: t) v ety e k xss (fun B => A :: C B) := ⟨.there _ h.u⟩
instance : SubCtx hs ((own2A v ety e k hs xss :: m) ++ R) v ety e k xss (fun B => B :: (m ++ R)) := ⟨.here _ _⟩
instance [h : SubCtx hs (m ++ R) v ety e k xss C] : SubCtx hs ((A :: m) ++ R) v ety e k xss (fun B => A :: C B) := ⟨.there _ h.u⟩
instance [h : SubCtx hs R v ety e k xss C] : SubCtx hs ([] ++ R) v ety e k xss C := h
theorem own2_open {w0 w : World} {X : Hp → Prop} (h : Holds w0 (own2A v ety e k hs xss :: R) w X) : hs.length = xss.length ∧ Holds w0 ((ownA v ety .val (hs.map sl) :: rowsL e k hs xss) ++ R) w X := by
  obtain ⟨φ, rs, g, s, x⟩ := h
  obtain ⟨q, ks, rfl, ⟨hl, hp⟩, t⟩ := s.cons_inv
  exact ⟨hl, Holds.unstar ⟨φ, _, g, .cons (A := starA _) hp t, x⟩⟩
theorem own2_shut {w0 w : World} {X : Hp → Prop} (hl : hs.length = xss.length) (h : Holds w0 ((ownA v ety .val (hs.map sl) :: rowsL e k hs xss) ++ R) w X) : Holds w0 (own2A v ety e k hs xss :: R) w X := by
  obtain ⟨φ, rs, g, s, x⟩ := h.star
  obtain ⟨q, ks, rfl, hp, t⟩ := s.cons_inv
  exact ⟨φ, _, g, .cons (A := own2A v ety e k hs xss) ⟨hl, hp⟩ t, x⟩
theorem own2H_shut {w0 w : World} {X : Hp → Prop} (hl : hs.length = xss.length) (hq : i < hs.length) (h : Holds w0 ((ownA v ety .val (hs.map sl) :: (rowsL e k hs xss).eraseIdx i) ++ R) w X) : Holds w0 (own2H v ety e k hs xss i :: R) w X := by
  obtain ⟨φ, rs, g, s, x⟩ := h.star
  obtain ⟨q', ks, rfl, hp, t⟩ := s.cons_inv
  exact ⟨φ, _, g, .cons (A := own2H v ety e k hs xss i) ⟨⟨hl, hq⟩, hp⟩ t, x⟩
theorem own2H_open {w0 w : World} {X : Hp → Prop} (h : Holds w0 (own2H v ety e k hs xss i :: R) w X) : (hs.length = xss.length ∧ i < hs.length) ∧ Holds w0 ((ownA v ety .val (hs.map sl) :: (rowsL e k hs xss).eraseIdx i) ++ R) w X := by
  obtain ⟨φ, rs, g, s, x⟩ := h
  obtain ⟨q', ks, rfl, ⟨hl, hp⟩, t⟩ := s.cons_inv
  exact ⟨hl, Holds.unstar ⟨φ, _, g, .cons (A := starA _) hp t, x⟩⟩
/-- The row at i stands ahead. -/
theorem rows_front {xs : List k.T} (hl : hs.length = xss.length) (hz : xss[i]? = some xs) : (ownA v ety .val (hs.map sl) :: (rowsL e k hs xss ++ R)).Perm (ownA (sl (hs.getD i nilH)) e k xs :: ownA v ety .val (hs.map sl) :: ((rowsL e k hs xss).eraseIdx i ++ R)) := by
  have hi : i < hs.length := lt_of_get hl hz
  have hr := rowsL_get (e := e) (k := k) (getD_get hi) hz
  exact (List.Perm.cons _ ((perm_front hr).append_right R)).trans (List.Perm.swap _ _ _)
/-- The row at i, which may have changed, goes back. -/
theorem rows_back {ys : List k.T} {q' : Hnd} (hl : hs.length = xss.length) (hi : i < hs.length) : (ownA v ety .val ((hs.map sl).set i (sl q')) :: ((rowsL e k hs xss).eraseIdx i ++ (ownA (sl q') e k ys :: R))).Perm ((ownA v ety .val ((hs.set i q').map sl) :: rowsL e k (hs.set i q') (xss.set i ys)) ++ R) := by
  have hz : (rowsL e k hs xss)[i]? = some (ownA (sl (hs.getD i nilH)) e k (xss[i]'(by omega))) := rowsL_get (getD_get hi) (List.getElem?_eq_getElem _)
  rw [List.map_set, rowsL_set]
  exact List.Perm.cons _ (List.perm_middle.trans ((perm_set (B := ownA (sl q') e k ys) hz).append_right R))
end
section
variable {w0 : World} {P : Program} {E : Env} {M : List HA} {K : SVal → List HA → Prop} {dst : Option Tmp} {ty : TypeId} {pos : String} {af : Array Edge} {gd : Option (Nat × Bool)} {t ety e : TypeId} {x y : Operand} {v : Value} {k : EK} {hs : List Hnd} {xss : List (List k.T)} {C : HA → List HA} {i : Nat} {kk : IntKind} {n : Int}
/-- An operation at what lies open. -/
theorem OpS.open2 {o : Oper} [hc : Own2Ctx v M ety e k hs xss C] (h : ∀ R, (∀ A, (A :: R).Perm (C A)) → M.Perm (own2A v ety e k hs xss :: R) → hs.length = xss.length → OpS w0 P o E (ownA v ety .val (hs.map sl) :: (rowsL e k hs xss ++ R)) K) : OpS w0 P o E M K := by
  obtain ⟨R, p, p'⟩ := hc.u
  refine OpS.pre (ι := PLift (hs.length = xss.length)) (fun _ => ownA v ety .val (hs.map sl) :: (rowsL e k hs xss ++ R)) (fun X w hX hh => ?_) (fun hl => h R p' p hl.down)
  obtain ⟨hl, h2⟩ := own2_open (hh.perm p)
  exact ⟨⟨hl⟩, h2⟩
theorem OpS.openH {o : Oper} [hc : Own2HCtx v M ety e k hs xss i C] (h : ∀ R, (∀ A, (A :: R).Perm (C A)) → M.Perm (own2H v ety e k hs xss i :: R) → hs.length = xss.length → i < hs.length → OpS w0 P o E (ownA v ety .val (hs.map sl) :: ((rowsL e k hs xss).eraseIdx i ++ R)) K) : OpS w0 P o E M K := by
  obtain ⟨R, p, p'⟩ := hc.u
  refine OpS.pre (ι := PLift (hs.length = xss.length ∧ i < hs.length)) (fun _ => ownA v ety .val (hs.map sl) :: ((rowsL e k hs xss).eraseIdx i ++ R)) (fun X w hX hh => ?_) (fun hl => h R p' p hl.down.1 hl.down.2)
  obtain ⟨hl, h2⟩ := own2H_open (hh.perm p)
  exact ⟨⟨hl⟩, h2⟩
theorem SubCtx.c [h : SubCtx hs M v ety e k xss C] : Own2Ctx v M ety e k hs xss C := ⟨h.u⟩
theorem O_idx_own2 (ht : slcB P t 1 = true) (hx : look E x = some (.val v)) (hy : look E y = some (.val (.int kk n))) [hc : Own2Ctx v M ety e k hs xss C] (h0 : 0 ≤ n) (hz : n < xss.length) (h : K (.opt v n.toNat) M) : OpS w0 P ⟨dst, .indexAddr t x y, ty, pos, af, gd⟩ E M K :=
  OpS.open2 fun R p' p hl => by
    refine OpS.post (O_indexAddr_own (k := .val) (xs := hs.map sl) (K := fun s M1 => s = .opt v (n.toNat * 1) ∧ M1 = ownA v ety .val (hs.map sl) :: (rowsL e k hs xss ++ R)) ht hx hy h0 (by simp [hl]; exact hz) ⟨rfl, rfl⟩) ?_
    rintro s M1 ⟨rfl, rfl⟩
    exact ⟨M, fun X w hX hh => (own2_shut hl hh).perm p.symm, by rw [Nat.mul_one]; exact h⟩
theorem O_idx_own2H (ht : slcB P t 1 = true) (hx : look E x = some (.val v)) (hy : look E y = some (.val (.int kk n))) [hc : Own2HCtx v M ety e k hs xss i C] (h0 : 0 ≤ n) (hz : n < xss.length) (h : K (.opt v n.toNat) M) : OpS w0 P ⟨dst, .indexAddr t x y, ty, pos, af, gd⟩ E M K :=
  OpS.openH fun R p' p hl hi => by
    refine OpS.post (O_indexAddr_own (k := .val) (xs := hs.map sl) (K := fun s M1 => s = .opt v (n.toNat * 1) ∧ M1 = ownA v ety .val (hs.map sl) :: ((rowsL e k hs xss).eraseIdx i ++ R)) ht hx hy h0 (by simp [hl]; exact hz) ⟨rfl, rfl⟩) ?_
    rintro s M1 ⟨rfl, rfl⟩
    exact ⟨M, fun X w hX hh => (own2H_shut hl hi hh).perm p.symm, by rw [Nat.mul_one]; exact h⟩
theorem O_len_own2 (ht : (match P.underlying t with | some (.slice _) => true | _ => false) = true) (hx : look E x = some (.val v)) [hc : Own2Ctx v M ety e k hs xss C] (h : K (sI xss.length) M) : OpS w0 P ⟨dst, .call ⟨.builtin .len, #[x], #[t]⟩, ty, pos, af, gd⟩ E M K :=
  OpS.open2 fun R p' p hl => by
    refine OpS.post (O_len_own (k := .val) (xs := hs.map sl) (K := fun s M1 => s = sI xss.length ∧ M1 = ownA v ety .val (hs.map sl) :: (rowsL e k hs xss ++ R)) ht hx ⟨by simp [hl], rfl⟩) ?_
    rintro s M1 ⟨rfl, rfl⟩
    exact ⟨M, fun X w hX hh => (own2_shut hl hh).perm p.symm, h⟩
/-- The slice of one of the rows. -/
theorem O_load_row2 {off : Nat} {xs : List k.T} (ht : oneB P t = true) (hx : look E x = some (.opt v off)) [hc : Own2Ctx v M ety e k hs xss C] (ho : off = i) (hz : xss[i]? = some xs) (h : K (.val (sl (hs.getD i nilH))) M) : OpS w0 P ⟨dst, .load t x, ty, pos, af, gd⟩ E M K :=
  OpS.open2 fun R p' p hl => by
    have hi : i < hs.length := lt_of_get hl hz
    refine OpS.post (O_load_opt (k := .val) (xs := hs.map sl) (i := i) (j := 0) (z := sl (hs.getD i nilH)) (K := fun s M1 => s = .val (sl (hs.getD i nilH)) ∧ M1 = ownA v ety .val (hs.map sl) :: (rowsL e k hs xss ++ R)) ht hx (by simp [EK.size]; exact ho) (by simp only [List.getElem?_map, getD_get hi]; rfl) rfl ⟨rfl, rfl⟩) ?_
    rintro s M1 ⟨rfl, rfl⟩
    exact ⟨M, fun X w hX hh => (own2_shut hl hh).perm p.symm, h⟩
theorem O_idx_sub {xs : List k.T} (ht : slcB P t k.size = true) (hx : look E x = some (.val (sl (hs.getD i nilH)))) (hy : look E y = some (.val (.int kk n))) [hc : SubCtx hs M v ety e k xss C] (hz : xss[i]? = some xs) (h0 : 0 ≤ n) (hn : n < xs.length) (h : K (.opt (sl (hs.getD i nilH)) (n.toNat * k.size)) M) : OpS w0 P ⟨dst, .indexAddr t x y, ty, pos, af, gd⟩ E M K :=
  OpS.open2 (hc := hc.c) fun R p' p hl => by
    refine OpS.pre (ι := Unit) (fun _ => ownA (sl (hs.getD i nilH)) e k xs :: ownA v ety .val (hs.map sl) :: ((rowsL e k hs xss).eraseIdx i ++ R)) (fun X w hX hh => ⟨(), hh.perm (rows_front hl hz)⟩) (fun _ => ?_)
    refine OpS.post (O_indexAddr_own (k := k) (xs := xs) (K := fun s M1 => s = .opt (sl (hs.getD i nilH)) (n.toNat * k.size) ∧ M1 = ownA (sl (hs.getD i nilH)) e k xs :: ownA v ety .val (hs.map sl) :: ((rowsL e k hs xss).eraseIdx i ++ R)) ht hx hy h0 hn ⟨rfl, rfl⟩) ?_
    rintro s M1 ⟨rfl, rfl⟩
    exact ⟨M, fun X w hX hh => (own2_shut hl (hh.perm (rows_front hl hz).symm)).perm p.symm, h⟩
theorem O_len_sub {xs : List k.T} (ht : (match P.underlying t with | some (.slice _) => true | _ => false) = true) (hx : look E x = some (.val (sl (hs.getD i nilH)))) [hc : SubCtx hs M v ety e k xss C] (hz : xss[i]? = some xs) (h : K (sI xs.length) M) : OpS w0 P ⟨dst, .call ⟨.builtin .len, #[x], #[t]⟩, ty, pos, af, gd⟩ E M K :=
  OpS.open2 (hc := hc.c) fun R p' p hl => by
    refine OpS.pre (ι := Unit) (fun _ => ownA (sl (hs.getD i nilH)) e k xs :: ownA v ety .val (hs.map sl) :: ((rowsL e k hs xss).eraseIdx i ++ R)) (fun X w hX hh => ⟨(), hh.perm (rows_front hl hz)⟩) (fun _ => ?_)
    refine OpS.post (O_len_own (k := k) (xs := xs) (K := fun s M1 => s = sI xs.length ∧ M1 = ownA (sl (hs.getD i nilH)) e k xs :: ownA v ety .val (hs.map sl) :: ((rowsL e k hs xss).eraseIdx i ++ R)) ht hx ⟨rfl, rfl⟩) ?_
    rintro s M1 ⟨rfl, rfl⟩
    exact ⟨M, fun X w hX hh => (own2_shut hl (hh.perm (rows_front hl hz).symm)).perm p.symm, h⟩
theorem O_load_sub {xs : List k.T} {off m j : Nat} {z : k.T} {s : SVal} (ht : oneB P t = true) (hx : look E x = some (.opt (sl (hs.getD i nilH)) off)) [hc : SubCtx hs M v ety e k xss C] (hz : xss[i]? = some xs) (ho : off = m * k.size + j) (hm : xs[m]? = some z) (hs' : (k.view z)[j]? = some s) (h : K s M) : OpS w0 P ⟨dst, .load t x, ty, pos, af, gd⟩ E M K :=
  OpS.open2 (hc := hc.c) fun R p' p hl => by
    refine OpS.pre (ι := Unit) (fun _ => ownA (sl (hs.getD i nilH)) e k xs :: ownA v ety .val (hs.map sl) :: ((rowsL e k hs xss).eraseIdx i ++ R)) (fun X w hX hh => ⟨(), hh.perm (rows_front hl hz)⟩) (fun _ => ?_)
    refine OpS.post (O_load_opt (k := k) (xs := xs) (i := m) (j := j) (K := fun s1 M1 => s1 = s ∧ M1 = ownA (sl (hs.getD i nilH)) e k xs :: ownA v ety .val (hs.map sl) :: ((rowsL e k hs xss).eraseIdx i ++ R)) ht hx ho hm hs' ⟨rfl, rfl⟩) ?_
    rintro s1 M1 ⟨rfl, rfl⟩
    exact ⟨M, fun X w hX hh => (own2_shut hl (hh.perm (rows_front hl hz).symm)).perm p.symm, h⟩
theorem O_store_sub {xs : List k.T} {off m j n : Nat} {s : SVal} {z z' : k.T} (ht : ((P.info? t).map (·.size)) = some n) (hx : look E x = some (.opt (sl (hs.getD i nilH)) off)) (hy : look E y = some s) (h1 : s.whole = true) (hn : s.cells.length = n) [hc : SubCtx hs M v ety e k xss C] (hz : xss[i]? = some xs) (ho : off = m * k.size + j) (hm : xs[m]? = some z) (hz' : lset (k.view z) j s.cells = k.view z') (hj : j + n ≤ k.size)
    (h : K (.val undef) (C (own2A v ety e k hs (xss.set i (xs.set m z'))))) : OpS w0 P ⟨dst, .store t x y, ty, pos, af, gd⟩ E M K :=
  OpS.open2 (hc := hc.c) fun R p' p hl => by
    have hi : i < hs.length := lt_of_get hl hz
    refine OpS.pre (ι := Unit) (fun _ => ownA (sl (hs.getD i nilH)) e k xs :: ownA v ety .val (hs.map sl) :: ((rowsL e k hs xss).eraseIdx i ++ R)) (fun X w hX hh => ⟨(), hh.perm (rows_front hl hz)⟩) (fun _ => ?_)
    refine OpS.post (O_store_opt (k := k) (xs := xs) (i := m) (j := j) (K := fun s1 M1 => s1 = .val undef ∧ M1 = ownA (sl (hs.getD i nilH)) e k (xs.set m z') :: ownA v ety .val (hs.map sl) :: ((rowsL e k hs xss).eraseIdx i ++ R)) ht hx hy h1 hn ho hm hz' hj ⟨rfl, rfl⟩) ?_
    rintro s1 M1 ⟨rfl, rfl⟩
    refine ⟨_, fun X w hX hh => ?_, h⟩
    have e1 : ownA v ety .val ((hs.map sl).set i (sl (hs.getD i nilH))) = ownA v ety .val (hs.map sl) := by rw [← List.map_set, set_getD]
    have h2 : Holds w0 (ownA v ety .val ((hs.map sl).set i (sl (hs.getD i nilH))) :: ((rowsL e k hs xss).eraseIdx i ++ (ownA (sl (hs.getD i nilH)) e k (xs.set m z') :: R))) w X := by
      rw [e1]
      exact hh.perm ((List.Perm.swap _ _ _).trans (List.Perm.cons _ List.perm_middle.symm))
    have h3 := h2.perm (rows_back hl hi)
    rw [set_getD] at h3
    exact (own2_shut (by simp [hl]) h3).perm (p' _)
theorem A_sub_own {by_ : Nat} {v2 : Value} {te2 : TypeId} {H2 : List HA} {xs ys : List k.T} (ht : elemB P t e k.size by_ = true) (hb0 : Nat.blt 0 by_ = true) (h1 : (ys.flatMap k.view).all SVal.one = true) (hx : look E x = some (.val (sl (hs.getD i nilH)))) (hy : look E y = some (.val v2)) [hd : OwnDel v2 M te2 k ys H2] [hc : SubCtx hs H2 v ety e k xss C] (hz : xss[i]? = some xs)
    (hb : (xs.length + ys.length) * by_ ≤ 140737488355328) (h : ∀ q : Hnd, K (.val (sl q)) (ownA (sl q) e k (xs ++ ys) :: C (own2H v ety e k hs xss i))) : OpS w0 P ⟨dst, .call ⟨.builtin .append, #[x, y], #[t, t]⟩, ty, pos, af, gd⟩ E M K := by
  refine OpS.pre (ι := Unit) (fun _ => ownA v2 te2 k ys :: H2) (fun X w hX hh => ⟨(), hh.perm hd.u.perm⟩) (fun _ => ?_)
  refine OpS.open2 (hc := ⟨.there (ownA v2 te2 k ys) hc.u⟩) fun R p' p hl => ?_
  have hi : i < hs.length := lt_of_get hl hz
  obtain ⟨R2, p2, p3⟩ := hc.u
  have hR : (ownA v2 te2 k ys :: R2).Perm R := ((List.Perm.cons_inv (a := own2A v ety e k hs xss) (((List.Perm.swap _ _ _).trans (List.Perm.cons _ p2.symm)).trans p)))
  refine OpS.pre (ι := Unit) (fun _ => ownA v2 te2 k ys :: ownA (sl (hs.getD i nilH)) e k xs :: ownA v ety .val (hs.map sl) :: ((rowsL e k hs xss).eraseIdx i ++ R2)) (fun X w hX hh => ⟨(), (hh.perm (rows_front hl hz)).perm ?_⟩) (fun _ => ?_)
  · have a1 : (ownA (sl (hs.getD i nilH)) e k xs :: ownA v ety .val (hs.map sl) :: ((rowsL e k hs xss).eraseIdx i ++ R)).Perm (ownA (sl (hs.getD i nilH)) e k xs :: ownA v ety .val (hs.map sl) :: ((rowsL e k hs xss).eraseIdx i ++ (ownA v2 te2 k ys :: R2))) := List.Perm.cons _ (List.Perm.cons _ (hR.symm.append_left _))
    refine a1.trans ?_
    exact List.perm_middle (l₁ := ownA (sl (hs.getD i nilH)) e k xs :: ownA v ety .val (hs.map sl) :: (rowsL e k hs xss).eraseIdx i)
  refine OpS.post (A_own (by_ := by_) (k := k) (xs := xs) (ys := ys) (e := e) (te2 := te2) (hd := ⟨.here _⟩) (K := fun s1 M1 => ∃ q : Hnd, s1 = .val (sl q) ∧ M1 = ownA (sl q) e k (xs ++ ys) :: ownA v ety .val (hs.map sl) :: ((rowsL e k hs xss).eraseIdx i ++ R2)) ht hb0 h1 hx hy hb (fun q => ⟨q, rfl, rfl⟩)) ?_
  rintro s1 M1 ⟨q, rfl, rfl⟩
  refine ⟨_, fun X w hX hh => ?_, h q⟩
  have h2 : Holds w0 ((ownA v ety .val (hs.map sl) :: (rowsL e k hs xss).eraseIdx i) ++ (ownA (sl q) e k (xs ++ ys) :: R2)) w X := hh.perm ((List.Perm.swap _ _ _).trans (List.Perm.cons _ List.perm_middle.symm))
  exact ((own2H_shut hl hi h2).perm (List.Perm.swap _ _ _)).perm (List.Perm.cons _ (p3 _))
/-- The row that stood apart is put back. -/
theorem O_store_own2 {off : Nat} {q' : Hnd} {ys : List k.T} {H2 : List HA} (ht : ((P.info? t).map (·.size)) = some 1) (hx : look E x = some (.opt v off)) (hy : look E y = some (.val (sl q'))) [hd : OwnDel (sl q') M e k ys H2] [hc : Own2HCtx v H2 ety e k hs xss i C] (ho : off = i)
    (h : K (.val undef) (C (own2A v ety e k (hs.set i q') (xss.set i ys)))) : OpS w0 P ⟨dst, .store t x y, ty, pos, af, gd⟩ E M K := by
  obtain ⟨R, p, p'⟩ := hc.u
  refine OpS.pre (ι := PLift (hs.length = xss.length ∧ i < hs.length)) (fun _ => ownA v ety .val (hs.map sl) :: ((rowsL e k hs xss).eraseIdx i ++ (ownA (sl q') e k ys :: R))) (fun X w hX hh => ?_) (fun hl => ?_)
  · have h1 := (hh.perm hd.u.perm).perm (List.Perm.cons _ p)
    have h2 := h1.perm (List.Perm.swap _ _ _)
    obtain ⟨hl, h3⟩ := own2H_open h2
    exact ⟨⟨hl⟩, h3⟩
  · obtain ⟨hl, hi⟩ := hl
    refine OpS.post (O_store_opt (k := .val) (xs := hs.map sl) (i := i) (j := 0) (z := sl (hs.getD i nilH)) (z' := sl q') (n := 1) (K := fun s M1 => s = .val undef ∧ M1 = ownA v ety .val ((hs.map sl).set i (sl q')) :: ((rowsL e k hs xss).eraseIdx i ++ (ownA (sl q') e k ys :: R))) ht hx hy rfl rfl (by simp [EK.size]; exact ho) (by simp only [List.getElem?_map, getD_get hi]; rfl) rfl (by simp [EK.size]) ⟨rfl, rfl⟩) ?_
    rintro s M1 ⟨rfl, rfl⟩
    exact ⟨_, fun X w hX hh => (own2_shut (hs := hs.set i q') (xss := xss.set i ys) (by simp [hl]) (hh.perm (rows_back hl hi))).perm (p' _), h⟩
/-- A row is put in the place of another. -/
theorem O_store_row2 {off : Nat} {q' : Hnd} {xs ys : List k.T} {H2 : List HA} (ht : ((P.info? t).map (·.size)) = some 1) (hx : look E x = some (.opt v off)) (hy : look E y = some (.val (sl q'))) [hd : OwnDel (sl q') M e k ys H2] [hc : Own2Ctx v H2 ety e k hs xss C] (ho : off = i) (hz : xss[i]? = some xs)
    (h : K (.val undef) (C (own2A v ety e k (hs.set i q') (xss.set i ys)))) : OpS w0 P ⟨dst, .store t x y, ty, pos, af, gd⟩ E M K := by
  obtain ⟨R, p, p'⟩ := hc.u
  refine OpS.pre (ι := PLift (hs.length = xss.length)) (fun _ => own2H v ety e k hs xss i :: ownA (sl q') e k ys :: R) (fun X w hX hh => ?_) (fun hl => ?_)
  · have h1 := (hh.perm hd.u.perm).perm (List.Perm.cons _ p)
    have h2 := h1.perm (List.Perm.swap _ _ _)
    obtain ⟨hl, h3⟩ := own2_open h2
    have hi : i < hs.length := lt_of_get hl hz
    have h4 := (h3.perm (rows_front hl hz)).drop
    exact ⟨⟨hl⟩, own2H_shut hl hi h4⟩
  · have hl := hl.down
    refine OpS.post (O_store_own2 (hd := ⟨.there _ (.here _)⟩) (hc := ⟨.here _ _⟩) (K := fun s1 M1 => s1 = .val undef ∧ M1 = own2A v ety e k (hs.set i q') (xss.set i ys) :: R) ht hx hy ho ⟨rfl, rfl⟩) ?_
    rintro s1 M1 ⟨rfl, rfl⟩
    exact ⟨_, fun X w hX hh => hh.perm (p' _), h⟩
/-- A row more: nil, or one's own. -/
theorem A_own2 {te2 : TypeId} {by_ : Nat} {v2 : Value} {H2 : List HA} (ht : elemB P t ety 1 by_ = true) (hb0 : Nat.blt 0 by_ = true) (hx : look E x = some (.val v)) (hy : look E y = some (.val v2)) [hd : OwnDel v2 M te2 .val [sl (none, 0, 0)] H2] [hc : Own2Ctx v H2 ety e k hs xss C]
    (hb : (xss.length + 1) * by_ ≤ 140737488355328) (h : ∀ q : Hnd, K (.val (sl q)) (C (own2A (sl q) ety e k (hs ++ [nilH]) (xss ++ [[]])))) : OpS w0 P ⟨dst, .call ⟨.builtin .append, #[x, y], #[t, t]⟩, ty, pos, af, gd⟩ E M K := by
  obtain ⟨R, p, p'⟩ := hc.u
  refine OpS.pre (ι := PLift (hs.length = xss.length)) (fun _ => ownA v2 te2 .val [sl (none, 0, 0)] :: ownA v ety .val (hs.map sl) :: (rowsL e k hs xss ++ R)) (fun X w hX hh => ?_) (fun hl => ?_)
  · have h1 := (hh.perm hd.u.perm).perm (List.Perm.cons _ p)
    obtain ⟨hl, h2⟩ := own2_open (R := ownA v2 te2 .val [sl (none, 0, 0)] :: R) (h1.perm (List.Perm.swap _ _ _))
    refine ⟨⟨hl⟩, h2.perm ?_⟩
    exact List.perm_middle (l₁ := ownA v ety .val (hs.map sl) :: rowsL e k hs xss)
  · have hl := hl.down
    refine OpS.post (A_own (by_ := by_) (k := .val) (xs := hs.map sl) (ys := [sl (none, 0, 0)]) (e := ety) (te2 := te2) (K := fun s M1 => ∃ q : Hnd, s = .val (sl q) ∧ M1 = ownA (sl q) ety .val (hs.map sl ++ [sl (none, 0, 0)]) :: (rowsL e k hs xss ++ R)) ht hb0 rfl hx hy (by simp [hl]; exact hb) (fun q => ⟨q, rfl, rfl⟩)) ?_
    rintro s M1 ⟨q, rfl, rfl⟩
    refine ⟨_, fun X w hX hh => ?_, h q⟩
    have h1 := own_nil_holds e k hh
    have h2 : Holds w0 ((ownA (sl q) ety .val ((hs ++ [nilH]).map sl) :: rowsL e k (hs ++ [nilH]) (xss ++ [[]])) ++ R) w X := h1.perm (by
      rw [List.map_append, rowsL_snoc hs xss _ _ hl]
      simp only [List.cons_append, List.append_assoc, List.nil_append, List.map_cons, List.map_nil]
      refine (List.Perm.swap _ _ _).trans (List.Perm.cons _ ?_)
      exact List.perm_middle.symm)
    exact (own2_shut (hs := hs ++ [nilH]) (xss := xss ++ [[]]) (by simp [hl]) h2).perm (p' _)
theorem A_own2r {te2 : TypeId} {by_ : Nat} {v2 : Value} {H2 H3 : List HA} {q0 : Hnd} {ys : List k.T} (ht : elemB P t ety 1 by_ = true) (hb0 : Nat.blt 0 by_ = true) (hx : look E x = some (.val v)) (hy : look E y = some (.val v2)) [hd : OwnDel v2 M te2 .val [sl q0] H2] [hd2 : OwnDel (sl q0) H2 e k ys H3] [hc : Own2Ctx v H3 ety e k hs xss C]
    (hb : (xss.length + 1) * by_ ≤ 140737488355328) (h : ∀ q : Hnd, K (.val (sl q)) (C (own2A (sl q) ety e k (hs ++ [q0]) (xss ++ [ys])))) : OpS w0 P ⟨dst, .call ⟨.builtin .append, #[x, y], #[t, t]⟩, ty, pos, af, gd⟩ E M K := by
  obtain ⟨R, p, p'⟩ := hc.u
  refine OpS.pre (ι := PLift (hs.length = xss.length)) (fun _ => ownA v2 te2 .val [sl q0] :: ownA v ety .val (hs.map sl) :: (rowsL e k hs xss ++ (ownA (sl q0) e k ys :: R))) (fun X w hX hh => ?_) (fun hl => ?_)
  · have h1 := (hh.perm hd.u.perm).perm (List.Perm.cons _ (hd2.u.perm.trans (List.Perm.cons _ p)))
    have h1' := h1.perm ((List.Perm.cons _ (List.Perm.swap _ _ _)).trans (List.Perm.swap _ _ _))
    obtain ⟨hl, h2⟩ := own2_open (R := ownA v2 te2 .val [sl q0] :: ownA (sl q0) e k ys :: R) h1'
    refine ⟨⟨hl⟩, h2.perm ?_⟩
    exact List.perm_middle (l₁ := ownA v ety .val (hs.map sl) :: rowsL e k hs xss)
  · have hl := hl.down
    refine OpS.post (A_own (by_ := by_) (k := .val) (xs := hs.map sl) (ys := [sl q0]) (e := ety) (te2 := te2) (K := fun s M1 => ∃ q : Hnd, s = .val (sl q) ∧ M1 = ownA (sl q) ety .val (hs.map sl ++ [sl q0]) :: (rowsL e k hs xss ++ (ownA (sl q0) e k ys :: R))) ht hb0 rfl hx hy (by simp [hl]; exact hb) (fun q => ⟨q, rfl, rfl⟩)) ?_
    rintro s M1 ⟨q, rfl, rfl⟩
    refine ⟨_, fun X w hX hh => ?_, h q⟩
    have h2 : Holds w0 ((ownA (sl q) ety .val ((hs ++ [q0]).map sl) :: rowsL e k (hs ++ [q0]) (xss ++ [ys])) ++ R) w X := hh.perm (by
      rw [List.map_append, rowsL_snoc hs xss _ _ hl]
      simp only [List.cons_append, List.append_assoc, List.nil_append, List.map_cons, List.map_nil]
      exact .refl _)
    exact (own2_shut (hs := hs ++ [q0]) (xss := xss ++ [ys]) (by simp [hl]) h2).perm (p' _)
/-- A nil row of rows is owned for nothing. -/
theorem own2_nil {w0 w : World} {R : List HA} {X : Hp → Prop} (ety e : TypeId) (k : EK) (h : Holds w0 R w X) : Holds w0 (own2A (.slice none 0 0) ety e k [] [] :: R) w X := own2_shut (hs := []) rfl (own_nil_holds ety .val h)
theorem T_nil2 {Γ : Cx} (ety e : TypeId) (k : EK) : Turn Γ E M E (own2A (.slice none 0 0) ety e k [] [] :: M) := fun a w hd => ⟨hd.1, hd.2.1, own2_nil ety e k hd.2.2⟩
theorem rows_nils {w0 w : World} {R : List HA} {X : Hp → Prop} (e : TypeId) (k : EK) : ∀ n, Holds w0 R w X → Holds w0 (rowsL e k (List.replicate n nilH) (List.replicate n []) ++ R) w X
  | 0, h => h
  | n + 1, h => by simp only [List.replicate_succ, rowsL, List.cons_append]; exact own_nil_holds e k (rows_nils e k n h)
/-- A new row of nil rows. -/
theorem O_make2 {by_ : Nat} {k1 k2 : IntKind} {l c : Int} (ht : elemB P t ety 1 by_ = true) (hz : zeroIs P ety [.slice none 0 0]) (hx : look E x = some (.val (.int k1 l))) (hy : look E y = some (.val (.int k2 c)))
    (hb : 0 ≤ l ∧ l ≤ c ∧ (by_ : Int) * c ≤ 281474976710656 ∧ c ≤ 1000000000) (h : ∀ q : Hnd, K (.val (sl q)) (own2A (sl q) ety e k (List.replicate l.toNat nilH) (List.replicate l.toNat []) :: M)) : OpS w0 P ⟨dst, .makeSlice t x y, ty, pos, af, gd⟩ E M K := by
  refine OpS.post (O_make (by_ := by_) (k := .val) (sl nilH) ht hz (fun _ _ h => h) hx hy hb (K := fun s M1 => ∃ q : Hnd, s = .val (sl q) ∧ M1 = ownA (sl q) ety .val (List.replicate l.toNat (sl nilH)) :: M) (fun q => ⟨q, rfl, rfl⟩)) ?_
  rintro s M1 ⟨q, rfl, rfl⟩
  refine ⟨_, fun X w hX hh => ?_, h q⟩
  refine own2_shut (by simp) ?_
  rw [List.map_replicate]
  obtain ⟨φ, hps, g, hS, hX2⟩ := hh.perm (List.perm_append_comm (l₁ := [_]) (l₂ := M))
  have := rows_nils e k l.toNat hh
  exact this.perm (List.perm_middle)
theorem freeze_rows {w0 w : World} {e : TypeId} {k : EK} {R : List HA} : ∀ (hs : List Hnd) (xss : List (List k.T)) (X : Hp → Prop), hs.length = xss.length → Mono X → Holds w0 (rowsL e k hs xss ++ R) w X → Holds w0 R w (fun φ => (∀ j (h1 : j < xss.length) (h2 : j < hs.length), Rep φ (.isl k xss[j]) (sl hs[j])) ∧ X φ)
  | [], [], X, _, _, h => h.imp fun φ hx => ⟨fun j h1 => by simp at h1, hx⟩
  | q0 :: hs, xs :: xss, X, hl, hX, h => by
    have hl : hs.length = xss.length := by simpa using hl
    have h1 := freeze_own (v := sl q0) (ety := e) (k := k) (xs := xs) (H' := rowsL e k hs xss ++ R) (hd := ⟨Del.here _⟩) hX h
    have h2 := freeze_rows hs xss (fun φ => Rep φ (.isl k xs) (sl q0) ∧ X φ) hl (fun φ φ' hle hx => ⟨hx.1.mono hle, hX _ _ hle hx.2⟩) h1
    refine h2.imp fun φ hx => ⟨fun j j1 j2 => ?_, hx.2.2⟩
    cases j with
    | zero => exact hx.2.1
    | succ j => exact hx.1 j (by simpa using j1) (by simpa using j2)
  | [], _ :: _, _, h, _, _ => by simp at h
  | _ :: _, [], _, h, _, _ => by simp at h
theorem freeze_own2 {w0 w : World} {v : Value} {ety e : TypeId} {hs : List Hnd} {xss : List (List Int)} {R : List HA} {X : Hp → Prop} (hX : Mono X) (h : Holds w0 (own2A v ety e .int hs xss :: R) w X) : Holds w0 R w (fun φ => Rep φ (.isl .ints xss) v ∧ X φ) := by
  obtain ⟨hl, h1⟩ := own2_open h
  have h2 := freeze_own (v := v) (ety := ety) (k := .val) (xs := hs.map sl) (H' := rowsL e .int hs xss ++ R) (hd := ⟨Del.here _⟩) hX h1
  have h3 := freeze_rows (k := .int) hs xss (fun φ => Rep φ (.isl .val (hs.map sl)) v ∧ X φ) hl (fun φ φ' hle hx => ⟨hx.1.mono hle, hX _ _ hle hx.2⟩) h2
  refine h3.imp fun φ hx => ⟨?_, hx.2.2⟩
  obtain ⟨hr, hv, _⟩ := hx
  generalize hk : hs.map sl = vals at hv
  cases hv with
  | isl _ _ A c hc hm hA u hu hrr =>
    have hlv : vals.length = xss.length := by rw [← hk]; simp [hl]
    have key : Rep φ (.isl .ints xss) (.slice A xss.length c) := by
      refine .isl .ints xss A c (by omega) hm (fun h0 => hA (by omega)) u (fun ad e0 i hi j hj => hu ad e0 i (by omega) j hj) (fun i hi j hj => ?_)
      have hj0 : j = 0 := by simp [EK.size] at hj; exact hj
      subst hj0
      have h5 := (hrr i (by omega) 0 (by simp [EK.size])).val_eq
      have h6 := hr i hi (by omega)
      have h7 : vals[i]'(by omega) = sl (hs[i]'(by omega)) := by simp [← hk]
      rw [h7] at h5
      rw [h5]
      exact h6
    rw [hlv]; exact key
end
/-! Frozen wherever their slice stands. -/
class Own2Del (v : Value) (H : List HA) (ety e : outParam TypeId) (hs : outParam (List Hnd)) (xss : outParam (List (List Int))) (H' : outParam (List HA)) : Prop where
  u : Del (own2A v ety e .int hs xss) H H'
section
variable {v : Value} {ety e : TypeId} {hs : List Hnd} {xss : List (List Int)} {A : HA} {t t' m R : List HA}
instance : Own2Del v (own2A v ety e .int hs xss :: t) ety e hs xss t := ⟨.here _⟩
instance [h : Own2Del v t ety e hs xss t'] : Own2Del v (A :: t) ety e hs xss (A :: t') := ⟨.there _ h.u⟩
instance : Own2Del v ((own2A v ety e .int hs xss :: m) ++ R) ety e hs xss (m ++ R) := ⟨.here _⟩
instance [h : Own2Del v (m ++ R) ety e hs xss t'] : Own2Del v ((A :: m) ++ R) ety e hs xss (A :: t') := ⟨.there _ h.u⟩
instance [h : Own2Del v R ety e hs xss t'] : Own2Del v ([] ++ R) ety e hs xss t' := h
end
theorem T_freezeL2 {Γ : Cx} {E : Env} {M : List HA} (v : Value) {ety e : TypeId} {hs : List Hnd} {xss : List (List Int)} {H' : List HA} [hd : Own2Del v M ety e hs xss H'] {U : Env} (hU : ThawE v .ints xss E U) : Turn Γ E M (U ++ E) H' := fun a w hD => ⟨hD.1, hD.2.1, by
  have h1 := freeze_own2 (v := v) (X := fun φ => EnvRep φ E a ∧ Γ.X φ) (fun φ φ' hl hx => ⟨hx.1.mono hl, Γ.mono _ _ hl hx.2⟩) (hD.2.2.perm hd.u.perm)
  refine h1.imp fun φ hx => ⟨fun q s' hq => ?_, hx.2.2⟩
  obtain ⟨s, hs, t⟩ := hU.get q s' hq
  exact t φ hx.1 _ (hx.2.1 q s hs)⟩
theorem T_freezeB2 {Γ : Cx} {E : Env} {M : List HA} (v : Value) {ety e : TypeId} {hs : List Hnd} {xss : List (List Int)} {H' : List HA} [hd : Own2Del v M ety e hs xss H'] {U : Env} (hU : ThawE v .ints xss E U) {b : Nat} {ty : TypeId} {cs cs' : List SVal} {C : HA → List HA} [hc : BoxCtx b H' ty cs C] (hi : ThawL v .ints xss cs cs') : Turn Γ E M (U ++ E) (C (boxA b ty cs')) := fun a w hD => ⟨hD.1, hD.2.1, by
  have h1 := freeze_own2 (v := v) (X := fun φ => EnvRep φ E a ∧ Γ.X φ) (fun φ φ' hl hx => ⟨hx.1.mono hl, Γ.mono _ _ hl hx.2⟩) (hD.2.2.perm hd.u.perm)
  obtain ⟨R, p, q⟩ := hc.u
  obtain ⟨φ, hs, g, hS, hx⟩ := h1.perm p
  obtain ⟨h0, hs0, rfl, ⟨vs, e', r⟩, t⟩ := hS.cons_inv
  refine Holds.perm ⟨φ, _, g, .cons (A := boxA b ty cs') ⟨vs, e', hi φ hx.1 _ r⟩ t, ⟨fun q s' hq => ?_, hx.2.2⟩⟩ (q _)
  obtain ⟨s, hs, t⟩ := hU.get q s' hq
  exact t φ hx.1 _ (hx.2.1 q s hs)⟩
end Go.Proofs.YtabojfgmbfnoiaaGreatDoor
end
section
/- Calls with many handles; sub-slices of a row of one's own, copy; slices of one type as another. -/
set_option linter.unusedVariables false
set_option linter.unusedSimpArgs false
namespace Go.Proofs.YtabojfgmbfnoiaaGreatDoor
section
variable {w0 : World} {P : Program} {E : Env} {M : List HA} {K : SVal → List HA → Prop} {dst : Option Tmp} {ty : TypeId} {pos : String} {af : Array Edge} {gd : Option (Nat × Bool)} {f : FuncId} {args : Array Operand} {ts : Array TypeId} {ss : List SVal} {H F : List HA} {x y : Operand} {first cap : Array Value}
theorem O_call5 {α β γ δ ε : Type} {s0 : α → β → γ → δ → ε → SVal} {H0 : α → β → γ → δ → ε → List HA} (hf : callB P f = true) (ha : args.toList.map (look E) = ss.map some) (hc : Fn w0 P f ss H (fun s H => ∃ a b c d e, s = s0 a b c d e ∧ H = H0 a b c d e)) (hp : M.Perm (H ++ F)) (h : ∀ a b c d e, K (s0 a b c d e) (H0 a b c d e ++ F)) : OpS w0 P ⟨dst, .call ⟨.value (.func f), args, ts⟩, ty, pos, af, gd⟩ E M K :=
  O_call hf ha hc hp (by rintro s H' ⟨a, b, c, d, e, rfl, rfl⟩; exact h a b c d e)
theorem rep_block {φ φ0 : Hp} {b cap : Nat} {cur : Array Value} {ety : TypeId} {fr : Nat × Nat} {k : EK} {xs : List k.T} (hb : φ b = some (.cells cur ety fr)) (hle : φ0.le φ) (h1 : xs.length ≤ cap) (h2 : cap ≤ maxLen) (h3 : cur.size = cap * k.size) (r : RepL φ0 (xs.flatMap k.view) (cur.toList.take (xs.length * k.size))) :
    Rep φ (.isl k xs) (.slice (some ⟨b, 0, none⟩) xs.length cap) := by
  have hl := r.1
  rw [flat_length] at hl
  refine .isl k xs _ cap h1 h2 (fun _ => ⟨_, rfl⟩) (fun i j => (cur.toList.take (xs.length * k.size)).getD (i * k.size + j) undef) ?_ ?_
  · intro ad e i hi j hj
    injection e with e; subst e
    have hlt : i * k.size + j < xs.length * k.size := by
      have : i * k.size + k.size ≤ xs.length * k.size := by rw [← Nat.succ_mul]; exact Nat.mul_le_mul_right _ hi
      omega
    have hc : xs.length * k.size ≤ cap * k.size := Nat.mul_le_mul_right _ h1
    rw [add_mk]
    simp only [Hp.cell, Nat.zero_add, hb]
    simp
    rw [List.getElem?_take, if_pos hlt]
    have : i * k.size + j < cur.size := by omega
    simp [this]
  · intro i hi j hj
    have hlt : i * k.size + j < xs.length * k.size := by
      have : i * k.size + k.size ≤ xs.length * k.size := by rw [← Nat.succ_mul]; exact Nat.mul_le_mul_right _ hi
      omega
    have hf : i * k.size + j < (xs.flatMap k.view).length := by rw [flat_length]; exact hlt
    have h4 := r.2 (i * k.size + j) hf (by rw [hl]; exact hlt)
    rw [flat_get k xs i j hi hj hf] at h4
    have h5 : (cur.toList.take (xs.length * k.size)).getD (i * k.size + j) undef = (cur.toList.take (xs.length * k.size))[i * k.size + j]'(by rw [hl]; exact hlt) := by
      rw [List.getD_eq_getElem?_getD, List.getElem?_eq_getElem]; rfl
    rw [h5]
    exact h4.mono hle
/-- '[]byte("..")' of a constant: a row just built is marked. -/
theorem O_convB {t e ety : TypeId} {q : Hnd} {xs : List UInt8} {H' : List HA} (h1 : P.underlying t = some (.slice e)) (h2 : P.underlying e = some (.int .u8)) (hx : look E x = some (.val (sl q))) [hd : OwnDel (sl q) M ety .u8 xs H'] (h0 : xs ≠ []) (h : K (.isl .u8 xs) H') : OpS w0 P ⟨dst, .convert t t x, ty, pos, af, gd⟩ E M K :=
  .step fun X hX a w hh => by
    obtain ⟨φ, hs, g, hS, he, hX'⟩ := hh.perm hd.u.perm
    obtain ⟨q', hs0, rfl, hq, t'⟩ := hS.cons_inv
    have e1 := (he.look hx).val_eq
    rcases hq with ⟨e3, e4, _⟩ | ⟨b, cap, cur, e3, rfl, q1, q2, q3, r⟩
    · exact absurd e4 h0
    rw [e3] at e1
    have hw : w.heap[b]? = some (.cells cur ety (0, 0)) := g.agree _ (List.mem_cons_of_mem _ (List.mem_cons_self ..)) b _ one_get
    have hlt := (Array.getElem?_eq_some_iff.1 hw).1
    have hsh : w.shape? b = some (ety, cur.size) := by simp [World.shape?, hw]
    have hnew : ∀ k, (w.freeze ⟨b, cur.size, none⟩ 1).heap[k]? = if k = b then some (.cells cur ety (cur.size, cur.size + 1)) else w.heap[k]? := by
      intro k
      simp only [World.freeze, Nat.one_ne_zero, if_false]
      rw [Array.getElem?_modify]
      by_cases hk : b = k
      · subst hk; simp [hw]
      · rw [if_neg hk, if_neg (fun e => hk e.symm)]
    have hg : Good w0 φ (Hp.one b (.cells cur ety (cur.size, cur.size + 1)) :: hs0) (w.freeze ⟨b, cur.size, none⟩ 1) := by
      refine g.set (fun k hk => ?_) rfl rfl rfl (by simp [World.freeze]) (fun k o ho => ?_) (fun k hk hn => ?_)
      · left
        unfold Hp.one at hk ⊢
        split at hk
        · rename_i e; simp [e]
        · exact absurd rfl hk
      · unfold Hp.one at ho
        split at ho
        · rename_i e
          rw [hnew, if_pos e]; exact ho
        · cases ho
      · rw [hnew]
        split
        · rename_i e; subst e; simp [Hp.one] at hn
        · rfl
    have hrun : (convert t t (.slice (some ⟨b, 0, none⟩) xs.length cap)).run P w = .ok (.slice (some ⟨b, 0, none⟩) xs.length cap) (w.freeze ⟨b, cur.size, none⟩ 1) := by
      simp [convert, run_und h1, run_und h2, markStringish, hsh]
    refine ⟨_, _, _, .isl .u8 xs, H', by simp only [execOp, e1, Sem.run_bind, hrun, Result.andThen_ok, Sem.run_pure]; rfl, .inl rfl, h, ?_⟩
    have hle : φ.le (φ.or (Hp.one b (.cells cur ety (cur.size, cur.size + 1)))) := Hp.le_or _ _
    refine ⟨_, hs0, hg.freeze, t'.mono hle, ?_, hX _ _ hle hX'⟩
    have hnone : φ b = none := by
      have := g.disj
      rw [List.pairwise_cons] at this
      rcases this.1 _ (List.mem_cons_self ..) b with h | h
      · exact h
      · simp [Hp.one] at h
    exact rep_block (ety := ety) (fr := (cur.size, cur.size + 1)) (by simp [Hp.or, hnone, Hp.one]) hle q1 q2 q3 r
/-- The part of a row's slice from l to h (elements of one cell). -/
def subH (q : Hnd) (l h : Nat) : Hnd := (if q.2.2 = l then q.1 else q.1.map (·.add l), h - l, q.2.2 - l)
theorem O_slice_own {t e : TypeId} {lo hi : Option Operand} {q : Hnd} {k : EK} {xs : List k.T} {k1 k2 : IntKind} (vlo vhi : Option Int) (ht : slcB P t 1 = true) (hx : look E x = some (.val (sl q))) [ho : OwnAt (sl q) M e k xs] (hl : lo.map (look E) = vlo.map fun n => some (.val (.int k1 n))) (hh : hi.map (look E) = vhi.map fun n => some (.val (.int k2 n)))
    (h0 : 0 ≤ vlo.getD 0 ∧ vlo.getD 0 ≤ vhi.getD xs.length ∧ vhi.getD xs.length ≤ xs.length) (h : K (.val (sl (subH q (vlo.getD 0).toNat (vhi.getD xs.length).toNat))) M) : OpS w0 P ⟨dst, .slice t x lo hi none, ty, pos, af, gd⟩ E M K :=
  .read fun φ hs a w g hS he => by
    have e1 := (he.look hx).val_eq
    have e2 := opt_look he hl
    have e3 := opt_look he hh
    obtain ⟨e', i, hu', hi', hz⟩ := slcB.run ht
    have hq : q.2.1 = xs.length ∧ xs.length ≤ q.2.2 := by
      rcases own_world (v := sl q) g hS with ⟨e4, e5⟩ | ⟨b, cap, cur, e4, _, h1, _⟩
      · injection e4 with e6 e7 e8
        subst e5; simp [e7, e8]
      · injection e4 with e6 e7 e8
        simp [e7, e8, h1]
    refine ⟨_, _, ?_, .val _, h⟩
    have hb := run_sb (P := P) (w := w) (isS := true) (k1 := k1) (k2 := k2) vlo vhi h0.1 h0.2.1 h0.2.2 hq.2
    simp only [execOp, e1, e2, e3, Instr.sliceAt, Option.map_none, sl]
    rw [hq.1]
    simp [run_und hu', Instr.slice, hb, run_size hi', hz, subH]
theorem osl_b {l h : Int} {n : Nat} (b : 0 ≤ l ∧ l ≤ h ∧ h ≤ (n : Int)) : l.toNat ≤ h.toNat ∧ h.toNat ≤ n := ⟨by omega, by omega⟩
theorem lset_map {α β : Type} (f : α → β) : ∀ (zs xs : List α) (o : Nat), lset (xs.map f) o (zs.map f) = (lset xs o zs).map f
  | [], _, _ => rfl
  | z :: zs, xs, o => by
    simp only [List.map_cons, lset]
    rw [← List.map_set]
    exact lset_map f zs _ _
theorem int_view (xs : List Int) : xs.flatMap EK.int.view = xs.map sI := by
  induction xs with
  | nil => rfl
  | cons x xs ih => simp [List.flatMap_cons, ih]
theorem RepL.ints {φ : Hp} {xs : List Int} {vs : List Value} (h : RepL φ (xs.map sI) vs) : vs = xs.map (Value.int .i64) := by
  refine List.ext_getElem (by simp [h.1]) fun i h1 h2 => ?_
  have h3 : i < (xs.map sI).length := by rw [← h.1]; exact h1
  have := h.2 i h3 h1
  simp only [List.getElem_map] at this
  rw [this.val_eq]
  simp
theorem RepL.ofInts {φ : Hp} (xs : List Int) : RepL φ (xs.map sI) (xs.map (Value.int .i64)) := ⟨by simp, fun i h1 h2 => by simp; exact .val _⟩
/-- What a copy leaves. -/
theorem copy_core {w : World} {t elem el : TypeId} {b : Nat} {xs cs : List Int} {cap o dl dc : Nat} {ad : Addr} {sLen sCap : Nat} {R : List HA} {X : Hp → Prop} (hu : P.underlying t = some (.slice el)) (hsz : (P.info? el).map (·.size) = some 1)
    (hh : Holds w0 (ownA (.slice (some ⟨b, 0, none⟩) xs.length cap) elem .int xs :: R) w X) (hn : cs.length = Nat.min sLen dl) (hfit : o + cs.length ≤ xs.length)
    (hsrc : ∀ j v, (cs.map (Value.int .i64))[j]? = some v → w.cell? (ad.add j) = some v) :
    ∃ w', (Builtin.copy_ #[t, t] ty #[.slice (some ⟨b, o, none⟩) dl dc, .slice (some ad) sLen sCap]).run P w = .ok (goInt cs.length) w' ∧ Holds w0 (ownA (.slice (some ⟨b, 0, none⟩) xs.length cap) elem .int (lset xs o cs) :: R) w' X := by
  obtain ⟨φ, hs, g, hS, hX⟩ := hh
  obtain ⟨q, hs0, rfl, hq, t'⟩ := hS.cons_inv
  rcases hq with ⟨e3, e4, _⟩ | ⟨b', cap', cur, e3, rfl, h1, h2, h3, r⟩
  · cases e3
  injection e3 with e4 e5 e6
  injection e4 with e4
  injection e4 with e4
  subst e4; subst e6
  have hw : w.heap[b]? = some (.cells cur elem (0, 0)) := g.agree _ (List.mem_cons_of_mem _ (List.mem_cons_self ..)) b _ one_get
  have hcs : cur.size = cap := by simpa [EK.size] using h3
  have hrun := run_copy_cells (P := P) w t t ty el b o dl dc ad sLen sCap (cs.map (Value.int .i64)) hu hsz (by simpa using hn) hsrc
    (fun j hj => by
      have hj : j < cs.length := by simpa using hj
      have : o + j < cur.size := by omega
      simp [World.cell?, hw, this])
    (fun j hj => by simp [World.frozen?, hw]) (fun v hv => by
      obtain ⟨n, _, rfl⟩ := List.mem_map.1 hv
      rfl)
  refine ⟨_, by simpa using hrun, φ, _, g.setCells o _, .cons (.inr ⟨b, cap, _, by simp [lset_length], rfl, by simpa [lset_length] using h1, h2, by simp [lset_length, h3], ?_⟩) t', hX⟩
  have hr : RepL φ (xs.map sI) (cur.toList.take (xs.length * 1)) := by rw [← int_view]; exact r
  have hr2 := hr.lset o (RepL.ofInts (φ := φ) cs)
  rw [lset_map] at hr2
  have e7 : lset (cur.toList.take (xs.length * 1)) o (cs.map (Value.int .i64)) = (lset cur.toList o (cs.map (Value.int .i64))).take (xs.length * 1) := lset_take _ _ _ _
  rw [e7] at hr2
  rw [int_view]
  simpa [lset_length, EK.size] using hr2
theorem O_copy_isl {t e : TypeId} {v : Value} {xs ys : List Int} {C : HA → List HA} (ht : slcB P t 1 = true) (hx : look E x = some (.val v)) (hy : look E y = some (.isl .int ys)) [hc : OwnCtx v M e .int xs C]
    (h : K (sI ((min ys.length xs.length : Nat) : Int)) (C (ownA v e .int (lset xs 0 (ys.take (min ys.length xs.length)))))) : OpS w0 P ⟨dst, .call ⟨.builtin .copy, #[x, y], #[t, t]⟩, ty, pos, af, gd⟩ E M K :=
  .step fun X hX a w hh => by
    obtain ⟨R, p, p'⟩ := hc.u
    obtain ⟨el, i, hu, hi, hz⟩ := slcB.run ht
    have hsz : (P.info? el).map (·.size) = some 1 := by rw [hi]; simp [hz]
    have hh2 := hh.perm p
    have key : ∃ A c, a.eval x = v ∧ a.eval y = .slice A ys.length c ∧ (0 < ys.length → ∃ ad, A = some ad) ∧ (∀ ad, A = some ad → ∀ j u, (ys.map (Value.int .i64))[j]? = some u → w.cell? (ad.add j) = some u) ∧
        ((v = .slice none 0 0 ∧ xs = []) ∨ ∃ b cap, v = .slice (some ⟨b, 0, none⟩) xs.length cap) := by
      obtain ⟨φ, hs, g, hS, he, hX'⟩ := hh2
      obtain ⟨q, hs0, rfl, hq, t'⟩ := hS.cons_inv
      obtain ⟨A, c, e2, hcap, hA, news, hn, hcell⟩ := isl_cells g (he.look hy)
      rw [int_view] at hn
      have := hn.ints; subst this
      refine ⟨A, c, (he.look hx).val_eq, e2, hA, hcell, ?_⟩
      rcases hq with ⟨e3, e4, _⟩ | ⟨b, cap, cur, e3, _⟩
      · exact .inl ⟨e3, e4⟩
      · exact .inr ⟨b, cap, e3⟩
    obtain ⟨A, c, e1, e2, hA, hcell, hv⟩ := key
    have hX2 := hh2.imp fun φ hx' => hx'.2
    by_cases h0 : min ys.length xs.length = 0
    · have hrun : (Builtin.copy_ #[t, t] ty #[v, .slice A ys.length c]).run P w = .ok (goInt 0) w := by
        rcases hv with ⟨e3, e4⟩ | ⟨b, cap, e3⟩
        · subst e3; exact run_copy_none w t t ty el none A 0 0 ys.length c hu hsz (by simp)
        · subst e3; exact run_copy_none w t t ty el _ A _ cap ys.length c hu hsz h0
      rw [h0] at h
      refine ⟨.value (goInt 0), goInt 0, w, _, _, by simp [execOp, resolve, invoke, builtin, e1, e2, hrun], .inl rfl, h, ?_⟩
      exact ((hX2.perm (p' _))).imp fun φ hx' => ⟨.val _, hx'⟩
    · rcases hv with ⟨e3, e4⟩ | ⟨b, cap, e3⟩
      · subst e4; simp at h0
      · subst e3
        obtain ⟨ad, rfl⟩ := hA (by omega)
        have hlen : (ys.take (min ys.length xs.length)).length = min ys.length xs.length := by rw [List.length_take]; omega
        obtain ⟨w', hrun, hH⟩ := copy_core (P := P) (ty := ty) (w0 := w0) (t := t) (o := 0) (dc := cap) (sCap := c) (sLen := ys.length) (dl := xs.length) (ad := ad) (cs := ys.take (min ys.length xs.length)) hu hsz hX2 hlen (by omega) (fun j v hj => hcell ad rfl j v (by
          rw [List.map_take] at hj
          rw [List.getElem?_take] at hj
          split at hj
          · exact hj
          · cases hj))
        rw [hlen] at hrun
        refine ⟨.value (goInt (min ys.length xs.length : Nat)), _, w', _, _, by simp [execOp, resolve, invoke, builtin, e1, e2, hrun], .inl rfl, h, ?_⟩
        exact ((hH.perm (p' _))).imp fun φ hx' => ⟨.val _, hx'⟩
/-- Within one row. -/
theorem O_copy_self {t e : TypeId} {q : Hnd} {xs : List Int} {l1 h1 l2 h2 : Nat} {C : HA → List HA} (ht : slcB P t 1 = true) (hx : look E x = some (.val (sl (subH q l1 h1)))) (hy : look E y = some (.val (sl (subH q l2 h2)))) [hc : OwnCtx (sl q) M e .int xs C]
    (b1 : l1 ≤ h1 ∧ h1 ≤ xs.length) (b2 : l2 ≤ h2 ∧ h2 ≤ xs.length)
    (h : K (sI ((min (h2 - l2) (h1 - l1) : Nat) : Int)) (C (ownA (sl q) e .int (lset xs l1 ((xs.drop l2).take (min (h2 - l2) (h1 - l1))))))) : OpS w0 P ⟨dst, .call ⟨.builtin .copy, #[x, y], #[t, t]⟩, ty, pos, af, gd⟩ E M K :=
  .step fun X hX a w hh => by
    obtain ⟨R, p, p'⟩ := hc.u
    obtain ⟨el, i, hu, hi, hz⟩ := slcB.run ht
    have hsz : (P.info? el).map (·.size) = some 1 := by rw [hi]; simp [hz]
    have hh2 := hh.perm p
    have key : a.eval x = sl (subH q l1 h1) ∧ a.eval y = sl (subH q l2 h2) ∧ ((sl q = .slice none 0 0 ∧ xs = []) ∨ ∃ b cap, sl q = .slice (some ⟨b, 0, none⟩) xs.length cap ∧ xs.length ≤ cap ∧ ∀ j u, (xs.map (Value.int .i64))[j]? = some u → w.cell? ⟨b, j, none⟩ = some u) := by
      obtain ⟨φ, hs, g, hS, he, hX'⟩ := hh2
      obtain ⟨q', hs0, rfl, hq, t'⟩ := hS.cons_inv
      refine ⟨(he.look hx).val_eq, (he.look hy).val_eq, ?_⟩
      rcases hq with ⟨e3, e4, _⟩ | ⟨b, cap, cur, e3, rfl, q1, q2, q3, r⟩
      · exact .inl ⟨e3, e4⟩
      · refine .inr ⟨b, cap, e3, q1, fun j u hj => ?_⟩
        rw [int_view] at r
        have hr := r.ints
        rw [← hr] at hj
        have hw : w.heap[b]? = some (.cells cur e (0, 0)) := g.agree _ (List.mem_cons_of_mem _ (List.mem_cons_self ..)) b _ one_get
        rw [List.getElem?_take] at hj
        split at hj
        · simp [World.cell?, hw]
          simpa using hj
        · cases hj
    obtain ⟨e1, e2, hv⟩ := key
    have hX2 := hh2.imp fun φ hx' => hx'.2
    by_cases h0 : min (h2 - l2) (h1 - l1) = 0
    · have hrun : (Builtin.copy_ #[t, t] ty #[sl (subH q l1 h1), sl (subH q l2 h2)]).run P w = .ok (goInt 0) w := run_copy_none w t t ty el _ _ _ _ _ _ hu hsz h0
      rw [h0] at h
      refine ⟨.value (goInt 0), goInt 0, w, _, _, by simp [execOp, resolve, invoke, builtin, e1, e2, hrun], .inl rfl, h, ?_⟩
      exact ((hX2.perm (p' _))).imp fun φ hx' => ⟨.val _, hx'⟩
    · rcases hv with ⟨e3, e4⟩ | ⟨b, cap, e3, q1, hcell⟩
      · subst e4; simp at b1 b2; omega
      · injection e3 with a1 a2 a3
        have hlen : ((xs.drop l2).take (min (h2 - l2) (h1 - l1))).length = min (h2 - l2) (h1 - l1) := by rw [List.length_take, List.length_drop]; omega
        have hq : sl q = .slice (some ⟨b, 0, none⟩) xs.length cap := by simp only [sl]; rw [a1, a2, a3]
        have hX3 : Holds w0 (ownA (.slice (some ⟨b, 0, none⟩) xs.length cap) e .int xs :: R) w X := by rw [← hq]; exact hX2
        obtain ⟨w', hrun, hH⟩ := copy_core (P := P) (ty := ty) (w0 := w0) (t := t) (o := l1) (dc := cap - l1) (sCap := cap - l2) (sLen := h2 - l2) (dl := h1 - l1) (ad := ⟨b, l2, none⟩) (cs := (xs.drop l2).take (min (h2 - l2) (h1 - l1))) hu hsz hX3 hlen (by omega) (fun j v hj => by
          rw [add_mk]
          refine hcell _ v ?_
          rw [List.map_take, List.getElem?_take] at hj
          split at hj
          · simpa using hj
          · cases hj)
        rw [hlen] at hrun
        have s1 : sl (subH q l1 h1) = .slice (some ⟨b, l1, none⟩) (h1 - l1) (cap - l1) := by
          simp only [sl, subH, a1, a2, a3]
          rw [if_neg (by omega)]
          simp [add_mk]
        have s2 : sl (subH q l2 h2) = .slice (some ⟨b, l2, none⟩) (h2 - l2) (cap - l2) := by
          simp only [sl, subH, a1, a2, a3]
          rw [if_neg (by omega)]
          simp [add_mk]
        rw [← hq] at hH
        refine ⟨.value (goInt (min (h2 - l2) (h1 - l1) : Nat)), _, w', _, _, by rw [s1] at e1; rw [s2] at e2; simp [execOp, resolve, invoke, builtin, e1, e2, hrun], .inl rfl, h, ?_⟩
        exact ((hH.perm (p' _))).imp fun φ hx' => ⟨.val _, hx'⟩
end
end Go.Proofs.YtabojfgmbfnoiaaGreatDoor
end
section
/- Keys that are structs of whole numbers, texts and truths. -/
set_option linter.unusedVariables false
set_option linter.unusedSimpArgs false
namespace Go.Proofs.YtabojfgmbfnoiaaGreatDoor
/-- A field of one cell: what it holds. -/
inductive Cl where
  | i (n : Int) | s (t : ByteArray) | b (x : Bool)
  deriving DecidableEq
def Cl.v : Cl → Value
  | .i n => .int .i64 n
  | .s t => .string t
  | .b x => .bool x
def Cl.d : Cl → TypeDesc
  | .i _ => .int .i64
  | .s _ => .string
  | .b _ => .bool
/-- The struct type t has just such fields. -/
def fldsB (P : Program) (t : TypeId) (ds : List TypeDesc) : Bool :=
  (match P.underlying t with | some (.struct fs) => (fs.toList.map (fun f => (f.name == "_", f.offset)) == (List.range ds.length).map (fun i => (false, i))) && (fs.toList.zip ds).all (fun p => oneB P p.1.type && (match P.underlying p.1.type, p.2 with | some (.int .i64), .int .i64 => true | some .string, .string => true | some .bool, .bool => true | _, _ => false)) | _ => false) && !P.stoodInHeld t
theorem und_of {P : Program} {e : TypeId} {c : Cl} (h : (match P.underlying e, c.d with | some (.int .i64), .int .i64 => true | some .string, .string => true | some .bool, .bool => true | _, _ => false) = true) : P.underlying e = some c.d := by
  cases c <;> (simp only [Cl.d] at h ⊢; split at h <;> simp_all)
section
variable {P : Program} {w : World}
theorem cl_equal {e : TypeId} {c c' : Cl} (hd : c.d = c'.d) (h : P.underlying e = some c.d) (d : Nat) : (Op.equalIn (d + 1) e c.v c'.v).run P w = .ok (decide (c = c')) w := by
  cases c <;> cases c' <;> simp only [Cl.d] at hd h <;> first | (cases hd; done) | skip
  · rename_i a b; rw [Cl.v, Cl.v, run_equalIn_int w d e _ _ _ _ h]; congr 1; by_cases e : a = b <;> simp [e]
  · rename_i a b; rw [Cl.v, Cl.v, run_equalIn_string w d e _ _ h, ← beq_toListBytes, bytes_beq]; congr 1; by_cases e : a = b <;> simp [e]
  · rename_i a b; rw [Cl.v, Cl.v, run_equalIn_bool' w d e _ _ h]; congr 1; by_cases e : a = b <;> simp [e]
theorem cl_check {e : TypeId} {c : Cl} (h : P.underlying e = some c.d) (b : Bool) (n : Nat) : (Instr.checkKey b (n + 1) e c.v).run P w = .ok () w := by
  rw [Instr.checkKey]
  cases c <;> simp [run_und h, Cl.d, Cl.v]
theorem cl_same (c : Cl) (n : Nat) : Instr.sameBits n c.v c.v = true := by
  cases c <;> cases n <;> simp [Instr.sameBits, Cl.v, bytes_beq]
/-- Fields from the k-th on. -/
theorem eqFields_run (d : Nat) : ∀ (fs : List Field) (cs cs' pre pre' : List Cl), pre.length = pre'.length → cs.map Cl.d = cs'.map Cl.d → fs.map (fun f => (f.name == "_", f.offset)) = (List.range' pre.length cs.length).map (fun i => (false, i)) →
    (fs.zip (cs.map Cl.d)).all (fun p => oneB P p.1.type && (match P.underlying p.1.type, p.2 with | some (.int .i64), .int .i64 => true | some .string, .string => true | some .bool, .bool => true | _, _ => false)) = true →
    (Op.eqFields (d + 1) ((pre ++ cs).map Cl.v).toArray ((pre' ++ cs').map Cl.v).toArray fs).run P w = .ok (decide (cs = cs')) w
  | [], cs, cs', pre, pre', hp, hd, hf, ha => by
    have h0 : cs.length = 0 := by have := congrArg List.length hf; simpa using this.symm
    have h1 : cs = [] := List.eq_nil_of_length_eq_zero h0
    subst h1
    have h2 : cs' = [] := by simpa using hd.symm
    subst h2
    simp [Op.eqFields]
  | f :: fs, [], cs', pre, pre', hp, hd, hf, ha => by simp at hf
  | f :: fs, c :: cs, [], pre, pre', hp, hd, hf, ha => by simp at hd
  | f :: fs, c :: cs, c' :: cs', pre, pre', hp, hd, hf, ha => by
    simp only [List.map_cons, List.cons.injEq] at hd
    simp only [List.map_cons, List.length_cons, List.range'_succ, List.cons.injEq, Prod.mk.injEq] at hf
    obtain ⟨⟨hn, ho⟩, hf⟩ := hf
    simp only [List.map_cons, List.zip_cons_cons, List.all_cons, Bool.and_eq_true] at ha
    obtain ⟨⟨h1, h2⟩, ha⟩ := ha
    have hu := und_of h2
    have g1 : ((pre ++ c :: cs).map Cl.v).toArray[f.offset]? = some c.v := by rw [ho]; simp
    have g2 : ((pre' ++ c' :: cs').map Cl.v).toArray[f.offset]? = some c'.v := by rw [ho, hp]; simp
    have p1 := part_one (w := w) h1 g1
    have p2 := part_one (w := w) h1 g2
    have hne : f.name ≠ "_" := by simpa using hn
    have ih := eqFields_run d fs cs cs' (pre ++ [c]) (pre' ++ [c']) (by simp [hp]) hd.2 (by simpa using hf) ha
    simp only [List.append_assoc, List.cons_append, List.nil_append] at ih
    rw [Op.eqFields, if_pos hne]
    simp only [Sem.run_bind, p1, p2, Result.andThen_ok, cl_equal hd.1 hu]
    by_cases e : c = c'
    · subst e
      simp only [decide_true, Bool.not_true, Bool.false_eq_true, if_false]
      rw [ih]; simp
    · simp [e]
theorem cl_struct {t : TypeId} {ds : List TypeDesc} (h : fldsB P t ds = true) {cs cs' : List Cl} (h1 : cs.map Cl.d = ds) (h2 : cs'.map Cl.d = ds) : (Op.equal t (.agg (cs.map Cl.v).toArray) (.agg (cs'.map Cl.v).toArray)).run P w = .ok (decide (cs = cs')) w := by
  unfold fldsB at h
  simp only [Bool.and_eq_true, Bool.not_eq_true'] at h
  obtain ⟨h, hs⟩ := h
  cases hu : P.underlying t with
  | none => rw [hu] at h; cases h
  | some d =>
    rw [hu] at h
    cases d <;> first | (cases h; done) | skip
    rename_i fs
    simp only [Bool.and_eq_true, beq_iff_eq] at h
    have hfo : P.fieldsOf t = fs := by simp [Program.fieldsOf, hu]
    show (Op.equalIn (9998 + 1 + 1) t _ _).run P w = _
    rw [run_equalIn_struct w _ t _ _ (by rw [hfo]; exact hu) hs, hfo]
    have hl : ds.length = cs.length := by rw [← h1]; simp
    have := eqFields_run (P := P) (w := w) 9998 fs.toList cs cs' [] [] rfl (h1.trans h2.symm) (by rw [h.1, hl]; simp [List.range_eq_range']) (by rw [h1]; exact h.2)
    simpa using this
theorem cl_parts : ∀ (fs : List Field) (cs pre : List Cl), fs.map (fun f => (f.name == "_", f.offset)) = (List.range' pre.length cs.length).map (fun i => (false, i)) →
    (fs.zip (cs.map Cl.d)).all (fun p => oneB P p.1.type && (match P.underlying p.1.type, p.2 with | some (.int .i64), .int .i64 => true | some .string, .string => true | some .bool, .bool => true | _, _ => false)) = true →
    ∀ f ∈ fs, ∃ c : Cl, P.underlying f.type = some c.d ∧ (part f.type ((pre ++ cs).map Cl.v).toArray f.offset).run P w = .ok c.v w
  | [], cs, pre, hf, ha => by simp
  | f :: fs, [], pre, hf, ha => by simp at hf
  | f :: fs, c :: cs, pre, hf, ha => by
    simp only [List.map_cons, List.length_cons, List.range'_succ, List.cons.injEq, Prod.mk.injEq] at hf
    obtain ⟨⟨hn, ho⟩, hf⟩ := hf
    simp only [List.map_cons, List.zip_cons_cons, List.all_cons, Bool.and_eq_true] at ha
    obtain ⟨⟨h1, h2⟩, ha⟩ := ha
    intro g hg
    rcases List.mem_cons.1 hg with rfl | hg
    · exact ⟨c, und_of h2, part_one (w := w) h1 (by rw [ho]; simp)⟩
    · have := cl_parts fs cs (pre ++ [c]) (by simpa using hf) ha g hg
      simpa using this
theorem key_cells {κ : Type} [DecidableEq κ] {t : TypeId} {ds : List TypeDesc} (f : κ → List Cl) (h : fldsB P t ds = true) (hd : ∀ k, (f k).map Cl.d = ds) (hi : ∀ a b, f a = f b ↔ a = b) : KeyOk P t (fun k : κ => Value.agg ((f k).map Cl.v).toArray) where
  chk b x w := by
    have h' := h
    unfold fldsB at h
    simp only [Bool.and_eq_true, Bool.not_eq_true'] at h
    obtain ⟨h, hs⟩ := h
    cases hu : P.underlying t with
    | none => rw [hu] at h; cases h
    | some d =>
      rw [hu] at h
      cases d <;> first | (cases h; done) | skip
      rename_i fs
      simp only [Bool.and_eq_true, beq_iff_eq] at h
      have hl : ds.length = (f x).length := by rw [← hd x]; simp
      have hp := cl_parts (P := P) (w := w) fs.toList (f x) [] (by rw [h.1, hl]; simp [List.range_eq_range']) (by rw [hd x]; exact h.2)
      have hn : ∀ g ∈ fs.toList, g.name ≠ "_" := by
        intro g hg
        have h3 : (g.name == "_", g.offset) ∈ fs.toList.map (fun f => (f.name == "_", f.offset)) := List.mem_map.2 ⟨g, hg, rfl⟩
        rw [h.1] at h3
        obtain ⟨i, _, e⟩ := List.mem_map.1 h3
        injection e with e1 e2
        simpa using e1.symm
      show (Instr.checkKey b (9998 + 1 + 1) t _).run P w = _
      rw [Instr.checkKey]
      simp only [Sem.run_bind, run_und hu, Result.andThen_ok]
      rw [← Array.forIn_toList]
      have key : ∀ l : List Field, (∀ g ∈ l, g ∈ fs.toList) → (forIn (m := Sem) l PUnit.unit (fun f_1 r => do
          if f_1.name ≠ "_" then do
            let __do_lift ← part f_1.type ((f x).map Cl.v).toArray f_1.offset
            Instr.checkKey b (9998 + 1) f_1.type __do_lift
            pure (ForInStep.yield PUnit.unit)
          else pure (ForInStep.yield PUnit.unit))).run P w = .ok PUnit.unit w := by
        intro l
        induction l with
        | nil => intro _; simp
        | cons g l ih =>
          intro hl
          obtain ⟨c, hc1, hc2⟩ := hp g (hl g (List.mem_cons_self ..))
          rw [List.forIn_cons]
          simp only [List.nil_append] at hc2
          rw [if_pos (hn g (hl g (List.mem_cons_self ..)))]
          simp only [Sem.run_bind, hc2, Result.andThen_ok, cl_check hc1, Sem.run_pure]
          exact ih (fun q hq => hl q (List.mem_cons_of_mem _ hq))
      have hk := key fs.toList (fun g hg => hg)
      rw [hk]; rfl
  find vv l es x w he := by
    have hwide : (match P.underlying t with | some (.array _ _) | some (.struct _) => true | _ => false) = true := by
      unfold fldsB at h
      simp only [Bool.and_eq_true] at h
      cases hu : P.underlying t with
      | none => rw [hu] at h; simp at h
      | some d => rw [hu] at h; cases d <;> first | rfl | simp at h
    rw [run_findKey_eq w hwide]
    have key : ∀ (l : List (κ × _)) (es : List MapEntry) (i : Nat), es.map (fun e => (e.key, e.val)) = l.map (fun q => (Value.agg ((f q.1).map Cl.v).toArray, vv q.2)) → (Instr.findAsking t (Value.agg ((f x).map Cl.v).toArray) es i).run P w = .ok ((mfind l x i).map fun q => (q.1, vv q.2)) w := by
      intro l
      induction l with
      | nil => intro es i he; have : es = [] := by simpa using he
               subst this; simp [Instr.findAsking, mfind]
      | cons p l ih =>
        intro es i he
        cases es with
        | nil => simp at he
        | cons e es =>
          simp only [List.map_cons, List.cons.injEq, Prod.mk.injEq] at he
          obtain ⟨⟨h1, h2⟩, h3⟩ := he
          rw [Instr.findAsking]
          simp only [Sem.run_bind, h1, cl_struct h (hd x) (hd p.1), Result.andThen_ok]
          unfold mfind
          by_cases hx : p.1 = x
          · have : f x = f p.1 := by rw [hx]
            simp [hx, h2]
          · have : ¬ f x = f p.1 := fun e => hx ((hi _ _).1 e).symm
            simp only [this, decide_false, if_neg hx]
            simpa using ih es (i + 1) h3
    exact key l es 0 he
  stays x := by
    show Instr.sameBits (9999 + 1) _ _ = true
    rw [Instr.sameBits]
    rw [Bool.and_eq_true]
    refine ⟨by simp, ?_⟩
    rw [List.all_eq_true]
    intro p hp
    obtain ⟨a, b⟩ := p
    have hz := List.of_mem_zip hp
    simp only at hz
    have hab : a = b := by
      have h3 : ∀ (l : List Value) (q : Value × Value), q ∈ l.zip l → q.1 = q.2 := by
        intro l
        induction l with
        | nil => simp
        | cons x l ih => intro q hq; simp at hq; rcases hq with rfl | hq; rfl; exact ih q hq
      exact h3 _ _ hp
    subst hab
    obtain ⟨c, _, rfl⟩ := List.mem_map.1 (by simpa using hz.1)
    exact cl_same c _
end
theorem sk_cells {φ : Hp} {cs : List Cl} {v : Value} (h : Rep φ (.agg (cs.map fun c => SVal.val c.v)) v) : v = .agg (cs.map Cl.v).toArray := by
  obtain ⟨vs, rfl, r⟩ := RepL.of_agg h
  congr 1
  have : vs.toList = cs.map Cl.v := by
    refine List.ext_getElem (by have := r.1; simpa using this) fun i h1 h2 => ?_
    have h3 := r.2 i (by simpa using h2) h1
    simp only [List.getElem_map] at h3
    rw [h3.val_eq]; simp
  rw [← this]
/-- Keys of four and of three. -/
abbrev K4 := Int × ByteArray × Bool × Int
def k4 (k : K4) : List Cl := [.i k.1, .s k.2.1, .b k.2.2.1, .i k.2.2.2]
theorem key_k4 {P : Program} {t : TypeId} (h : fldsB P t [.int .i64, .string, .bool, .int .i64] = true) : KeyOk P t (fun k : K4 => Value.agg ((k4 k).map Cl.v).toArray) :=
  key_cells k4 h (fun k => rfl) (fun ⟨a1, a2, a3, a4⟩ ⟨b1, b2, b3, b4⟩ => by simp [k4])
theorem sk_k4 (k : K4) : ∀ φ v, Rep φ (.agg [sI k.1, sS k.2.1, sB k.2.2.1, sI k.2.2.2]) v → v = Value.agg ((k4 k).map Cl.v).toArray := fun φ v h => sk_cells (cs := k4 k) h
abbrev K3 := Int × Int × Int
def k3 (k : K3) : List Cl := [.i k.1, .i k.2.1, .i k.2.2]
end Go.Proofs.YtabojfgmbfnoiaaGreatDoor
end
section
/- Texts appended to rows of bytes; rows of bytes read as texts; strings.Builder. -/
set_option linter.unusedVariables false
set_option linter.unusedSimpArgs false
namespace Go.Proofs.YtabojfgmbfnoiaaGreatDoor
/-- A text's bytes behind a row of one's own: what it yields, and where. -/
theorem run_append_str {P : Program} (w : World) (t u ty e : TypeId) (i : TypeInfo) (ht : P.underlying t = some (.slice e)) (hu : P.underlying u = some .string) (hi : P.info? e = some i) (hz : i.zero = some (.int .u8 0))
    (hsize : i.size = 1) (hby : i.bytes = 1) (v : Value) (n : Nat) (xs : List Value) (hown : w.ownsRow 0 e 1 v n xs) (s : ByteArray) (h63 : n + s.size ≤ maxLen) (hbytes : n + s.size ≤ 140737488355328) :
    ∃ v' w', (Builtin.append_ #[t, u] ty #[v, .string s]).run P w = .ok v' w' ∧ w'.ownsRow 0 e 1 v' (n + s.size) (xs ++ Lib.strCells s) ∧ w.grownBy w' v.ownBlock ∧ (v'.ownBlock = v.ownBlock ∨ ∃ b, v'.ownBlock = some b ∧ w.heap.size ≤ b) := by
  have hsmall : n + s.size ≤ 9223372036854775807 := by simp only [maxLen] at h63; omega
  have hxl : xs.length = n := by simpa using hown.1
  have hlen : (xs ++ Lib.strCells s).length = (n + s.size) * 1 := by rw [List.length_append, hxl, Lib.strCells_length, Nat.mul_one]
  have grown : ∀ (old : Nat), old < n + s.size → ∀ (row : Option Nat),
      (w.drew.alloc (.cells (xs.toArray ++ (Lib.strCells s).toArray ++ Builtin.zeroCells (Value.int .u8 0).cells (grownCap w (n + s.size) old e - (n + s.size))) e)).ownsRow 0 e 1
        (.slice (some ⟨w.heap.size, 0, none⟩) (n + s.size) (grownCap w (n + s.size) old e)) (n + s.size) (xs ++ Lib.strCells s) ∧
      w.grownBy (w.drew.alloc (.cells (xs.toArray ++ (Lib.strCells s).toArray ++ Builtin.zeroCells (Value.int .u8 0).cells (grownCap w (n + s.size) old e - (n + s.size))) e)) row := by
    intro old ho row
    have hge := grownCap_ge w (n + s.size) old e
    have hcm : grownCap w (n + s.size) old e ≤ maxLen := grownCap_le_maxLen w (n + s.size) old e h63
    refine ⟨⟨hlen, .inr ⟨w.heap.size, _, _, rfl, Nat.zero_le _, heap_alloc_new w.drew _, hge, hcm, ?_, ?_⟩⟩, ⟨rfl, rfl, rfl, by simp, fun k hk _ => heap_alloc_old w.drew _ hk⟩⟩
    · have hz1 : (Value.int IntKind.u8 0).cells.size = 1 := rfl
      simp only [Array.size_append, List.size_toArray, size_zeroCells, hz1, hxl, Lib.strCells_length]
      omega
    · simp only [Array.toList_append, List.append_assoc]
      rw [← List.append_assoc, ← hlen]
      exact List.take_left
  rcases hown.2 with ⟨rfl, rfl⟩ | ⟨g, cap, cur, rfl, hbg, hg, hnc, hcm, hcs, htake⟩
  · have hx : xs = [] := List.eq_nil_of_length_eq_zero hxl
    subst hx
    by_cases hm : s.size = 0
    · have hn : Lib.strCells s = [] := List.eq_nil_of_length_eq_zero (by rw [Lib.strCells_length]; exact hm)
      refine ⟨.slice none 0 0, w, ?_, by rw [hm, hn]; exact World.ownsRow_nil w 0 e 1, ⟨rfl, rfl, rfl, Nat.le_refl _, fun _ _ _ => rfl⟩, .inl rfl⟩
      have hf := Lib.run_firstCells_string (P := P) w 1 s
      rw [hm] at hf
      simp [Builtin.append_, run_underlying ht, run_underlying hu, sizeOf, typeInfo, hi, hsize, Builtin.lenOf, hm, hf]
    · have hr := run_append_nil_string (P := P) w t u ty e i (.int .u8 0) ht hu hi hz s (by omega) (by omega) (by rw [hby]; omega)
      have hgr := grown 0 (by omega) (Value.ownBlock (.slice none 0 0))
      simp only [Nat.zero_add, List.nil_append, Array.empty_append] at hgr ⊢
      have e1 : (s.data.map fun b => Value.int .u8 b.toNat) = (Lib.strCells s).toArray := by
        apply Array.ext'
        simp [Lib.strCells]
      rw [e1] at hr
      exact ⟨_, _, hr, hgr.1, hgr.2, .inr ⟨_, rfl, Nat.le_refl _⟩⟩
  · by_cases hroom : n + s.size ≤ cap
    · have hcs' : cur.size = cap := by simpa using hcs
      have hr := Lib.run_append_room_string (P := P) w t u ty e i ht hu hi hsize g n cap cur hg s hroom (by omega)
      refine ⟨_, _, hr, ⟨hlen, .inr ⟨g, cap, _, rfl, hbg, setRow_heap w g cur _ e _ hg, hroom, hcm, ?_, ?_⟩⟩, ⟨rfl, rfl, rfl, by simp, fun k _ hk => setRow_other w g k _ (fun e => hk (by simp [Value.ownBlock, e]))⟩, .inl rfl⟩
      · simp only [List.size_toArray, List.length_append, List.length_take, List.length_drop, Array.length_toList, Lib.strCells_length]
        omega
      · have ht' : cur.toList.take n = xs := by simpa using htake
        rw [ht', ← hlen]
        exact List.take_left
    · have holds : ∀ j u, xs[j]? = some u → w.cell? ((⟨g, 0, none⟩ : Addr).add j) = some u := hown.cells (g := g) rfl
      have hr := Lib.run_append_grow_string (P := P) w t u ty e i (.int .u8 0) ht hu hi hz ⟨g, 0, none⟩ n cap xs (by rw [hsize]; simpa using hxl) holds s (by omega) (by omega) (by rw [hby]; exact growslice_fits (by omega) (by omega))
      have hgr := grown cap (by omega) (Value.ownBlock (.slice (some ⟨g, 0, none⟩) n cap))
      exact ⟨_, _, hr, hgr.1, hgr.2, .inr ⟨_, rfl, Nat.le_refl _⟩⟩
theorem vix {i : Int} {n : Nat} (h : (i == (n : Int)) = true) : i.toNat * 1 = n * 1 + 0 := by have := eq_of_beq h; omega
theorem vlt {α : Type} {xs : List α} {n : Nat} {i : Int} (e : xs.length = n) (h : i < (n : Int)) : i < (xs.length : Int) := e ▸ h
theorem thenQ_ex {R : Env → List HA → Prop} {Q : Post} {i : Nat} {E : Env} {M : List HA} (h : Q (.exit i) E M) : thenQ R Q (.exit i) E M := h
theorem blockQ_ex {id : Nat} {Q : Post} {E : Env} {M : List HA} (h : Q .normal E M) : blockQ id Q (.exit id) E M := by
  show (bif Nat.beq id id then Q .normal E M else Q (.exit id) E M)
  rw [Nat.beq_refl]; exact h
theorem scopeQ_ex {Q : Post} {i : Nat} {E : Env} {M : List HA} (h : Q (.exit i) E M) : scopeQ Q (.exit i) E M := h
theorem scopeQ_no {Q : Post} {E : Env} {M : List HA} (h : Q .normal E M) : scopeQ Q .normal E M := h
theorem blockQ_nx {id i : Nat} {Q : Post} {E : Env} {M : List HA} (e : Nat.beq i id = false) (h : Q (.exit i) E M) : blockQ id Q (.exit i) E M := by
  show (bif Nat.beq i id then Q .normal E M else Q (.exit i) E M)
  rw [e]; exact h
theorem u8_view (xs : List UInt8) : xs.flatMap EK.u8.view = xs.map fun c => SVal.val (.int .u8 (c.toNat : Int)) := by
  induction xs with
  | nil => rfl
  | cons x xs ih => simp [List.flatMap_cons, ih]
def u8cells (xs : List UInt8) : List Value := xs.map fun c => .int .u8 (c.toNat : Int)
theorem RepL.u8s {φ : Hp} {xs : List UInt8} {vs : List Value} (h : RepL φ (xs.flatMap EK.u8.view) vs) : vs = u8cells xs := by
  rw [u8_view] at h
  refine List.ext_getElem (by simp [h.1, u8cells]) fun i h1 h2 => ?_
  have h3 : i < (xs.map fun c => SVal.val (.int .u8 (c.toNat : Int))).length := by rw [← h.1]; exact h1
  have := h.2 i h3 h1
  simp only [List.getElem_map] at this
  rw [this.val_eq]
  simp [u8cells]
theorem RepL.ofU8s {φ : Hp} (xs : List UInt8) : RepL φ (xs.flatMap EK.u8.view) (u8cells xs) := by
  rw [u8_view]
  exact ⟨by simp [u8cells], fun i h1 h2 => by simp [u8cells]; exact .val _⟩
/-- The slice type t is of bytes. -/
def u8B (P : Program) (t e : TypeId) : Bool := (match P.underlying t with | some (.slice e') => e' == e | _ => false) && (match P.info? e with | some i => i.size == 1 && i.bytes == 1 && (match i.zero with | some (.int .u8 0) => true | _ => false) | none => false)
theorem u8B.run {P : Program} {t e : TypeId} (h : u8B P t e = true) : ∃ i, P.underlying t = some (.slice e) ∧ P.info? e = some i ∧ i.size = 1 ∧ i.bytes = 1 ∧ i.zero = some (.int .u8 0) := by
  simp only [u8B, Bool.and_eq_true] at h
  obtain ⟨h1, h2⟩ := h
  cases hi : P.info? e with
  | none => rw [hi] at h2; cases h2
  | some i =>
    rw [hi] at h2
    simp only [Bool.and_eq_true, beq_iff_eq] at h2
    obtain ⟨⟨h3, h4⟩, h5⟩ := h2
    refine ⟨i, ?_, rfl, h3, h4, ?_⟩
    · split at h1
      · rename_i h6; rw [h6]; simp only [beq_iff_eq] at h1; rw [h1]
      · cases h1
    · split at h5
      · rename_i h6; exact h6
      · cases h5
/-- A row of bytes that may have been read as a text. -/
def rowA (v : Value) (e : TypeId) (xs : List UInt8) : HA where
  p φ h := ∃ g cap cur fr, v = .slice (some ⟨g, 0, none⟩) xs.length cap ∧ h = Hp.one g (.cells cur e fr) ∧ (fr = (0, 0) ∨ fr = (0, xs.length)) ∧ xs ≠ [] ∧ xs.length ≤ cap ∧ cap ≤ maxLen ∧ cur.size = cap ∧ cur.toList.take xs.length = u8cells xs
  mono _ h := h
theorem own_row {φ h : Hp} {v : Value} {e : TypeId} {xs : List UInt8} (h0 : xs ≠ []) (ho : (ownA v e .u8 xs).p φ h) : (rowA v e xs).p φ h := by
  rcases ho with ⟨_, e2, _⟩ | ⟨b, cap, cur, e1, rfl, h1, h2, h3, r⟩
  · exact absurd e2 h0
  · have h3' : cur.size = cap := by simpa [EK.size] using h3
    have hr : cur.toList.take (xs.length * EK.u8.size) = u8cells xs := r.u8s
    exact ⟨b, cap, cur, (0, 0), e1, rfl, .inl rfl, h0, h1, h2, h3', by simpa [EK.size] using hr⟩
class RowAt (v : Value) (H : List HA) (e : outParam TypeId) (xs : outParam (List UInt8)) : Prop where
  i : ∃ i : Nat, H[i]? = some (rowA v e xs)
class RowCtx (v : Value) (H : List HA) (e : outParam TypeId) (xs : outParam (List UInt8)) (C : outParam (HA → List HA)) : Prop where
  u : InCtx (rowA v e xs) H C
section
variable {v : Value} {e : TypeId} {xs : List UInt8} {A : HA} {t m R : List HA} {C : HA → List HA}
instance : RowAt v (rowA v e xs :: t) e xs := ⟨⟨0, rfl⟩⟩
instance [h : RowAt v t e xs] : RowAt v (A :: t) e xs := ⟨let ⟨i, e⟩ := h.i; ⟨i + 1, by simpa using e⟩⟩
instance : RowAt v ((rowA v e xs :: m) ++ R) e xs := ⟨⟨0, rfl⟩⟩
instance [h : RowAt v (m ++ R) e xs] : RowAt v ((A :: m) ++ R) e xs := ⟨let ⟨i, e⟩ := h.i; ⟨i + 1, by simpa using e⟩⟩
instance [h : RowAt v R e xs] : RowAt v ([] ++ R) e xs := h
instance : RowCtx v (rowA v e xs :: t) e xs (fun B => B :: t) := ⟨.here _ _⟩
instance [h : RowCtx v t e xs C] : RowCtx v (A :: t) e xs (fun B => A :: C B) := ⟨.there _ h.u⟩
instance : RowCtx v ((rowA v e xs :: m) ++ R) e xs (fun B => B :: (m ++ R)) := ⟨.here _ _⟩
instance [h : RowCtx v (m ++ R) e xs C] : RowCtx v ((A :: m) ++ R) e xs (fun B => A :: C B) := ⟨.there _ h.u⟩
instance [h : RowCtx v R e xs C] : RowCtx v ([] ++ R) e xs C := h
end
theorem row_world {w0 w : World} {φ : Hp} {hs : List Hp} {H : List HA} {v : Value} {e : TypeId} {xs : List UInt8} [ho : RowAt v H e xs] (g : Good w0 φ hs w) (hS : Sat φ H hs) :
    ∃ b cap cur fr, v = .slice (some ⟨b, 0, none⟩) xs.length cap ∧ w.heap[b]? = some (.cells cur e fr) ∧ (fr = (0, 0) ∨ fr = (0, xs.length)) ∧ xs ≠ [] ∧ xs.length ≤ cap ∧ cap ≤ maxLen ∧ cur.size = cap ∧ cur.toList.take xs.length = u8cells xs := by
  obtain ⟨i, hi⟩ := ho.i
  obtain ⟨h, hh, b, cap, cur, fr, e1, rfl, r⟩ := hS.at hi
  exact ⟨b, cap, cur, fr, e1, g.agree _ (List.mem_cons_of_mem _ hh) b _ one_get, r⟩
section
variable {w0 : World} {P : Program} {E : Env} {M : List HA} {K : SVal → List HA → Prop} {dst : Option Tmp} {ty : TypeId} {pos : String} {af : Array Edge} {gd : Option (Nat × Bool)} {x y : Operand} {t u e : TypeId} {v : Value}
theorem A_str {xs : List UInt8} {s : ByteArray} {C : HA → List HA} (ht : u8B P t e = true) (hu : P.underlying u = some .string) (hx : look E x = some (.val v)) (hy : look E y = some (sS s)) [hc : OwnCtx v M e .u8 xs C]
    (hb : xs.length + s.size ≤ 140737488355328) (h : ∀ q : Hnd, K (.val (sl q)) (C (ownA (sl q) e .u8 (xs ++ s.data.toList)))) : OpS w0 P ⟨dst, .call ⟨.builtin .append, #[x, y], #[t, u]⟩, ty, pos, af, gd⟩ E M K := by
  refine O_sl (e := e) (k := .u8) (ys := xs ++ s.data.toList) (C' := fun v => C (ownA v e .u8 (xs ++ s.data.toList))) (fun v => hc.u.mem _) (.step fun X hX a w hh => ?_) h
  obtain ⟨R, p, p'⟩ := hc.u
  obtain ⟨φ, hs, g, hS, he, hX'⟩ := hh.perm p
  obtain ⟨q, hs0, rfl, hq, t'⟩ := hS.cons_inv
  have e1 := (he.look hx).val_eq
  have e2 := (he.look hy).val_eq
  obtain ⟨i, h1, h2, h3, h4, h5⟩ := u8B.run ht
  have hrow : ∃ cells, RepL φ (xs.flatMap EK.u8.view) cells ∧ w.ownsRow 0 e 1 v xs.length cells := by
    rcases hq with ⟨e3, e4, _⟩ | ⟨b, cap, cur, e3, rfl, q1, q2, q3, r⟩
    · subst e3; subst e4; exact ⟨[], RepL.nil, ⟨by simp, .inl ⟨rfl, rfl⟩⟩⟩
    · exact ⟨_, r, ⟨by rw [r.1, flat_length], .inr ⟨b, cap, cur, e3, Nat.zero_le _, g.agree _ (List.mem_cons_of_mem _ (List.mem_cons_self ..)) b _ one_get, q1, q2, q3, rfl⟩⟩⟩
  obtain ⟨cells, hr, ho⟩ := hrow
  obtain ⟨v', w', hrun, hown, hg, hat⟩ := run_append_str (P := P) w t u ty e i h1 hu h2 h5 h3 h4 v xs.length cells ho s (by simp only [maxLen]; omega) hb
  have hn : RepL φ ((xs ++ s.data.toList).flatMap EK.u8.view) (cells ++ Lib.strCells s) := by
    rw [List.flatMap_append]; exact hr.append (RepL.ofU8s _)
  obtain ⟨q', hq', g'⟩ := own_turn (k := .u8) (ys := (xs ++ s.data.toList : List UInt8)) (v' := v') g hq (fun cells2 hr2 ho2 => ⟨_, by simpa using hown, hn⟩) hg hat
  refine ⟨.value v', v', w', .val v', _, by simp [execOp, resolve, invoke, builtin, e1, e2, hrun], .inl rfl, ⟨v', rfl, rfl⟩, ?_⟩
  exact Holds.perm (H := ownA v' e .u8 (xs ++ s.data.toList) :: R) ⟨φ, _, g', .cons hq' t', .val _, hX'⟩ (p' _)
theorem O_len_row {xs : List UInt8} (ht : (match P.underlying t with | some (.slice _) => true | _ => false) = true) (hx : look E x = some (.val v)) [RowAt v M e xs] (h : K (sI xs.length) M) : OpS w0 P ⟨dst, .call ⟨.builtin .len, #[x], #[t]⟩, ty, pos, af, gd⟩ E M K :=
  .read fun φ hs a w g hS he => by
    have e1 := (he.look hx).val_eq
    obtain ⟨b, cap, cur, fr, e2, _⟩ := row_world (v := v) g hS
    rw [e2] at e1
    cases hu : P.underlying t with
    | none => rw [hu] at ht; cases ht
    | some d =>
      rw [hu] at ht
      cases d <;> first | cases ht | skip
      exact ⟨.int .i64 xs.length, _, by simp [execOp, resolve, invoke, builtin, Builtin.len_, e1, run_und hu, goInt], .val _, h⟩
theorem O_sliceData {xs : List UInt8} {q : Hnd} (hx : look E x = some (.val (sl q))) [RowAt (sl q) M e xs] (h : K (.val (.pointer q.1)) M) : OpS w0 P ⟨dst, .call ⟨.builtin .unsafeSliceData, #[x], #[t]⟩, ty, pos, af, gd⟩ E M K :=
  .read fun φ hs a w g hS he => by
    have e1 := (he.look hx).val_eq
    obtain ⟨b, cap, cur, fr, e2, _, _, h0, h1, _⟩ := row_world (v := sl q) g hS
    rw [e2] at e1
    have hc : cap ≠ 0 := by
      have : 0 < xs.length := List.length_pos_iff.2 h0
      omega
    injection e2 with e3 _ _
    refine ⟨.pointer (some ⟨b, 0, none⟩), _, ?_, by rw [e3]; exact .val _, h⟩
    simp [execOp, resolve, invoke, builtin, e1, Lib.run_unsafeSliceData_row w #[t] ty ⟨b, 0, none⟩ xs.length cap hc]
theorem O_unsafeString {xs : List UInt8} {q : Hnd} {C : HA → List HA} (hp : P.underlying t = some (.pointer e)) (hc1 : P.cellsOf e = 1) (hx : look E x = some (.val (.pointer q.1))) (hy : look E y = some (sI xs.length)) [hc : RowCtx (sl q) M e xs C] (h : K (sS ⟨xs.toArray⟩) (C (rowA (sl q) e xs))) : OpS w0 P ⟨dst, .call ⟨.builtin .unsafeString, #[x, y], #[t, u]⟩, ty, pos, af, gd⟩ E M K :=
  .step fun X hX a w hh => by
    obtain ⟨R, p, p'⟩ := hc.u
    obtain ⟨φ, hs, g, hS, he, hX'⟩ := hh.perm p
    obtain ⟨q', hs0, rfl, ⟨b, cap, cur, fr, e2, rfl, hf, h0, h1, h2, h3, h4⟩, t'⟩ := hS.cons_inv
    have e1 := (he.look hx).val_eq
    have e5 := (he.look hy).val_eq
    have e9 := e2
    injection e2 with e3 _ _
    rw [e3] at e1
    have hw : w.heap[b]? = some (.cells cur e fr) := g.agree _ (List.mem_cons_of_mem _ (List.mem_cons_self ..)) b _ one_get
    have hcell : ∀ j x, xs[j]? = some x → w.cell? ((⟨b, 0, none⟩ : Addr).add j) = some (.int .u8 x.toNat) := by
      intro j x hj
      have hj1 := (List.getElem?_eq_some_iff.1 hj).1
      rw [add_mk]
      have h5 : (cur.toList.take xs.length)[j]? = some (.int .u8 x.toNat) := by rw [h4]; simp [u8cells, hj]
      rw [List.getElem?_take, if_pos hj1] at h5
      simp [World.cell?, hw]
      simpa using h5
    have hrun := Lib.run_unsafeString_row (P := P) w t u ty e hp hc1 b cap (by simp [World.shape?, hw, h3]) xs h0 h1 (by simp only [maxLen] at h2; omega) hcell
    have hl : xs.length ≠ 0 := by simpa using h0
    have hnew : ∀ k, (w.freeze ⟨b, 0, none⟩ xs.length).heap[k]? = if k = b then some (.cells cur e (0, xs.length)) else w.heap[k]? := by
      intro k
      simp only [World.freeze, hl, if_false]
      rw [Array.getElem?_modify]
      by_cases hk : b = k
      · subst hk
        rcases hf with rfl | rfl
        · simp [hw]
        · simp [hw]
      · rw [if_neg hk, if_neg (fun e => hk e.symm)]
    have hg : Good w0 φ (Hp.one b (.cells cur e (0, xs.length)) :: hs0) (w.freeze ⟨b, 0, none⟩ xs.length) := by
      refine g.set (fun k hk => ?_) (by simp [World.freeze, hl]) (by simp [World.freeze, hl]) (by simp [World.freeze, hl]) (by simp [World.freeze, hl]) (fun k o ho => ?_) (fun k hk hn => ?_)
      · left
        unfold Hp.one at hk ⊢
        split at hk
        · rename_i e; simp [e]
        · exact absurd rfl hk
      · unfold Hp.one at ho
        split at ho
        · rename_i e; rw [hnew, if_pos e]; exact ho
        · cases ho
      · rw [hnew]
        split
        · rename_i e; subst e; simp [Hp.one] at hn
        · rfl
    refine ⟨.value (.string ⟨xs.toArray⟩), _, w.freeze ⟨b, 0, none⟩ xs.length, _, _, by simp [execOp, resolve, invoke, builtin, e1, e5, hrun], .inl rfl, h, ?_⟩
    exact Holds.perm (H := rowA (sl q) e xs :: R) ⟨φ, _, hg, .cons ⟨b, cap, cur, _, e9, rfl, .inr rfl, h0, h1, h2, h3, h4⟩ t', .val _, hX'⟩ (p' _)
end
/-! ### strings.Builder -/
/-- One that has not been read; one that may have been. -/
def sbA (b : Nat) (ty e : TypeId) (xs : List UInt8) : HA where
  p φ h := ∃ (p : Option Addr) (q : Hnd), (p = none ∨ p = some ⟨b, 0, none⟩) ∧ (starA [boxA b ty [.val (.pointer p), .val (sl q)], ownA (sl q) e .u8 xs]).p φ h
  mono hl := fun ⟨p, q, e, h⟩ => ⟨p, q, e, (starA _).mono hl h⟩
def sbR (b : Nat) (ty e : TypeId) (xs : List UInt8) : HA where
  p φ h := ∃ (p : Option Addr) (q : Hnd), (starA [boxA b ty [.val (.pointer p), .val (sl q)], rowA (sl q) e xs]).p φ h
  mono hl := fun ⟨p, q, h⟩ => ⟨p, q, (starA _).mono hl h⟩
section
variable {w0 w : World} {P : Program} {f : FuncId} {args : List SVal} {b : Nat} {ty e : TypeId} {xs : List UInt8} {R : SVal → List HA → Prop} {M : List HA} {X : Hp → Prop}
theorem sb_open (h : Holds w0 (sbA b ty e xs :: M) w X) : ∃ (p : Option Addr) (q : Hnd), (p = none ∨ p = some ⟨b, 0, none⟩) ∧ Holds w0 ([boxA b ty [.val (.pointer p), .val (sl q)], ownA (sl q) e .u8 xs] ++ M) w X := by
  obtain ⟨φ, rs, g, s, x⟩ := h
  obtain ⟨r, ks, rfl, ⟨p, q, hp, hq⟩, t⟩ := s.cons_inv
  exact ⟨p, q, hp, Holds.unstar ⟨φ, _, g, .cons (A := starA _) hq t, x⟩⟩
theorem sb_shut {p : Option Addr} {q : Hnd} (hp : p = none ∨ p = some ⟨b, 0, none⟩) (h : Holds w0 ([boxA b ty [.val (.pointer p), .val (sl q)], ownA (sl q) e .u8 xs] ++ M) w X) : Holds w0 (sbA b ty e xs :: M) w X := by
  obtain ⟨φ, rs, g, s, x⟩ := h.star
  obtain ⟨r, ks, rfl, hq, t⟩ := s.cons_inv
  exact ⟨φ, _, g, .cons (A := sbA b ty e xs) ⟨p, q, hp, hq⟩ t, x⟩
theorem sbR_open (h : Holds w0 (sbR b ty e xs :: M) w X) : ∃ (p : Option Addr) (q : Hnd), Holds w0 ([boxA b ty [.val (.pointer p), .val (sl q)], rowA (sl q) e xs] ++ M) w X := by
  obtain ⟨φ, rs, g, s, x⟩ := h
  obtain ⟨r, ks, rfl, ⟨p, q, hq⟩, t⟩ := s.cons_inv
  exact ⟨p, q, Holds.unstar ⟨φ, _, g, .cons (A := starA _) hq t, x⟩⟩
theorem sbR_shut {p : Option Addr} {q : Hnd} (h : Holds w0 ([boxA b ty [.val (.pointer p), .val (sl q)], rowA (sl q) e xs] ++ M) w X) : Holds w0 (sbR b ty e xs :: M) w X := by
  obtain ⟨φ, rs, g, s, x⟩ := h.star
  obtain ⟨r, ks, rfl, hq, t⟩ := s.cons_inv
  exact ⟨φ, _, g, .cons (A := sbR b ty e xs) ⟨p, q, hq⟩ t, x⟩
theorem Fn.sb {ys : List UInt8} {s0 : SVal} (h : ∀ (p : Option Addr) (q : Hnd), (p = none ∨ p = some ⟨b, 0, none⟩) → Fn w0 P f args [boxA b ty [.val (.pointer p), .val (sl q)], ownA (sl q) e .u8 xs] (fun s H => ∃ q', s = s0 ∧ H = [boxA b ty [sP b 0, .val (sl q')], ownA (sl q') e .u8 ys])) : Fn w0 P f args [sbA b ty e xs] (fun s H => s = s0 ∧ H = [sbA b ty e ys]) := by
  intro X hX F vs w hh
  obtain ⟨p, q, hp, h2⟩ := sb_open hh
  refine (h p q hp X hX F vs w h2).mono ?_
  rintro _ w' ⟨v, s, H', rfl, ⟨q', rfl, rfl⟩, hH⟩
  exact ⟨v, s, _, rfl, ⟨rfl, rfl⟩, sb_shut (.inr rfl) hH⟩
theorem Fn.sbr {s0 : SVal} (h : ∀ (p : Option Addr) (q : Hnd), Fn w0 P f args [boxA b ty [.val (.pointer p), .val (sl q)], rowA (sl q) e xs] (fun s H => s = s0 ∧ H = [boxA b ty [.val (.pointer p), .val (sl q)], rowA (sl q) e xs])) : Fn w0 P f args [sbR b ty e xs] (fun s H => s = s0 ∧ H = [sbR b ty e xs]) := by
  intro X hX F vs w hh
  obtain ⟨p, q, h2⟩ := sbR_open hh
  refine (h p q X hX F vs w h2).mono ?_
  rintro _ w' ⟨v, s, H', rfl, ⟨rfl, rfl⟩, hH⟩
  exact ⟨v, s, _, rfl, ⟨rfl, rfl⟩, sbR_shut hH⟩
theorem T_sb {Γ : Cx} {E : Env} (e : TypeId) : Turn Γ E (boxA b ty [.val (.pointer none), .val (.slice none 0 0)] :: M) E (sbA b ty e [] :: M) := fun a w hd => ⟨hd.1, hd.2.1, by
  have h := own_nil_holds e .u8 hd.2.2
  exact sb_shut (p := none) (q := (none, 0, 0)) (.inl rfl) (h.perm (List.Perm.swap _ _ _))⟩
/-- Wherever the builder stands. -/
class SbCtx (b : Nat) (H : List HA) (ty e : outParam TypeId) (xs : outParam (List UInt8)) (C : outParam (HA → List HA)) : Prop where
  u : InCtx (sbA b ty e xs) H C
instance : SbCtx b (sbA b ty e xs :: M) ty e xs (fun B => B :: M) := ⟨.here _ _⟩
instance {A : HA} {C : HA → List HA} [h : SbCtx b M ty e xs C] : SbCtx b (A :: M) ty e xs (fun B => A :: C B) := ⟨.there _ h.u⟩
theorem T_sbR {Γ : Cx} {E : Env} (b : Nat) {C : HA → List HA} [hc : SbCtx b M ty e xs C] (h0 : xs ≠ []) : Turn Γ E M E (C (sbR b ty e xs)) := fun a w hd => ⟨hd.1, hd.2.1, by
  obtain ⟨R, p, p'⟩ := hc.u
  obtain ⟨pp, q, hp, h2⟩ := sb_open (hd.2.2.perm p)
  refine (sbR_shut (p := pp) (q := q) (M := R) ?_).perm (p' _)
  obtain ⟨φ, rs, g, s, x⟩ := h2
  obtain ⟨r1, ks, rfl, hb, t⟩ := s.cons_inv
  obtain ⟨r2, ks2, rfl, ho, t2⟩ := t.cons_inv
  exact ⟨φ, _, g, .cons hb (.cons (own_row h0 ho) t2), x⟩⟩
end
end Go.Proofs.YtabojfgmbfnoiaaGreatDoor
end
section
/-
Contracts of the library's functions, laid at this seat by the shelf's own tool.
-/
namespace Go.Proofs
open Go.Shelf
def Tryz.laysM171_ren : Go.Shelf.Ren := ⟨fun | 171 => 36 | 243 => 53 | 246 => 68 | 283 => 94 | 284 => 95 | 285 => 96 | 286 => 97 | 129 => 125 | 317 => 124 | 318 => 126 | 319 => 127 | 320 => 128 | 337 => 140 | 338 => 141 | n => n, fun | 3 => 3 | 9 => 9 | 2 => 2 | 4 => 4 | 171 => 128 | 0 => 0 | 53 => 41 | 37 => 63 | 5 => 5 | 173 => 131 | 212 => 151 | 51 => 92 | 20 => 20 | 213 => 152 | 46 => 75 | 232 => 171 | 233 => 172 | n => n, fun | 17 => 0 | 18 => 2 | 19 => 3 | n => n⟩
theorem Tryz.laysM171 : Go.Proofs.LaysM.n171 Tryz.prog Tryz.laysM171_ren := {
  mixed := by kernel_rfl
  f129 := Tryz.func125.trans (congrArg some (by kernel_rfl))
  f171 := Tryz.func36.trans (congrArg some (by kernel_rfl))
  f243 := Tryz.func53.trans (congrArg some (by kernel_rfl))
  f246 := Tryz.func68.trans (congrArg some (by kernel_rfl))
  f283 := Tryz.func94.trans (congrArg some (by kernel_rfl))
  f284 := Tryz.func95.trans (congrArg some (by kernel_rfl))
  f285 := Tryz.func96.trans (congrArg some (by kernel_rfl))
  f286 := Tryz.func97.trans (congrArg some (by kernel_rfl))
  f317 := Tryz.func124.trans (congrArg some (by kernel_rfl))
  f318 := Tryz.func126.trans (congrArg some (by kernel_rfl))
  f319 := Tryz.func127.trans (congrArg some (by kernel_rfl))
  f320 := Tryz.func128.trans (congrArg some (by kernel_rfl))
  f337 := Tryz.func140.trans (congrArg some (by kernel_rfl))
  f338 := Tryz.func141.trans (congrArg some (by kernel_rfl))
  t0 := Tryz.underlying0
  a0 := Tryz.isAgg0
  z0 := Tryz.sizeOf0
  v0 := Tryz.zeroValue0
  t2 := Tryz.underlying2
  a2 := Tryz.isAgg2
  z2 := Tryz.sizeOf2
  v2 := Tryz.zeroValue2
  t3 := Tryz.underlying3
  a3 := Tryz.isAgg3
  z3 := Tryz.sizeOf3
  v3 := Tryz.zeroValue3
  t4 := Tryz.underlying4
  a4 := Tryz.isAgg4
  z4 := Tryz.sizeOf4
  v4 := Tryz.zeroValue4
  t5 := Tryz.underlying5
  a5 := Tryz.isAgg5
  z5 := Tryz.sizeOf5
  v5 := Tryz.zeroValue5
  t9 := Tryz.underlying9
  a9 := Tryz.isAgg9
  z9 := Tryz.sizeOf9
  v9 := Tryz.zeroValue9
  t20 := Tryz.underlying20
  a20 := Tryz.isAgg20
  z20 := Tryz.sizeOf20
  v20 := Tryz.zeroValue20
  t37 := Tryz.underlying63
  a37 := Tryz.isAgg63
  z37 := Tryz.sizeOf63
  v37 := Tryz.zeroValue63
  t46 := Tryz.underlying75
  a46 := Tryz.isAgg75
  z46 := Tryz.sizeOf75
  v46 := Tryz.zeroValue75
  t51 := Tryz.underlying92
  a51 := Tryz.isAgg92
  z51 := Tryz.sizeOf92
  v51 := Tryz.zeroValue92
  t53 := Tryz.underlying41
  a53 := Tryz.isAgg41
  z53 := Tryz.sizeOf41
  v53 := Tryz.zeroValue41
  t171 := Tryz.underlying128
  a171 := Tryz.isAgg128
  z171 := Tryz.sizeOf128
  v171 := Tryz.zeroValue128
  t173 := Tryz.underlying131
  a173 := Tryz.isAgg131
  z173 := Tryz.sizeOf131
  v173 := Tryz.zeroValue131
  t212 := Tryz.underlying151
  a212 := Tryz.isAgg151
  z212 := Tryz.sizeOf151
  v212 := Tryz.zeroValue151
  t213 := Tryz.underlying152
  a213 := Tryz.isAgg152
  z213 := Tryz.sizeOf152
  t232 := Tryz.underlying171
  a232 := Tryz.isAgg171
  z232 := Tryz.sizeOf171
  v232 := Tryz.zeroValue171
  t233 := Tryz.underlying172
  a233 := Tryz.isAgg172
  z233 := Tryz.sizeOf172
  v233 := Tryz.zeroValue172
  g17 := by kernel_rfl
  g18 := by kernel_rfl
  g19 := by kernel_rfl
  i0 := by kernel_rfl
  i2 := by kernel_rfl
  i3 := by kernel_rfl
  i4 := by kernel_rfl
  i5 := by kernel_rfl
  i9 := by kernel_rfl
  i20 := by kernel_rfl
  i37 := by kernel_rfl
  i46 := by kernel_rfl
  i51 := by kernel_rfl
  i53 := by kernel_rfl
  i171 := by kernel_rfl
  i173 := by kernel_rfl
  i212 := by kernel_rfl
  i232 := by kernel_rfl
  i233 := by kernel_rfl
  m17 := by kernel_rfl
  m18 := by kernel_rfl
  m19 := by kernel_rfl }
def Tryz.lays137_ren : Go.Shelf.Ren := ⟨fun | 137 => 138 | 217 => 146 | 266 => 150 | n => n, fun | 9 => 9 | 5 => 5 | 3 => 3 | n => n, fun | n => n⟩
theorem Tryz.lays137 : Go.Proofs.Lays.n137 Tryz.prog Tryz.lays137_ren := {
  mixed := by kernel_rfl
  f137 := Tryz.func138.trans (congrArg some (by kernel_rfl))
  f217 := Tryz.func146.trans (congrArg some (by kernel_rfl))
  f266 := Tryz.func150.trans (congrArg some (by kernel_rfl))
  t3 := Tryz.underlying3
  a3 := Tryz.isAgg3
  z3 := Tryz.sizeOf3
  v3 := Tryz.zeroValue3
  t5 := Tryz.underlying5
  a5 := Tryz.isAgg5
  z5 := Tryz.sizeOf5
  v5 := Tryz.zeroValue5
  t9 := Tryz.underlying9
  a9 := Tryz.isAgg9
  z9 := Tryz.sizeOf9
  v9 := Tryz.zeroValue9 }
def Tryz.lays187_ren : Go.Shelf.Ren := ⟨fun | 187 => 118 | 255 => 133 | n => n, fun | 37 => 63 | 5 => 5 | 3 => 3 | n => n, fun | n => n⟩
theorem Tryz.lays187 : Go.Proofs.Lays.n187 Tryz.prog Tryz.lays187_ren := {
  mixed := by kernel_rfl
  f187 := Tryz.func118.trans (congrArg some (by kernel_rfl))
  f255 := Tryz.func133.trans (congrArg some (by kernel_rfl))
  t3 := Tryz.underlying3
  a3 := Tryz.isAgg3
  z3 := Tryz.sizeOf3
  v3 := Tryz.zeroValue3
  t5 := Tryz.underlying5
  a5 := Tryz.isAgg5
  z5 := Tryz.sizeOf5
  v5 := Tryz.zeroValue5
  t37 := Tryz.underlying63
  a37 := Tryz.isAgg63
  z37 := Tryz.sizeOf63
  v37 := Tryz.zeroValue63 }
def Tryz.lays32_ren : Go.Shelf.Ren := ⟨fun | 32 => 142 | 49 => 148 | n => n, fun | 30 => 63 | 21 => 21 | 3 => 3 | 0 => 0 | 5 => 5 | 4 => 4 | 33 => 168 | 66 => 173 | 25 => 75 | 69 => 176 | 68 => 175 | n => n, fun | 2 => 4 | 3 => 5 | n => n⟩
theorem Tryz.lays32 : Go.Proofs.Lays7.n32 Tryz.prog Tryz.lays32_ren := {
  mixed := by kernel_rfl
  f32 := Tryz.func142.trans (congrArg some (by kernel_rfl))
  f49 := Tryz.func148.trans (congrArg some (by kernel_rfl))
  t0 := Tryz.underlying0
  a0 := Tryz.isAgg0
  z0 := Tryz.sizeOf0
  v0 := Tryz.zeroValue0
  i0 := by kernel_rfl
  t3 := Tryz.underlying3
  a3 := Tryz.isAgg3
  z3 := Tryz.sizeOf3
  v3 := Tryz.zeroValue3
  i3 := by kernel_rfl
  t4 := Tryz.underlying4
  a4 := Tryz.isAgg4
  z4 := Tryz.sizeOf4
  v4 := Tryz.zeroValue4
  i4 := by kernel_rfl
  t5 := Tryz.underlying5
  a5 := Tryz.isAgg5
  z5 := Tryz.sizeOf5
  v5 := Tryz.zeroValue5
  i5 := by kernel_rfl
  t21 := Tryz.underlying21
  a21 := Tryz.isAgg21
  z21 := Tryz.sizeOf21
  v21 := Tryz.zeroValue21
  i21 := by kernel_rfl
  t25 := Tryz.underlying75
  a25 := Tryz.isAgg75
  z25 := Tryz.sizeOf75
  v25 := Tryz.zeroValue75
  i25 := by kernel_rfl
  t30 := Tryz.underlying63
  a30 := Tryz.isAgg63
  z30 := Tryz.sizeOf63
  v30 := Tryz.zeroValue63
  i30 := by kernel_rfl
  t33 := Tryz.underlying168
  a33 := Tryz.isAgg168
  z33 := Tryz.sizeOf168
  v33 := Tryz.zeroValue168
  i33 := by kernel_rfl
  t66 := Tryz.underlying173
  a66 := Tryz.isAgg173
  z66 := Tryz.sizeOf173
  t68 := Tryz.underlying175
  a68 := Tryz.isAgg175
  z68 := Tryz.sizeOf175
  v68 := Tryz.zeroValue175
  i68 := by kernel_rfl
  t69 := Tryz.underlying176
  a69 := Tryz.isAgg176
  z69 := Tryz.sizeOf176
  v69 := Tryz.zeroValue176
  i69 := by kernel_rfl
  g2 := by kernel_rfl
  g3 := by kernel_rfl }
def Tryz.lays7_ren : Go.Shelf.Ren := ⟨fun | 7 => 119 | 10 => 134 | 11 => 135 | 13 => 136 | 15 => 137 | 16 => 143 | 19 => 144 | 18 => 145 | 21 => 149 | 17 => 142 | 20 => 148 | n => n, fun | 22 => 63 | 9 => 9 | 3 => 3 | 4 => 4 | 5 => 5 | 28 => 160 | 27 => 159 | 0 => 0 | 31 => 163 | 21 => 21 | 33 => 168 | 36 => 173 | 37 => 75 | 40 => 176 | 39 => 175 | n => n, fun | 0 => 4 | 1 => 5 | n => n⟩
theorem Tryz.lays7 : Go.Proofs.SlLaysV.n7 Tryz.prog Tryz.lays7_ren := {
  mixed := by kernel_rfl
  f7 := Tryz.func119.trans (congrArg some (by kernel_rfl))
  f10 := Tryz.func134.trans (congrArg some (by kernel_rfl))
  f11 := Tryz.func135.trans (congrArg some (by kernel_rfl))
  f13 := Tryz.func136.trans (congrArg some (by kernel_rfl))
  f15 := Tryz.func137.trans (congrArg some (by kernel_rfl))
  f16 := Tryz.func143.trans (congrArg some (by kernel_rfl))
  f17 := Tryz.func142.trans (congrArg some (by kernel_rfl))
  f18 := Tryz.func145.trans (congrArg some (by kernel_rfl))
  f19 := Tryz.func144.trans (congrArg some (by kernel_rfl))
  f20 := Tryz.func148.trans (congrArg some (by kernel_rfl))
  f21 := Tryz.func149.trans (congrArg some (by kernel_rfl))
  t0 := Tryz.underlying0
  a0 := Tryz.isAgg0
  z0 := Tryz.sizeOf0
  v0 := Tryz.zeroValue0
  t3 := Tryz.underlying3
  a3 := Tryz.isAgg3
  z3 := Tryz.sizeOf3
  v3 := Tryz.zeroValue3
  t4 := Tryz.underlying4
  a4 := Tryz.isAgg4
  z4 := Tryz.sizeOf4
  v4 := Tryz.zeroValue4
  t5 := Tryz.underlying5
  a5 := Tryz.isAgg5
  z5 := Tryz.sizeOf5
  v5 := Tryz.zeroValue5
  t9 := Tryz.underlying9
  a9 := Tryz.isAgg9
  z9 := Tryz.sizeOf9
  v9 := Tryz.zeroValue9
  t21 := Tryz.underlying21
  a21 := Tryz.isAgg21
  z21 := Tryz.sizeOf21
  v21 := Tryz.zeroValue21
  t22 := Tryz.underlying63
  a22 := Tryz.isAgg63
  z22 := Tryz.sizeOf63
  v22 := Tryz.zeroValue63
  t27 := Tryz.underlying159
  a27 := Tryz.isAgg159
  z27 := Tryz.sizeOf159
  t28 := Tryz.underlying160
  a28 := Tryz.isAgg160
  z28 := Tryz.sizeOf160
  v28 := Tryz.zeroValue160
  t31 := Tryz.underlying163
  a31 := Tryz.isAgg163
  z31 := Tryz.sizeOf163
  v31 := Tryz.zeroValue163
  t33 := Tryz.underlying168
  a33 := Tryz.isAgg168
  z33 := Tryz.sizeOf168
  v33 := Tryz.zeroValue168
  t36 := Tryz.underlying173
  a36 := Tryz.isAgg173
  z36 := Tryz.sizeOf173
  t37 := Tryz.underlying75
  a37 := Tryz.isAgg75
  z37 := Tryz.sizeOf75
  v37 := Tryz.zeroValue75
  t39 := Tryz.underlying175
  a39 := Tryz.isAgg175
  z39 := Tryz.sizeOf175
  v39 := Tryz.zeroValue175
  t40 := Tryz.underlying176
  a40 := Tryz.isAgg176
  z40 := Tryz.sizeOf176
  v40 := Tryz.zeroValue176 }
end Go.Proofs
end
section
/- The library's contracts as contracts over parts of memory. -/
set_option linter.unusedVariables false
set_option linter.unusedSimpArgs false
namespace Go.Proofs
open Go.Shelf
def Tryz.lays240_ren : Go.Shelf.Ren := ⟨fun | 240 => 54 | 276 => 69 | n => n, fun | 0 => 0 | 4 => 4 | 5 => 5 | 9 => 9 | 20 => 20 | 37 => 63 | 70 => 62 | 72 => 65 | 164 => 109 | n => n, fun | n => n⟩
theorem Tryz.lays240 : Go.Proofs.Lays.n240 Tryz.prog Tryz.lays240_ren := {
  mixed := by kernel_rfl
  f240 := Tryz.func54.trans (congrArg some (by kernel_rfl))
  f276 := Tryz.func69.trans (congrArg some (by kernel_rfl))
  t0 := Tryz.underlying0
  a0 := Tryz.isAgg0
  z0 := Tryz.sizeOf0
  v0 := Tryz.zeroValue0
  t4 := Tryz.underlying4
  a4 := Tryz.isAgg4
  z4 := Tryz.sizeOf4
  v4 := Tryz.zeroValue4
  t9 := Tryz.underlying9
  a9 := Tryz.isAgg9
  z9 := Tryz.sizeOf9
  v9 := Tryz.zeroValue9
  t20 := Tryz.underlying20
  a20 := Tryz.isAgg20
  z20 := Tryz.sizeOf20
  v20 := Tryz.zeroValue20
  t70 := Tryz.underlying62
  a70 := Tryz.isAgg62
  z70 := Tryz.sizeOf62
  v70 := Tryz.zeroValue62
  t72 := Tryz.underlying65
  a72 := Tryz.isAgg65
  z72 := Tryz.sizeOf65
  v72 := Tryz.zeroValue65
  t164 := Tryz.underlying109
  a164 := Tryz.isAgg109
  z164 := Tryz.sizeOf109
  v164 := Tryz.zeroValue109 }
theorem Tryz.Builder_X72_240 : Builder.X72 Tryz.prog Tryz.lays240_ren where
  sizeBuilder := by kernel_rfl
  liesBuilder := by kernel_rfl
end Go.Proofs
namespace Go.Proofs.YtabojfgmbfnoiaaGreatDoor
open Go.Proofs.Tryz Go.RowKit
/-- What the tables of the library hold where all began. -/
structure Globs (w0 : World) : Prop where
  pow : Lib.TabIs prog w0 "internal/strconv.uint64pow10" .u64 Lib.pow10Tab
  utf : Lib.Utf8Tabs 4 5 w0
section
variable {w0 w : World} {φ : Hp} {hs : List Hp}
theorem Good.old (g : Good w0 φ hs w) {k : Nat} {o : Obj} (h : w0.heap[k]? = some o) : w.heap[k]? = some o := by
  have hlt := (Array.getElem?_eq_some_iff.1 h).1
  exact g.agree φ (List.mem_cons_self ..) k o (by rw [g.base k hlt]; exact h)
theorem Good.var {P : Program} {n : String} {cs : Array Value} (g : Good w0 φ hs w) (h : w0.var? P n = some cs) : w.var? P n = some cs := by
  unfold World.var? at h ⊢
  cases hg : P.globalNamed n with
  | none => rw [hg] at h; cases h
  | some k =>
    rw [hg] at h
    simp only [Option.bind_some] at h ⊢
    cases ho : w0.heap[k]? with
    | none => rw [ho] at h; cases h
    | some o => rw [ho] at h; rw [g.old ho]; exact h
theorem Good.oldCell {a : Addr} {v : Value} (g : Good w0 φ hs w) (h : w0.cell? a = some v) : w.cell? a = some v := by
  unfold World.cell? at h ⊢
  cases ho : w0.heap[a.block]? with
  | none => rw [ho] at h; cases h
  | some o => rw [ho] at h; rw [g.old ho]; exact h
theorem Globs.powAt (hG : Globs w0) (g : Good w0 φ hs w) : Lib.TabIs prog w "internal/strconv.uint64pow10" .u64 Lib.pow10Tab := g.var hG.pow
theorem Globs.utfAt (hG : Globs w0) (g : Good w0 φ hs w) : Lib.Utf8Tabs 4 5 w :=
  ⟨fun c hc => g.oldCell (hG.utf.1 c hc), fun i hi => ⟨g.oldCell (hG.utf.2 i hi).1, g.oldCell (hG.utf.2 i hi).2⟩⟩
theorem Good.below {w' : World} (g : Good w0 φ hs w) (h : Below w.heap.size w w') : Good w0 φ hs w' :=
  ⟨h.os.trans g.os, h.tape.trans g.tape, h.output.trans g.output, Nat.le_trans g.size h.size, g.base, fun q hq k o hk => by
    have := g.agree q hq k o hk
    rw [h.block k (Array.getElem?_eq_some_iff.1 this).1]; exact this, g.disj⟩
theorem below_grow (k : Nat) (os : Array Obj) (w : World) : Below w.heap.size w (Go.Sort.grow (w.drewN k) os) :=
  ⟨rfl, rfl, rfl, by simp [Go.Sort.grow, World.drewN], fun i hi => by simp only [Go.Sort.grow, World.drewN]; rw [Array.getElem?_append_left hi]⟩
end
theorem Fn.lift {w0 : World} {f : FuncId} {args : List SVal} {s : SVal} (h : ∀ φ hs (vs : Array Value) w, Good w0 φ hs w → RepL φ args vs.toList → ∃ v, Calls prog f vs w (fun e w' => e = .returned v ∧ Below w.heap.size w w') ∧ Rep φ s v) : Fn w0 prog f args [] (fun s' H => s' = s ∧ H = []) := by
  intro X hX F vs w hh
  obtain ⟨φ, hs, g, hS, hr, hx⟩ := hh
  obtain ⟨v, hc, hv⟩ := h φ hs vs w g hr
  refine hc.mono ?_
  rintro e w' ⟨rfl, hb⟩
  exact ⟨v, s, [], rfl, ⟨rfl, rfl⟩, φ, hs, g.below hb, hS, hv, hx⟩
theorem RepL.inv1 {φ : Hp} {s : SVal} {vs : Array Value} (h : RepL φ [s] vs.toList) : ∃ v, vs = #[v] ∧ Rep φ s v := by
  obtain ⟨l⟩ := vs
  match l, h with
  | [v], h => exact ⟨v, rfl, h.2 0 (by simp) (by simp)⟩
  | [], h => exact absurd h.1 (by simp)
  | _ :: _ :: _, h => exact absurd h.1 (by simp)
theorem RepL.inv2 {φ : Hp} {s t : SVal} {vs : Array Value} (h : RepL φ [s, t] vs.toList) : ∃ v u, vs = #[v, u] ∧ Rep φ s v ∧ Rep φ t u := by
  obtain ⟨l⟩ := vs
  match l, h with
  | [v, u], h => exact ⟨v, u, rfl, h.2 0 (by simp) (by simp), h.2 1 (by simp) (by simp)⟩
  | [], h => exact absurd h.1 (by simp)
  | [_], h => exact absurd h.1 (by simp)
  | _ :: _ :: _ :: _, h => exact absurd h.1 (by simp)
theorem isl_u8 {w0 w : World} {φ : Hp} {hs : List Hp} (g : Good w0 φ hs w) {xs : List UInt8} {v : Value} (h : Rep φ (.isl .u8 xs) v) : ∃ A c, v = .slice A xs.length c ∧ xs.length ≤ c ∧ c ≤ maxLen ∧ (0 < xs.length → ∃ b o, A = some ⟨b, o, none⟩ ∧ ∀ i (hi : i < xs.length), w.cell? ⟨b, o + i, none⟩ = some (.int .u8 xs[i].toNat)) := by
  cases h with
  | isl k xs A c hc hm hA u hu hr =>
    refine ⟨A, c, rfl, hc, hm, fun h0 => ?_⟩
    obtain ⟨ad, rfl⟩ := hA h0
    have h1 := hu ad rfl 0 h0 0 (by simp [EK.size])
    simp only [EK.size, Nat.zero_mul, Nat.add_zero] at h1
    obtain ⟨b, o, sp⟩ := ad
    have hsp : sp = none := by
      cases sp with
      | none => rfl
      | some x =>
        have : ((⟨b, o, some x⟩ : Addr).add 0) = ⟨b, o, some x⟩ := by simp [Addr.add]
        rw [this] at h1
        unfold Hp.cell at h1
        split at h1 <;> simp at h1
    subst hsp
    refine ⟨b, o, rfl, fun i hi => ?_⟩
    have h2 := phi_cell g (hu _ rfl i hi 0 (by simp [EK.size]))
    have h3 := (hr i hi 0 (by simp [EK.size])).val_eq
    rw [add_mk] at h2
    simp only [EK.size, Nat.mul_one, Nat.add_zero] at h2
    rw [h2, h3]
/-! What they compute. -/
def digs : Nat → Nat → List UInt8
  | 0, u => [UInt8.ofNat (48 + u)]
  | f + 1, u => if u < 10 then [UInt8.ofNat (48 + u)] else digs f (u / 10) ++ [UInt8.ofNat (48 + u % 10)]
theorem digs_eq : ∀ (f u : Nat), u < 10 ^ (f + 1) → digs f u = Lib.decDigits u
  | 0, u, h => by
    rw [Lib.decDigits, dif_pos (by simpa using h)]; rfl
  | f + 1, u, h => by
    rw [Lib.decDigits, digs]
    by_cases hu : u < 10
    · rw [if_pos hu, dif_pos hu]
    · rw [if_neg hu, dif_neg hu, digs_eq f (u / 10) (by rw [Nat.pow_succ] at h; omega)]
def itoaL (n : Int) : List UInt8 := if n < 0 then 45 :: digs 19 n.natAbs else digs 19 n.toNat
theorem itoaL_eq {n : Int} (hn : -9223372036854775808 ≤ n ∧ n ≤ 9223372036854775807) : itoaL n = Lib.itoa n := by
  unfold itoaL Lib.itoa
  rw [digs_eq 19 n.natAbs (by omega), digs_eq 19 n.toNat (by omega)]
def itoaB (n : Int) : ByteArray := ⟨(itoaL n).toArray⟩
def runeOf (xs : List UInt8) : Int := ((Lib.decodeGo ⟨xs.toArray⟩).1 : Nat)
def runeLen (xs : List UInt8) : Int := ((Lib.decodeGo ⟨xs.toArray⟩).2 : Nat)
def trimR (xs : List UInt8) : List UInt8 := Lib.trimRightS xs [32, 9, 13]
def idxByte (xs : List UInt8) (c : UInt8) : Int := Lib.indexByte xs c
section
variable {w0 : World}
theorem P_itoa (hG : Globs w0) {n : Int} (hn : -9223372036854775808 ≤ n ∧ n ≤ 9223372036854775807) : Fn w0 prog 36 [sI n] [] (fun s H => s = sS (itoaB n) ∧ H = []) :=
  Fn.lift fun φ hs vs w g hr => by
    obtain ⟨v, rfl, hv⟩ := hr.inv1
    obtain rfl := hv.val_eq
    refine ⟨_, (Any.strconv_Itoa Tryz.laysM171 n hn.1 hn.2 w (hG.powAt g)).mono ?_, .val _⟩
    rw [← itoaL_eq hn]
    rintro e w' ⟨rfl, k, os, rfl⟩
    exact ⟨rfl, below_grow k os w⟩
theorem Good.setCellB {w : World} {φ : Hp} {hs : List Hp} {b : Nat} {vs : Array Value} {ty : TypeId} (g : Good w0 φ (Hp.one b (.cells vs ty (0, 0)) :: hs) w) (v : Value) : Good w0 φ (Hp.one b (.cells (vs.setIfInBounds 0 v) ty (0, 0)) :: hs) (w.setCell ⟨b, 0, none⟩ v) := by
  have hw : w.heap[b]? = some (.cells vs ty (0, 0)) := g.agree _ (List.mem_cons_of_mem _ (List.mem_cons_self ..)) b _ one_get
  have hnew : ∀ k, (w.setCell ⟨b, 0, none⟩ v).heap[k]? = if k = b then some (.cells (vs.setIfInBounds 0 v) ty (0, 0)) else w.heap[k]? := by
    intro k
    simp only [World.setCell]
    rw [Array.getElem?_modify]
    by_cases hk : b = k
    · subst hk; simp [hw]
    · rw [if_neg hk, if_neg (fun e => hk e.symm)]
  refine g.set (fun k hk => ?_) rfl rfl rfl (by simp [World.setCell]) (fun k o ho => ?_) (fun k hk hn => ?_)
  · left
    unfold Hp.one at hk ⊢
    split at hk
    · rename_i e; simp [e]
    · exact absurd rfl hk
  · unfold Hp.one at ho
    split at ho
    · rename_i e; rw [hnew, if_pos e]; exact ho
    · cases ho
  · rw [hnew]
    split
    · rename_i e; subst e; simp [Hp.one] at hn
    · rfl
theorem P_check {b : Nat} {p : Option Addr} {s1 : SVal} (hp : p = none ∨ p = some ⟨b, 0, none⟩) : Fn w0 prog 54 [sP b 0] [boxA b 65 [.val (.pointer p), s1]] (fun s H => s = .tup [] ∧ H = [boxA b 65 [sP b 0, s1]]) := by
  intro X hX F vs w hh
  obtain ⟨φ, hs, g, hS, hr, hx⟩ := hh
  obtain ⟨v, rfl, hv⟩ := hr.inv1
  obtain rfl := hv.val_eq
  obtain ⟨q, hs0, rfl, ⟨cs, rfl, rc⟩, t⟩ := hS.cons_inv
  have hw : w.heap[b]? = some (.cells cs 65 (0, 0)) := g.agree _ (List.mem_cons_of_mem _ (List.mem_cons_self ..)) b _ one_get
  obtain ⟨c0, c1, rfl, h0, h1⟩ := rc.inv2
  obtain rfl := h0.val_eq
  have hc0 : w.cell? ⟨b, 0, none⟩ = some (.pointer p) := by simp [World.cell?, hw]
  have fin : ∀ (w' : World) (vs' : Array Value), vs' = #[.pointer (some ⟨b, 0, none⟩), c1] → Good w0 φ (Hp.one b (.cells vs' 65 (0, 0)) :: hs0) w' → Holds w0 ([boxA b 65 [sP b 0, s1]] ++ F) w' (fun φ => Rep φ (.tup []) (.tuple #[]) ∧ X φ) := fun w' vs' e g' => by
    subst e
    refine ⟨φ, _, g', .cons (A := boxA b 65 [sP b 0, s1]) ⟨_, rfl, ⟨rfl, fun i i1 i2 => ?_⟩⟩ t, .tup [] #[] rfl (fun i hi => by simp at hi), hx⟩
    match i, i1 with
    | 0, _ => exact .val _
    | 1, _ => exact h1
  rcases hp with rfl | rfl
  · refine (Any.Builder_copyCheck_fresh Tryz.lays240 Tryz.Builder_X72_240 b w hc0 (by simp [World.shape?, hw]; rfl) (by simp [World.frozen?, hw])).mono ?_
    rintro e w' ⟨rfl, rfl⟩
    exact ⟨_, _, _, rfl, ⟨rfl, rfl⟩, fin _ _ rfl (g.setCellB _)⟩
  · refine (Any.Builder_copyCheck_used Tryz.lays240 Tryz.Builder_X72_240 b w hc0).mono ?_
    rintro e w' ⟨rfl, rfl⟩
    exact ⟨_, _, _, rfl, ⟨rfl, rfl⟩, fin _ _ rfl g⟩
theorem P_indexS (w0 : World) (s : ByteArray) (c : UInt8) : Fn w0 prog 138 [sS s, .val (.int .u8 (c.toNat : Int))] [] (fun r H => r = sI (idxByte s.data.toList c) ∧ H = []) :=
  Fn.lift fun φ hs vs w g hr => by
    obtain ⟨v, u, rfl, hv, hu⟩ := hr.inv2
    obtain rfl := hv.val_eq
    obtain rfl := hu.val_eq
    refine ⟨_, (Any.strings_IndexByte Tryz.lays137 s c.toNat w).mono ?_, .val _⟩
    rintro e w' ⟨rfl, rfl⟩
    exact ⟨by simp [idxByte], Below.refl _ _⟩
theorem bytesOf_nat (xs : List UInt8) : Lib.bytesOf (xs.map fun c => (c.toNat : Int)) = xs := by
  unfold Lib.bytesOf
  rw [List.map_map]
  conv => rhs; rw [← List.map_id xs]
  congr 1
  funext c
  simp
theorem P_indexB (w0 : World) {xs : List UInt8} (h0 : 0 < xs.length) (c : UInt8) : Fn w0 prog 118 [.isl .u8 xs, .val (.int .u8 (c.toNat : Int))] [] (fun r H => r = sI (idxByte xs c) ∧ H = []) :=
  Fn.lift fun φ hs vs w g hr => by
    obtain ⟨v, u, rfl, hv, hu⟩ := hr.inv2
    obtain rfl := hu.val_eq
    obtain ⟨A, cap, rfl, h1, h2, h3⟩ := isl_u8 g hv
    obtain ⟨b, o, rfl, hc⟩ := h3 h0
    refine ⟨_, (Any.bytes_IndexByte_at Tryz.lays187 ⟨b, o, none⟩ xs.length cap (xs.map fun c => (c.toNat : Int)) c.toNat w (by simp) (fun i hi => ?_)).mono ?_, .val _⟩
    · rw [add_mk, hc i hi]
      simp [List.getD_eq_getElem?_getD, hi]
    · rintro e w' ⟨rfl, rfl⟩
      refine ⟨?_, Below.refl _ _⟩
      rw [bytesOf_nat]
      simp [idxByte]
theorem P_decode (hG : Globs w0) {xs : List UInt8} (h0 : 0 < xs.length) : Fn w0 prog 142 [.isl .u8 xs] [] (fun r H => r = .tup [.val (.int .i32 (runeOf xs)), sI (runeLen xs)] ∧ H = []) :=
  Fn.lift fun φ hs vs w g hr => by
    obtain ⟨v, rfl, hv⟩ := hr.inv1
    obtain ⟨A, cap, rfl, h1, h2, h3⟩ := isl_u8 g hv
    obtain ⟨b, o, rfl, hc⟩ := h3 h0
    have := Any7.utf8_DecodeRune Tryz.lays32 ⟨xs.toArray⟩ b o cap w (hG.utfAt g) (fun j hj => by
      have hj : j < xs.length := by simpa [ByteArray.size] using hj
      rw [hc j hj]
      simp [ByteArray.get!, hj])
    have hz : (⟨xs.toArray⟩ : ByteArray).size = xs.length := by simp [ByteArray.size]
    rw [hz] at this
    refine ⟨.tuple #[.int .i32 (runeOf xs), .int .i64 (runeLen xs)], this.mono ?_, .tup _ _ rfl ?_⟩
    · rintro e w' ⟨rfl, hb⟩
      exact ⟨rfl, hb⟩
    · intro i hi
      match i, hi with
      | 0, _ => exact .val _
      | 1, _ => exact .val _
theorem take_trim (p : UInt8 → Bool) (l : List UInt8) : ∃ n, n ≤ l.length ∧ (l.reverse.dropWhile p).reverse = l.take n := by
  have h := List.takeWhile_append_dropWhile (p := p) (l := l.reverse)
  generalize hd : l.reverse.dropWhile p = d at h ⊢
  generalize l.reverse.takeWhile p = t at h
  have h2 : l = d.reverse ++ t.reverse := by rw [← List.reverse_append, h, List.reverse_reverse]
  subst h2
  exact ⟨d.reverse.length, by simp, by rw [List.take_left']; rfl⟩
theorem trimR_take (xs : List UInt8) : ∃ n, n ≤ xs.length ∧ trimR xs = xs.take n := take_trim _ xs
theorem P_trim (w0 : World) (xs : List UInt8) : Fn w0 prog 119 [.isl .u8 xs, sS ⟨#[32, 9, 13]⟩] [] (fun r H => r = .isl .u8 (trimR xs) ∧ H = []) :=
  Fn.lift fun φ hs vs w g hr => by
    obtain ⟨v, u, rfl, hv, hu⟩ := hr.inv2
    obtain rfl := hu.val_eq
    have hv0 := hv
    obtain ⟨A, cap, rfl, h1, h2, h3⟩ := isl_u8 g hv
    have hz : (prog.info? (Tryz.lays7_ren.t 27)).map (fun i => (i.zero, i.size)) = some (some (.agg (Array.replicate 256 (.bool false))), 256) := by kernel_rfl
    have := Any.bytes_TrimRight_ascii Tryz.lays7 (zero_of_info hz).1 (zero_of_info hz).2 A xs.length cap xs ⟨#[32, 9, 13]⟩ w rfl h1 (by simpa [maxLen] using h2) (fun hn => by
      obtain ⟨b, o, rfl, hc⟩ := h3 hn
      refine ⟨b, o, rfl, fun i hi => ?_⟩
      rw [hc i hi]
      simp [List.getD_eq_getElem?_getD, hi]) (by decide) (fun j b h => by
      have := List.mem_of_getElem? h
      simp at this
      rcases this with rfl | rfl | rfl <;> decide)
    refine ⟨_, this, ?_⟩
    obtain ⟨n, hn, e⟩ := trimR_take xs
    have e2 : (Lib.trimRightS xs (⟨#[32, 9, 13]⟩ : ByteArray).data.toList).length = n := by
      show (trimR xs).length = n
      rw [e, List.length_take]; omega
    rw [e2, e]
    have hr2 := rep_sub (l := 0) (h := n) hv0 (Nat.zero_le _) hn (A' := A) (by
      split
      · rfl
      · cases A with
        | none => rfl
        | some a => simp [Addr.add])
    simpa using hr2
end
end Go.Proofs.YtabojfgmbfnoiaaGreatDoor
end
section
namespace Go.Proofs.YtabojfgmbfnoiaaGreatDoor
open Go.Proofs.Tryz
theorem fn_10 : callB prog 10 = true := by kernel_rfl
theorem fn_100 : callB prog 100 = true := by kernel_rfl
theorem fn_101 : callB prog 101 = true := by kernel_rfl
theorem fn_102 : callB prog 102 = true := by kernel_rfl
theorem fn_103 : callB prog 103 = true := by kernel_rfl
theorem fn_104 : callB prog 104 = true := by kernel_rfl
theorem fn_105 : callB prog 105 = true := by kernel_rfl
theorem fn_106 : callB prog 106 = true := by kernel_rfl
theorem fn_107 : callB prog 107 = true := by kernel_rfl
theorem fn_108 : callB prog 108 = true := by kernel_rfl
theorem fn_109 : callB prog 109 = true := by kernel_rfl
theorem fn_11 : callB prog 11 = true := by kernel_rfl
theorem fn_110 : callB prog 110 = true := by kernel_rfl
theorem fn_111 : callB prog 111 = true := by kernel_rfl
theorem fn_112 : callB prog 112 = true := by kernel_rfl
theorem fn_113 : callB prog 113 = true := by kernel_rfl
theorem fn_114 : callB prog 114 = true := by kernel_rfl
theorem fn_115 : callB prog 115 = true := by kernel_rfl
theorem fn_116 : callB prog 116 = true := by kernel_rfl
theorem fn_117 : callB prog 117 = true := by kernel_rfl
theorem fn_118 : callB prog 118 = true := by kernel_rfl
theorem fn_119 : callB prog 119 = true := by kernel_rfl
theorem fn_12 : callB prog 12 = true := by kernel_rfl
theorem fn_120 : callB prog 120 = true := by kernel_rfl
theorem fn_121 : callB prog 121 = true := by kernel_rfl
theorem fn_129 : callB prog 129 = true := by kernel_rfl
theorem fn_130 : callB prog 130 = true := by kernel_rfl
theorem fn_131 : callB prog 131 = true := by kernel_rfl
theorem fn_132 : callB prog 132 = true := by kernel_rfl
theorem fn_138 : callB prog 138 = true := by kernel_rfl
theorem fn_142 : callB prog 142 = true := by kernel_rfl
theorem fn_15 : callB prog 15 = true := by kernel_rfl
theorem fn_17 : callB prog 17 = true := by kernel_rfl
theorem fn_19 : callB prog 19 = true := by kernel_rfl
theorem fn_20 : callB prog 20 = true := by kernel_rfl
theorem fn_21 : callB prog 21 = true := by kernel_rfl
theorem fn_22 : callB prog 22 = true := by kernel_rfl
theorem fn_23 : callB prog 23 = true := by kernel_rfl
theorem fn_24 : callB prog 24 = true := by kernel_rfl
theorem fn_25 : callB prog 25 = true := by kernel_rfl
theorem fn_26 : callB prog 26 = true := by kernel_rfl
theorem fn_27 : callB prog 27 = true := by kernel_rfl
theorem fn_28 : callB prog 28 = true := by kernel_rfl
theorem fn_29 : callB prog 29 = true := by kernel_rfl
theorem fn_30 : callB prog 30 = true := by kernel_rfl
theorem fn_31 : callB prog 31 = true := by kernel_rfl
theorem fn_34 : callB prog 34 = true := by kernel_rfl
theorem fn_35 : callB prog 35 = true := by kernel_rfl
theorem fn_36 : callB prog 36 = true := by kernel_rfl
theorem fn_37 : callB prog 37 = true := by kernel_rfl
theorem fn_38 : callB prog 38 = true := by kernel_rfl
theorem fn_39 : callB prog 39 = true := by kernel_rfl
theorem fn_40 : callB prog 40 = true := by kernel_rfl
theorem fn_41 : callB prog 41 = true := by kernel_rfl
theorem fn_42 : callB prog 42 = true := by kernel_rfl
theorem fn_43 : callB prog 43 = true := by kernel_rfl
theorem fn_44 : callB prog 44 = true := by kernel_rfl
theorem fn_45 : callB prog 45 = true := by kernel_rfl
theorem fn_46 : callB prog 46 = true := by kernel_rfl
theorem fn_47 : callB prog 47 = true := by kernel_rfl
theorem fn_48 : callB prog 48 = true := by kernel_rfl
theorem fn_54 : callB prog 54 = true := by kernel_rfl
theorem fn_56 : callB prog 56 = true := by kernel_rfl
theorem fn_57 : callB prog 57 = true := by kernel_rfl
theorem fn_58 : callB prog 58 = true := by kernel_rfl
theorem fn_59 : callB prog 59 = true := by kernel_rfl
theorem fn_60 : callB prog 60 = true := by kernel_rfl
theorem fn_61 : callB prog 61 = true := by kernel_rfl
theorem fn_7 : callB prog 7 = true := by kernel_rfl
theorem fn_70 : callB prog 70 = true := by kernel_rfl
theorem fn_71 : callB prog 71 = true := by kernel_rfl
theorem fn_72 : callB prog 72 = true := by kernel_rfl
theorem fn_73 : callB prog 73 = true := by kernel_rfl
theorem fn_74 : callB prog 74 = true := by kernel_rfl
theorem fn_75 : callB prog 75 = true := by kernel_rfl
theorem fn_76 : callB prog 76 = true := by kernel_rfl
theorem fn_77 : callB prog 77 = true := by kernel_rfl
theorem fn_78 : callB prog 78 = true := by kernel_rfl
theorem fn_79 : callB prog 79 = true := by kernel_rfl
theorem fn_8 : callB prog 8 = true := by kernel_rfl
theorem fn_80 : callB prog 80 = true := by kernel_rfl
theorem fn_81 : callB prog 81 = true := by kernel_rfl
theorem fn_82 : callB prog 82 = true := by kernel_rfl
theorem fn_83 : callB prog 83 = true := by kernel_rfl
theorem fn_84 : callB prog 84 = true := by kernel_rfl
theorem fn_85 : callB prog 85 = true := by kernel_rfl
theorem fn_9 : callB prog 9 = true := by kernel_rfl
theorem fn_98 : callB prog 98 = true := by kernel_rfl
theorem fn_99 : callB prog 99 = true := by kernel_rfl
theorem ty1_115 : oneB prog 115 = true := by kernel_rfl
theorem ty1_138 : oneB prog 138 = true := by kernel_rfl
theorem ty1_22 : oneB prog 22 = true := by kernel_rfl
theorem ty1_26 : oneB prog 26 = true := by kernel_rfl
theorem ty1_28 : oneB prog 28 = true := by kernel_rfl
theorem ty1_29 : oneB prog 29 = true := by kernel_rfl
theorem ty1_3 : oneB prog 3 = true := by kernel_rfl
theorem ty1_4 : oneB prog 4 = true := by kernel_rfl
theorem ty1_49 : oneB prog 49 = true := by kernel_rfl
theorem ty1_5 : oneB prog 5 = true := by kernel_rfl
theorem ty1_63 : oneB prog 63 = true := by kernel_rfl
theorem ty1_67 : oneB prog 67 = true := by kernel_rfl
theorem ty1_84 : oneB prog 84 = true := by kernel_rfl
theorem ty1_9 : oneB prog 9 = true := by kernel_rfl
theorem tyA_118 : aggB prog 118 4 = true := by kernel_rfl
theorem tyA_24 : aggB prog 24 4 = true := by kernel_rfl
theorem tyA_31 : aggB prog 31 4 = true := by kernel_rfl
theorem tyA_39 : aggB prog 39 2 = true := by kernel_rfl
theorem tyA_50 : aggB prog 50 4 = true := by kernel_rfl
theorem tyA_81 : aggB prog 81 4 = true := by kernel_rfl
theorem tyE_115 : elemB prog 115 118 4 40 = true := by kernel_rfl
theorem tyE_135 : elemB prog 135 67 1 24 = true := by kernel_rfl
theorem tyE_138 : elemB prog 138 26 1 8 = true := by kernel_rfl
theorem tyE_22 : elemB prog 22 24 4 64 = true := by kernel_rfl
theorem tyE_25 : elemB prog 25 39 2 16 = true := by kernel_rfl
theorem tyE_28 : elemB prog 28 3 1 8 = true := by kernel_rfl
theorem tyE_29 : elemB prog 29 28 1 24 = true := by kernel_rfl
theorem tyE_58 : elemB prog 58 4 1 1 = true := by kernel_rfl
theorem tyE_63 : elemB prog 63 5 1 1 = true := by kernel_rfl
theorem tyE_67 : elemB prog 67 9 1 16 = true := by kernel_rfl
theorem tyE_85 : elemB prog 85 84 1 8 = true := by kernel_rfl
theorem tyF_118_0 : fldB prog 118 0 0 = true := by kernel_rfl
theorem tyF_118_1 : fldB prog 118 1 1 = true := by kernel_rfl
theorem tyF_118_2 : fldB prog 118 2 2 = true := by kernel_rfl
theorem tyF_118_3 : fldB prog 118 3 3 = true := by kernel_rfl
theorem tyF_24_0 : fldB prog 24 0 0 = true := by kernel_rfl
theorem tyF_24_1 : fldB prog 24 1 1 = true := by kernel_rfl
theorem tyF_24_2 : fldB prog 24 2 2 = true := by kernel_rfl
theorem tyF_24_3 : fldB prog 24 3 3 = true := by kernel_rfl
theorem tyF_31_0 : fldB prog 31 0 0 = true := by kernel_rfl
theorem tyF_31_1 : fldB prog 31 1 1 = true := by kernel_rfl
theorem tyF_31_2 : fldB prog 31 2 2 = true := by kernel_rfl
theorem tyF_31_3 : fldB prog 31 3 3 = true := by kernel_rfl
theorem tyF_50_0 : fldB prog 50 0 0 = true := by kernel_rfl
theorem tyF_50_1 : fldB prog 50 1 1 = true := by kernel_rfl
theorem tyF_50_2 : fldB prog 50 2 2 = true := by kernel_rfl
theorem tyF_50_3 : fldB prog 50 3 3 = true := by kernel_rfl
theorem tyF_53_0 : fldB prog 53 0 0 = true := by kernel_rfl
theorem tyF_53_1 : fldB prog 53 1 4 = true := by kernel_rfl
theorem tyF_53_2 : fldB prog 53 2 8 = true := by kernel_rfl
theorem tyF_53_3 : fldB prog 53 3 9 = true := by kernel_rfl
theorem tyF_53_4 : fldB prog 53 4 10 = true := by kernel_rfl
theorem tyF_53_5 : fldB prog 53 5 11 = true := by kernel_rfl
theorem tyF_65_1 : fldB prog 65 1 1 = true := by kernel_rfl
theorem tyF_81_2 : fldB prog 81 2 2 = true := by kernel_rfl
theorem tyF_81_3 : fldB prog 81 3 3 = true := by kernel_rfl
theorem tyK_81 : fldsB prog 81 [.int .i64, .string, .bool, .int .i64] = true := by kernel_rfl
theorem tyL_115 : slcB prog 115 4 = true := by kernel_rfl
theorem tyL_135 : slcB prog 135 1 = true := by kernel_rfl
theorem tyL_138 : slcB prog 138 1 = true := by kernel_rfl
theorem tyL_22 : slcB prog 22 4 = true := by kernel_rfl
theorem tyL_25 : slcB prog 25 2 = true := by kernel_rfl
theorem tyL_28 : slcB prog 28 1 = true := by kernel_rfl
theorem tyL_29 : slcB prog 29 1 = true := by kernel_rfl
theorem tyL_58 : slcB prog 58 1 = true := by kernel_rfl
theorem tyL_63 : slcB prog 63 1 = true := by kernel_rfl
theorem tyL_67 : slcB prog 67 1 = true := by kernel_rfl
theorem tyL_85 : slcB prog 85 1 = true := by kernel_rfl
theorem tyM_57 : prog.underlying 57 = some (.map 3 4) := by kernel_rfl
theorem tyM_61 : prog.underlying 61 = some (.map 9 3) := by kernel_rfl
theorem tyM_74 : prog.underlying 74 = some (.map 3 3) := by kernel_rfl
theorem tyM_78 : prog.underlying 78 = some (.map 81 3) := by kernel_rfl
theorem tyN_3 : (prog.info? 3).map (·.zero) = some (some ((fun n : Int => Value.int .i64 n) (0 : Int))) := by kernel_rfl
theorem tyN_4 : (prog.info? 4).map (·.zero) = some (some ((fun b : Bool => Value.bool b) false)) := by kernel_rfl
theorem tyP_118 : placesB prog 118 [(0, 1), (1, 1), (2, 1), (3, 1)] = true := by kernel_rfl
theorem tyP_24 : placesB prog 24 [(0, 1), (1, 1), (2, 1), (3, 1)] = true := by kernel_rfl
theorem tyP_31 : placesB prog 31 [(0, 1), (1, 1), (2, 1), (3, 1)] = true := by kernel_rfl
theorem tyP_39 : placesB prog 39 [(0, 1), (1, 1)] = true := by kernel_rfl
theorem tyP_53 : placesB prog 53 [(0, 4), (4, 4), (8, 1), (9, 1), (10, 1), (11, 1)] = true := by kernel_rfl
theorem tyP_81 : placesB prog 81 [(0, 1), (1, 1), (2, 1), (3, 1)] = true := by kernel_rfl
theorem tyQ_63 : prog.underlying 63 = some (.slice 5) := by kernel_rfl
theorem tyR_39 : arrB prog 39 2 1 = true := by kernel_rfl
theorem tyS_115 : ((prog.info? 115).map (·.size)) = some 1 := by kernel_rfl
theorem tyS_118 : ((prog.info? 118).map (·.size)) = some 4 := by kernel_rfl
theorem tyS_22 : ((prog.info? 22).map (·.size)) = some 1 := by kernel_rfl
theorem tyS_24 : ((prog.info? 24).map (·.size)) = some 4 := by kernel_rfl
theorem tyS_28 : ((prog.info? 28).map (·.size)) = some 1 := by kernel_rfl
theorem tyS_29 : ((prog.info? 29).map (·.size)) = some 1 := by kernel_rfl
theorem tyS_3 : ((prog.info? 3).map (·.size)) = some 1 := by kernel_rfl
theorem tyS_31 : ((prog.info? 31).map (·.size)) = some 4 := by kernel_rfl
theorem tyS_39 : ((prog.info? 39).map (·.size)) = some 2 := by kernel_rfl
theorem tyS_4 : ((prog.info? 4).map (·.size)) = some 1 := by kernel_rfl
theorem tyS_50 : ((prog.info? 50).map (·.size)) = some 4 := by kernel_rfl
theorem tyS_63 : ((prog.info? 63).map (·.size)) = some 1 := by kernel_rfl
theorem tyS_81 : ((prog.info? 81).map (·.size)) = some 4 := by kernel_rfl
theorem tyU_21 : prog.underlying 21 = some (.int .i32) := by kernel_rfl
theorem tyU_3 : prog.underlying 3 = some (.int .i64) := by kernel_rfl
theorem tyU_5 : prog.underlying 5 = some (.int .u8) := by kernel_rfl
theorem tyU_75 : prog.underlying 75 = some (.int .u64) := by kernel_rfl
theorem tyW_63 : u8B prog 63 5 = true := by kernel_rfl
theorem tyZ_115 : zeroIs prog 115 [.slice none 0 0] := .mk (z := .slice none 0 0) (by kernel_rfl) rfl
theorem tyZ_118 : zeroIs prog 118 [.int .i64 (0), .string ⟨#[]⟩, .int .i64 (0), .bool false] := .mk (z := .agg #[.int .i64 (0), .string ⟨#[]⟩, .int .i64 (0), .bool false]) (by kernel_rfl) rfl
theorem tyZ_24 : zeroIs prog 24 [.int .i64 (0), .string ⟨#[]⟩, .string ⟨#[]⟩, .slice none 0 0] := .mk (z := .agg #[.int .i64 (0), .string ⟨#[]⟩, .string ⟨#[]⟩, .slice none 0 0]) (by kernel_rfl) rfl
theorem tyZ_26 : zeroIs prog 26 [.nilFunc] := .mk (z := .nilFunc) (by kernel_rfl) rfl
theorem tyZ_28 : zeroIs prog 28 [.slice none 0 0] := .mk (z := .slice none 0 0) (by kernel_rfl) rfl
theorem tyZ_3 : zeroIs prog 3 [.int .i64 (0)] := .mk (z := .int .i64 (0)) (by kernel_rfl) rfl
theorem tyZ_31 : zeroIs prog 31 [.slice none 0 0, .slice none 0 0, .slice none 0 0, .slice none 0 0] := .mk (z := .agg #[.slice none 0 0, .slice none 0 0, .slice none 0 0, .slice none 0 0]) (by kernel_rfl) rfl
theorem tyZ_39 : zeroIs prog 39 [.int .i64 (0), .int .i64 (0)] := .mk (z := .agg #[.int .i64 (0), .int .i64 (0)]) (by kernel_rfl) rfl
theorem tyZ_4 : zeroIs prog 4 [.bool false] := .mk (z := .bool false) (by kernel_rfl) rfl
theorem tyZ_5 : zeroIs prog 5 [.int .u8 (0)] := .mk (z := .int .u8 (0)) (by kernel_rfl) rfl
theorem tyZ_50 : zeroIs prog 50 [.slice none 0 0, .slice none 0 0, .slice none 0 0, .slice none 0 0] := .mk (z := .agg #[.slice none 0 0, .slice none 0 0, .slice none 0 0, .slice none 0 0]) (by kernel_rfl) rfl
theorem tyZ_53 : zeroIs prog 53 [.slice none 0 0, .slice none 0 0, .slice none 0 0, .slice none 0 0, .slice none 0 0, .slice none 0 0, .slice none 0 0, .slice none 0 0, .slice none 0 0, .slice none 0 0, .slice none 0 0, .slice none 0 0] := .mk (z := .agg #[.slice none 0 0, .slice none 0 0, .slice none 0 0, .slice none 0 0, .slice none 0 0, .slice none 0 0, .slice none 0 0, .slice none 0 0, .slice none 0 0, .slice none 0 0, .slice none 0 0, .slice none 0 0]) (by kernel_rfl) rfl
theorem tyZ_65 : zeroIs prog 65 [.pointer none, .slice none 0 0] := .mk (z := .agg #[.pointer none, .slice none 0 0]) (by kernel_rfl) rfl
theorem tyZ_67 : zeroIs prog 67 [.slice none 0 0] := .mk (z := .slice none 0 0) (by kernel_rfl) rfl
theorem tyZ_81 : zeroIs prog 81 [.int .i64 (0), .string ⟨#[]⟩, .bool false, .int .i64 (0)] := .mk (z := .agg #[.int .i64 (0), .string ⟨#[]⟩, .bool false, .int .i64 (0)]) (by kernel_rfl) rfl
theorem tyZ_84 : zeroIs prog 84 [.nilFunc] := .mk (z := .nilFunc) (by kernel_rfl) rfl
theorem tyZ_9 : zeroIs prog 9 [.string ⟨#[]⟩] := .mk (z := .string ⟨#[]⟩) (by kernel_rfl) rfl
theorem tyb_4 : prog.underlying 4 = some .bool := by kernel_rfl
theorem tyc_5 : prog.cellsOf 5 = 1 := by kernel_rfl
theorem tyl_115 : (match prog.underlying 115 with | some (.slice _) => true | _ => false) = true := by kernel_rfl
theorem tyl_135 : (match prog.underlying 135 with | some (.slice _) => true | _ => false) = true := by kernel_rfl
theorem tyl_138 : (match prog.underlying 138 with | some (.slice _) => true | _ => false) = true := by kernel_rfl
theorem tyl_22 : (match prog.underlying 22 with | some (.slice _) => true | _ => false) = true := by kernel_rfl
theorem tyl_25 : (match prog.underlying 25 with | some (.slice _) => true | _ => false) = true := by kernel_rfl
theorem tyl_28 : (match prog.underlying 28 with | some (.slice _) => true | _ => false) = true := by kernel_rfl
theorem tyl_29 : (match prog.underlying 29 with | some (.slice _) => true | _ => false) = true := by kernel_rfl
theorem tyl_63 : (match prog.underlying 63 with | some (.slice _) => true | _ => false) = true := by kernel_rfl
theorem tyl_67 : (match prog.underlying 67 with | some (.slice _) => true | _ => false) = true := by kernel_rfl
theorem tyl_85 : (match prog.underlying 85 with | some (.slice _) => true | _ => false) = true := by kernel_rfl
theorem typ_39 : pairB prog 39 = true := by kernel_rfl
theorem typ_91 : prog.underlying 91 = some (.pointer 5) := by kernel_rfl
theorem tys_9 : prog.underlying 9 = some .string := by kernel_rfl
end Go.Proofs.YtabojfgmbfnoiaaGreatDoor
end
section
set_option linter.unusedVariables false
namespace Go.Proofs.YtabojfgmbfnoiaaGreatDoor
open Go.Proofs.Tryz
def F37 (fuel : Nat) (a3 : List UInt8) (a4 : ByteArray) : Option (Unit) :=
  if (a3).length + (a4).size ≤ 140737488355328 then (
  some ()) else none
set_option maxRecDepth 100000 in
theorem F37_ok {w0 : World} (hG : Globs w0) (fuel : Nat) : ∀ (a3 : List UInt8) (a4 : ByteArray) (b1 : Nat) (q2 : Hnd) (p : Option Addr) (hp : p = none ∨ p = some ⟨b1, 0, none⟩) {r : Unit} (hF0 : F37 fuel a3 a4 = some r), Fn w0 prog 37 [sP b1 0, sS a4] [boxA b1 65 [.val (.pointer p), .val (sl q2)], ownA (sl q2) 5 .u8 a3] (fun s H => ∃ k0 : Hnd, s = .tup [sI (a4.size : Int), .val .nilIface] ∧ H = [boxA b1 65 [sP b1 0, .val (sl k0)], ownA (sl k0) 5 .u8 (a3 ++ (a4).data.toList)]) := by
  intro a3 a4 b1 q2 p hp r hF0
  rw [F37] at hF0
  refine fn_intro2 19 [.tmp 4, .tmp 5] func37 rfl rfl rfl rfl fun X hX F => ?_
  refine C_turn (T_start [(0, sP b1 0), (1, sS a4)] rfl (boxA b1 65 [.val (.pointer p), .val (sl q2)] :: ownA (sl q2) 5 .u8 a3 :: F) rfl) ?_
  refine C_seq ?_
  refine C_region ?_
  refine (W rfl (O_assign rfl ?_))
  refine (W rfl (O_assign rfl ?_))
  refine W_nil ?_
  refine C_seq ?_
  refine C_region ?_
  refine (W rfl (O_move rfl ?_))
  refine (W rfl (O_call0 (F := ownA (sl q2) 5 .u8 a3 :: F) fn_54 rfl (P_check hp) (sel_perm [0] _) ?_))
  refine W_nil ?_
  refine C_seq ?_
  refine C_region ?_
  refine (W rfl (O_move rfl ?_))
  refine (W rfl (O_move rfl ?_))
  refine (W rfl (O_nilCheck rfl (ptr_val _) ?_))
  refine (W rfl (O_fieldAddr tyF_65_1 rfl ?_))
  refine (W rfl (O_load ty1_63 rfl rfl ?_))
  refine (W rfl (O_move rfl ?_))
  obtain ⟨h5, hF0⟩ := req_e hF0
  refine (W rfl (A_str (e := 5) tyW_63 tys_9 rfl rfl h5 fun q6 => ?_))
  refine (W rfl (O_nilCheck rfl (ptr_val _) ?_))
  refine (W rfl (O_fieldAddr tyF_65_1 rfl ?_))
  refine (Wn (S_one [sP b1 0, .val (sl q6)] tyS_63 rfl rfl rfl rfl rfl ?_))
  refine W_nil ?_
  refine C_seq ?_
  refine C_region ?_
  refine (W rfl (O_move rfl ?_))
  refine (W rfl (O_len_str tys_9 rfl ?_))
  refine (W rfl (O_assign rfl ?_))
  refine (W rfl (O_assign rfl ?_))
  refine W_nil ?_
  refine C_ret ?_
  have he := Option.some.inj hF0
  subst he
  repeat (first | refine thenQ_ret ?_ | refine blockQ_ret ?_ | refine scopeQ_ret ?_)
  exact ret_ok (T_le (E' := [(4, sI (a4.size : Int)), (5, .val .nilIface)]) (.mk [0, 0] 0 rfl ⟨rfl, rfl, trivial⟩)) [0, 0] 0 [sI (a4.size : Int), .val .nilIface] [boxA b1 65 [sP b1 0, .val (sl q6)], ownA (sl q6) 5 .u8 (a3 ++ (a4).data.toList)] (.tmp (t := 4) _ rfl (.tmp (t := 5) _ rfl .nil)) rfl ⟨q6, rfl, rfl⟩
theorem P_write {w0 : World} (hG : Globs w0) {b : Nat} {xs : List UInt8} {s : ByteArray} (h : xs.length + s.size ≤ 140737488355328) : Fn w0 prog 37 [sP b 0, sS s] [sbA b 65 5 xs] (fun r H => r = .tup [sI s.size, .val .nilIface] ∧ H = [sbA b 65 5 (xs ++ s.data.toList)]) :=
  Fn.sb fun p q hp => by
    have he : F37 0 xs s = some () := by simp [F37, h]
    exact F37_ok hG 0 xs s b q p hp he
def F38 (fuel : Nat) (a3 : List UInt8) : Option (Unit) :=
  some ()
set_option maxRecDepth 100000 in
theorem F38_ok {w0 : World} (hG : Globs w0) (fuel : Nat) : ∀ (a3 : List UInt8) (b1 : Nat) (q2 : Hnd) (p : Option Addr) {r : Unit} (hF0 : F38 fuel a3 = some r), Fn w0 prog 38 [sP b1 0] [boxA b1 65 [.val (.pointer p), .val (sl q2)], rowA (sl q2) 5 a3] (fun s H => s = sS (⟨(a3).toArray⟩ : ByteArray) ∧ H = [boxA b1 65 [.val (.pointer p), .val (sl q2)], rowA (sl q2) 5 a3]) := by
  intro a3 b1 q2 p r hF0
  rw [F38] at hF0
  refine fn_intro2 14 [.tmp 2] func38 rfl rfl rfl rfl fun X hX F => ?_
  refine C_turn (T_start [(0, sP b1 0)] rfl (boxA b1 65 [.val (.pointer p), .val (sl q2)] :: rowA (sl q2) 5 a3 :: F) rfl) ?_
  refine C_seq ?_
  refine C_region ?_
  refine (W rfl (O_assign rfl ?_))
  refine W_nil ?_
  refine C_seq ?_
  refine C_draw2 [(0, .free), (1, .free), (2, .free), (3, .pure), (4, .pure), (5, .free), (6, .free), (7, .free), (8, .pure), (9, .pure), (10, .main), (11, .free)] [false, false] [] (boxA b1 65 [.val (.pointer p), .val (sl q2)] :: rowA (sl q2) 5 a3 :: F) rfl rfl rfl (by kernel_rfl) rfl ?_
  refine D_free rfl rfl (fun G => O_move (lk rfl rfl) ⟨rfl, rfl⟩) ?_
  refine D_free rfl rfl (fun G => O_nilCheck (lk rfl rfl) (ptr_val _) ⟨rfl, rfl⟩) ?_
  refine D_free rfl rfl (fun G => O_fieldAddr tyF_65_1 (lk rfl rfl) ⟨rfl, rfl⟩) ?_
  refine D_pure rfl rfl (fun G => O_load ty1_63 (lk rfl rfl) rfl ⟨rfl, rfl⟩) ?_
  refine D_pure rfl rfl (fun G => O_sliceData (lk rfl rfl) ⟨rfl, rfl⟩) ?_
  refine D_free rfl rfl (fun G => O_move (lk rfl rfl) ⟨rfl, rfl⟩) ?_
  refine D_free rfl rfl (fun G => O_nilCheck (lk rfl rfl) (ptr_val _) ⟨rfl, rfl⟩) ?_
  refine D_free rfl rfl (fun G => O_fieldAddr tyF_65_1 (lk rfl rfl) ⟨rfl, rfl⟩) ?_
  refine D_pure rfl rfl (fun G => O_load ty1_63 (lk rfl rfl) rfl ⟨rfl, rfl⟩) ?_
  refine D_pure rfl rfl (fun G => O_len_row tyl_63 (lk rfl rfl) ⟨rfl, rfl⟩) ?_
  refine D_main rfl (D_mainX rfl fun G => O_unsafeString (q := q2) typ_91 tyc_5 (lk rfl rfl) (lk rfl rfl) ⟨[], rfl, ?_⟩)
  refine D_free rfl rfl (fun G => O_assign (lk rfl rfl) ⟨rfl, rfl⟩) ?_
  refine D_nil ?_
  refine C_ret ?_
  have he := Option.some.inj hF0
  subst he
  repeat (first | refine thenQ_ret ?_ | refine blockQ_ret ?_ | refine scopeQ_ret ?_)
  exact ret_ok (T_le (E' := [(2, sS (⟨(a3).toArray⟩ : ByteArray))]) (.mk [0, 0] 0 rfl ⟨rfl, trivial⟩)) [0, 0] 0 [sS (⟨(a3).toArray⟩ : ByteArray)] [boxA b1 65 [.val (.pointer p), .val (sl q2)], rowA (sl q2) 5 a3] (.tmp (t := 2) _ rfl .nil) rfl ⟨rfl, rfl⟩
theorem P_string {w0 : World} (hG : Globs w0) {b : Nat} {xs : List UInt8} : Fn w0 prog 38 [sP b 0] [sbR b 65 5 xs] (fun s H => s = sS ⟨xs.toArray⟩ ∧ H = [sbR b 65 5 xs]) :=
  Fn.sbr fun p q => F38_ok hG 0 xs b q p rfl
end Go.Proofs.YtabojfgmbfnoiaaGreatDoor
end
section
/- The types that are met, as instances. GENERATED (gen/inst.py). -/
namespace Go.Proofs.YtabojfgmbfnoiaaGreatDoor
open Go.Proofs.Tryz
class OneC (P : Program) (t : TypeId) : Prop where
  h : oneB P t = true
class FldC (P : Program) (t : TypeId) (f : Nat) (d : outParam Nat) : Prop where
  h : fldB P t f d = true
class AggC (P : Program) (t : TypeId) (n : outParam Nat) : Prop where
  h : aggB P t n = true
class LenC (P : Program) (t : TypeId) : Prop where
  h : (match P.underlying t with | some (.slice _) => true | _ => false) = true
instance : OneC prog 115 := ⟨ty1_115⟩
instance : OneC prog 138 := ⟨ty1_138⟩
instance : OneC prog 22 := ⟨ty1_22⟩
instance : OneC prog 26 := ⟨ty1_26⟩
instance : OneC prog 28 := ⟨ty1_28⟩
instance : OneC prog 29 := ⟨ty1_29⟩
instance : OneC prog 3 := ⟨ty1_3⟩
instance : OneC prog 4 := ⟨ty1_4⟩
instance : OneC prog 49 := ⟨ty1_49⟩
instance : OneC prog 5 := ⟨ty1_5⟩
instance : OneC prog 63 := ⟨ty1_63⟩
instance : OneC prog 67 := ⟨ty1_67⟩
instance : OneC prog 84 := ⟨ty1_84⟩
instance : OneC prog 9 := ⟨ty1_9⟩
instance : FldC prog 118 0 0 := ⟨tyF_118_0⟩
instance : FldC prog 118 1 1 := ⟨tyF_118_1⟩
instance : FldC prog 118 2 2 := ⟨tyF_118_2⟩
instance : FldC prog 118 3 3 := ⟨tyF_118_3⟩
instance : FldC prog 24 0 0 := ⟨tyF_24_0⟩
instance : FldC prog 24 1 1 := ⟨tyF_24_1⟩
instance : FldC prog 24 2 2 := ⟨tyF_24_2⟩
instance : FldC prog 24 3 3 := ⟨tyF_24_3⟩
instance : FldC prog 31 0 0 := ⟨tyF_31_0⟩
instance : FldC prog 31 1 1 := ⟨tyF_31_1⟩
instance : FldC prog 31 2 2 := ⟨tyF_31_2⟩
instance : FldC prog 31 3 3 := ⟨tyF_31_3⟩
instance : FldC prog 50 0 0 := ⟨tyF_50_0⟩
instance : FldC prog 50 1 1 := ⟨tyF_50_1⟩
instance : FldC prog 50 2 2 := ⟨tyF_50_2⟩
instance : FldC prog 50 3 3 := ⟨tyF_50_3⟩
instance : FldC prog 53 0 0 := ⟨tyF_53_0⟩
instance : FldC prog 53 1 4 := ⟨tyF_53_1⟩
instance : FldC prog 53 2 8 := ⟨tyF_53_2⟩
instance : FldC prog 53 3 9 := ⟨tyF_53_3⟩
instance : FldC prog 53 4 10 := ⟨tyF_53_4⟩
instance : FldC prog 53 5 11 := ⟨tyF_53_5⟩
instance : FldC prog 65 1 1 := ⟨tyF_65_1⟩
instance : FldC prog 81 2 2 := ⟨tyF_81_2⟩
instance : FldC prog 81 3 3 := ⟨tyF_81_3⟩
instance : AggC prog 118 4 := ⟨tyA_118⟩
instance : AggC prog 24 4 := ⟨tyA_24⟩
instance : AggC prog 31 4 := ⟨tyA_31⟩
instance : AggC prog 39 2 := ⟨tyA_39⟩
instance : AggC prog 50 4 := ⟨tyA_50⟩
instance : AggC prog 81 4 := ⟨tyA_81⟩
instance : LenC prog 115 := ⟨by kernel_rfl⟩
instance : LenC prog 135 := ⟨by kernel_rfl⟩
instance : LenC prog 138 := ⟨by kernel_rfl⟩
instance : LenC prog 22 := ⟨by kernel_rfl⟩
instance : LenC prog 25 := ⟨by kernel_rfl⟩
instance : LenC prog 28 := ⟨by kernel_rfl⟩
instance : LenC prog 29 := ⟨by kernel_rfl⟩
instance : LenC prog 63 := ⟨by kernel_rfl⟩
instance : LenC prog 67 := ⟨by kernel_rfl⟩
instance : LenC prog 85 := ⟨by kernel_rfl⟩
end Go.Proofs.YtabojfgmbfnoiaaGreatDoor
end
section
/- Steps that need nothing said. -/
set_option linter.unusedVariables false
namespace Go.Proofs.YtabojfgmbfnoiaaGreatDoor
open Go.Proofs.Tryz
section
variable {Γ : Cx} {ops : Array Oper} {rest : List Oper} {E : Env} {M : List HA} {Q : Env → List HA → Prop} {d : Tmp} {ty : TypeId} {pos : String} {af : Array Edge} {s : SVal} {x y c : Operand}
theorem thenQ_n {R : Env → List HA → Prop} {Q : Post} (h : R E M) : thenQ R Q .normal E M := h
theorem blockQ_n {id : Nat} {Q : Post} (h : Q .normal E M) : blockQ id Q .normal E M := h
theorem W_mv (hn : Nat.blt d Γ.n = true) (hx : look E x = some s) (k : WPL Γ ops rest ((d, s) :: E) M Q) : WPL Γ ops (⟨some d, .move x, ty, pos, af, none⟩ :: rest) E M Q := W hn (O_move hx k)
theorem W_as (hn : Nat.blt d Γ.n = true) (hx : look E x = some s) (k : WPL Γ ops rest ((d, s) :: E) M Q) : WPL Γ ops (⟨some d, .assign x, ty, pos, af, none⟩ :: rest) E M Q := W hn (O_assign hx k)
theorem W_nc (hn : Nat.blt d Γ.n = true) (hx : look E x = some s) (hs : ∀ φ v, Rep φ s v → ∃ a, v = .pointer (some a)) (k : WPL Γ ops rest ((d, s) :: E) M Q) : WPL Γ ops (⟨some d, .nilCheck x, ty, pos, af, none⟩ :: rest) E M Q := W hn (O_nilCheck hx hs k)
theorem W_ld {t T : TypeId} {b off : Nat} {cs : List SVal} (hn : Nat.blt d Γ.n = true) (hx : look E x = some (sP b off)) (ht : OneC Γ.P t) (i : BoxAt b M T cs) (hs : cs[off]? = some s) (k : WPL Γ ops rest ((d, s) :: E) M Q) : WPL Γ ops (⟨some d, .load t x, ty, pos, af, none⟩ :: rest) E M Q := W hn (O_load ht.h hx hs k)
theorem W_la {t T : TypeId} {b n : Nat} {cs : List SVal} (hn : Nat.blt d Γ.n = true) (hx : look E x = some (sP b 0)) (ht : AggC Γ.P t n) (i : BoxAt b M T cs) (hs : cs.length = n) (k : WPL Γ ops rest ((d, .agg cs) :: E) M Q) : WPL Γ ops (⟨some d, .load t x, ty, pos, af, none⟩ :: rest) E M Q := W hn (O_load_all ht.h hx hs k)
theorem W_li {t : TypeId} {k : EK} {z : k.T} {off : Nat} (hn : Nat.blt d Γ.n = true) (hx : look E x = some (.ipt k z off)) (ht : OneC Γ.P t) (hs : (k.view z)[off]? = some s) (kk : WPL Γ ops rest ((d, s) :: E) M Q) : WPL Γ ops (⟨some d, .load t x, ty, pos, af, none⟩ :: rest) E M Q := W hn (O_load_ipt ht.h hx hs kk)
theorem W_fa {t : TypeId} {b off f e : Nat} (hn : Nat.blt d Γ.n = true) (hx : look E x = some (sP b off)) (ht : FldC Γ.P t f e) (k : WPL Γ ops rest ((d, sP b (off + e)) :: E) M Q) : WPL Γ ops (⟨some d, .fieldAddr t x f, ty, pos, af, none⟩ :: rest) E M Q := W hn (O_fieldAddr ht.h hx k)
theorem W_fi {t : TypeId} {k : EK} {z : k.T} {off f e : Nat} (hn : Nat.blt d Γ.n = true) (hx : look E x = some (.ipt k z off)) (ht : FldC Γ.P t f e) (kk : WPL Γ ops rest ((d, .ipt k z (off + e)) :: E) M Q) : WPL Γ ops (⟨some d, .fieldAddr t x f, ty, pos, af, none⟩ :: rest) E M Q := W hn (O_fieldAddr_ipt ht.h hx kk)
theorem W_ln {t : TypeId} {k : EK} {xs : List k.T} (hn : Nat.blt d Γ.n = true) (hx : look E x = some (.isl k xs)) (ht : LenC Γ.P t) (kk : WPL Γ ops rest ((d, sI xs.length) :: E) M Q) : WPL Γ ops (⟨some d, .call ⟨.builtin .len, #[x], #[t]⟩, ty, pos, af, none⟩ :: rest) E M Q := W hn (O_len_isl ht.h hx kk)
theorem W_cm {op : BinOp} {t t2 : TypeId} {k : IntKind} {m n : Int} {f : Int → Int → Bool} (hn : Nat.blt d Γ.n = true) (hf : cmpI op = some f) (hx : look E x = some (.val (.int k m))) (hy : look E y = some (.val (.int k n))) (kk : WPL Γ ops rest ((d, sB (f m n)) :: E) M Q) : WPL Γ ops (⟨some d, .binOp op t x y t2, ty, pos, af, none⟩ :: rest) E M Q := W hn (O_cmp hx hy hf kk)
theorem W_ex {i : Nat} {vs : List SVal} (hn : Nat.blt d Γ.n = true) (hx : look E x = some (.tup vs)) (hs : vs[i]? = some s) (k : WPL Γ ops rest ((d, s) :: E) M Q) : WPL Γ ops (⟨some d, .extract x i, ty, pos, af, none⟩ :: rest) E M Q := W hn (O_extract hx hs k)
theorem W_no {t : TypeId} {b : Bool} (hn : Nat.blt d Γ.n = true) (hx : look E x = some (sB b)) (k : WPL Γ ops rest ((d, sB (!b)) :: E) M Q) : WPL Γ ops (⟨some d, .unOp .not t x, ty, pos, af, none⟩ :: rest) E M Q := W hn (O_not hx k)
theorem W_pt (hn : Nat.blt d Γ.n = true) {b : Bool} (hc : look E c = some (sB b)) (hb : b = true) (hx : look E x = some s) (k : WPL Γ ops rest ((d, s) :: E) M Q) : WPL Γ ops (⟨some d, .pick c x y, ty, pos, af, none⟩ :: rest) E M Q := W hn (O_pick hc (fun _ => hx) (fun h => (no_tf hb h).elim) k)
theorem W_pf (hn : Nat.blt d Γ.n = true) {b : Bool} (hc : look E c = some (sB b)) (hb : b = false) (hy : look E y = some s) (k : WPL Γ ops rest ((d, s) :: E) M Q) : WPL Γ ops (⟨some d, .pick c x y, ty, pos, af, none⟩ :: rest) E M Q := W hn (O_pick hc (fun h => (no_tf h hb).elim) (fun _ => hy) k)
theorem W_fn {op : Op} {j : Nat} {b : Bool} {oj : Oper} {dj : Tmp} (hj : ops[j]? = some oj) (hdj : oj.dst = some dj) (hb : E.get dj = some (sB b)) (hbw : b = false) (hn : Nat.blt d Γ.n = true) (hjn : Nat.blt dj Γ.n = true) (h : WPL Γ ops rest ((d, .val undef) :: E) M Q) : WPL Γ ops (⟨some d, op, ty, pos, af, some (j, true)⟩ :: rest) E M Q := Wf hj hdj hb (ne_f hbw) hn hjn h
theorem W_tn {op : Op} {j : Nat} {b : Bool} {oj : Oper} {dj : Tmp} (hj : ops[j]? = some oj) (hdj : oj.dst = some dj) (hb : E.get dj = some (sB b)) (hbw : b = true) (hn : Nat.blt d Γ.n = true) (hjn : Nat.blt dj Γ.n = true) (h : WPL Γ ops rest ((d, .val undef) :: E) M Q) : WPL Γ ops (⟨some d, op, ty, pos, af, some (j, false)⟩ :: rest) E M Q := Wf hj hdj hb (ne_t hbw) hn hjn h
theorem W_u {op : Op} {j : Nat} {w : Bool} {oj : Oper} {dj : Tmp} (hj : ops[j]? = some oj) (hdj : oj.dst = some dj) (hb : E.get dj = some (.val undef)) (hn : Nat.blt d Γ.n = true) (hjn : Nat.blt dj Γ.n = true) (h : WPL Γ ops rest ((d, .val undef) :: E) M Q) : WPL Γ ops (⟨some d, op, ty, pos, af, some (j, w)⟩ :: rest) E M Q := W_un rfl hj hdj hb (fun d e => lt_of_blt (by injection e with e; subst e; exact hn)) hjn h
end
section
variable {Γ : Cx} {E E' : Env} {M M' : List HA} {Q : Post}
theorem so {α : Type} {a b : α} (h : some a = some b) : a = b := Option.some.inj h
theorem C_cd {β : Type} {u v : Option β} {r : β} {c : Operand} {x y : Code} {b : Bool} (hc : look E c = some (sB b)) (hF : (bif b then u else v) = some r) (ht : u = some r → WP Γ x E M Q) (hf : v = some r → WP Γ y E M Q) : WP Γ (.cond c x y) E M Q := C_cond hc (fun h => ht (brn_t hF h)) (fun h => hf (brn_f hF h))
theorem bc {β : Type} {u v : Option β} {r : β} {b : Bool} (hF : (bif b then u else v) = some r) : (b = true ∧ u = some r) ∨ (b = false ∧ v = some r) := by
  cases b
  · exact .inr ⟨rfl, hF⟩
  · exact .inl ⟨rfl, hF⟩
theorem Env.le_map {E : Env} : ∀ {E' : Env}, E'.map (fun p => E.get p.1) = E'.map (fun p => some p.2) → Env.le E E'
  | [], _ => trivial
  | p :: l, h => by
    rw [List.map_cons, List.map_cons] at h
    exact ⟨(List.cons.inj h).1, Env.le_map (List.cons.inj h).2⟩
theorem tl (is : List Nat) (d : Nat) (hh : selx is d M = M') (he : E'.map (fun p => E.get p.1) = E'.map (fun p => some p.2)) : Turn Γ E M E' M' := T_le (.mk is d hh (Env.le_map he))
theorem jm {ι : Type} {v r : ι} {SE : ι → Env} {SM : ι → List HA} (h : some v = some r) (l : Turn Γ E M (SE v) (SM v)) : ∃ i, r = i ∧ Turn Γ E M (SE i) (SM i) := ⟨v, (so h).symm, l⟩
theorem rt {t : Tmp} {s : SVal} {R : SVal → List HA → Prop} {F H' : List HA} (is : List Nat) (d : Nat) (h3 : R s H') (h1 : E.get t = some s) (h2 : selx is d M = H' ++ F) : RetQ2 Γ [.tmp t] R F .ret E M := ret_ok Turn.refl is d [s] H' (.tmp _ h1 .nil) h2 h3
theorem rn {R : SVal → List HA → Prop} {F H' : List HA} (is : List Nat) (d : Nat) (h3 : R (.tup []) H') (h2 : selx is d M = H' ++ F) : RetQ2 Γ [] R F .ret E M := ret_ok Turn.refl is d [] H' .nil h2 h3
theorem rn' {R : SVal → List HA → Prop} {F H' : List HA} (is : List Nat) (d : Nat) (h3 : R (.tup []) H') (h2 : selx is d M = H' ++ F) : RetQ2 Γ [] R F .normal E M := ret_ok' Turn.refl is d [] H' .nil h2 h3
end
structure Kp (q : Prop) : Prop where
  out : q
/-- As far as it goes by itself. -/
theorem go {p q : Prop} (k : q) (h : Kp q → p := by
    intro k
    repeat (first
      | ((with_reducible apply W_mv); exact rfl; exact rfl)
      | ((with_reducible apply W_as); exact rfl; exact rfl)
      | with_reducible apply W_nil
      | with_reducible apply thenQ_n
      | with_reducible apply C_region
      | with_reducible apply blockQ_n
      | with_reducible apply scopeQ_no
      | with_reducible apply C_skip
      | with_reducible apply C_block
      | with_reducible apply C_exit
      | with_reducible apply C_ret
      | with_reducible apply thenQ_ex
      | with_reducible apply thenQ_ret
      | with_reducible apply blockQ_ret
      | with_reducible apply scopeQ_ret
      | with_reducible apply scopeQ_ex
      | with_reducible apply blockQ_ex
      | ((with_reducible apply blockQ_nx); exact rfl)
      | ((with_reducible apply W_cm); exact rfl; exact rfl; exact rfl; exact rfl)
      | ((with_reducible apply W_ld); exact rfl; exact rfl; exact inferInstance; exact inferInstance; exact rfl)
      | ((with_reducible apply W_fa); exact rfl; exact rfl; exact inferInstance)
      | ((with_reducible apply W_nc); exact rfl; exact rfl; exact ptr_val _)
      | ((with_reducible apply W_ln); exact rfl; exact rfl; exact inferInstance)
      | ((with_reducible apply W_li); exact rfl; exact rfl; exact inferInstance; exact rfl)
      | ((with_reducible apply W_fi); exact rfl; exact rfl; exact inferInstance)
      | ((with_reducible apply W_ex); exact rfl; exact rfl; exact rfl)
      | ((with_reducible apply W_no); exact rfl; exact rfl)
      | ((with_reducible apply W_pt); exact rfl; exact rfl; (first | (with_reducible exact rfl) | with_reducible assumption); exact rfl)
      | ((with_reducible apply W_pf); exact rfl; exact rfl; (first | (with_reducible exact rfl) | with_reducible assumption); exact rfl)
      | ((with_reducible apply W_fn); exact rfl; exact rfl; exact rfl; (first | (with_reducible exact rfl) | with_reducible assumption); exact rfl; exact rfl)
      | ((with_reducible apply W_tn); exact rfl; exact rfl; exact rfl; (first | (with_reducible exact rfl) | with_reducible assumption); exact rfl; exact rfl)
      | ((with_reducible apply W_u); exact rfl; exact rfl; exact rfl; exact rfl; exact rfl)
      | ((with_reducible apply W_la); exact rfl; exact rfl; exact inferInstance; exact inferInstance; exact rfl))
    exact k.out) : p := h ⟨k⟩
theorem gs {Γ : Cx} {x y : Code} {E : Env} {M : List HA} {Q : Post} {q : Prop} (k : q) (h : Kp q → WP Γ x E M (thenQ (fun E' M' => WP Γ y E' M' Q) Q) := by
    intro k
    repeat (first
      | ((with_reducible apply W_mv); exact rfl; exact rfl)
      | ((with_reducible apply W_as); exact rfl; exact rfl)
      | with_reducible apply W_nil
      | with_reducible apply thenQ_n
      | with_reducible apply C_region
      | with_reducible apply blockQ_n
      | with_reducible apply scopeQ_no
      | with_reducible apply C_skip
      | with_reducible apply C_block
      | with_reducible apply C_exit
      | with_reducible apply C_ret
      | with_reducible apply thenQ_ex
      | with_reducible apply thenQ_ret
      | with_reducible apply blockQ_ret
      | with_reducible apply scopeQ_ret
      | with_reducible apply scopeQ_ex
      | with_reducible apply blockQ_ex
      | ((with_reducible apply blockQ_nx); exact rfl)
      | ((with_reducible apply W_cm); exact rfl; exact rfl; exact rfl; exact rfl)
      | ((with_reducible apply W_ld); exact rfl; exact rfl; exact inferInstance; exact inferInstance; exact rfl)
      | ((with_reducible apply W_fa); exact rfl; exact rfl; exact inferInstance)
      | ((with_reducible apply W_nc); exact rfl; exact rfl; exact ptr_val _)
      | ((with_reducible apply W_ln); exact rfl; exact rfl; exact inferInstance)
      | ((with_reducible apply W_li); exact rfl; exact rfl; exact inferInstance; exact rfl)
      | ((with_reducible apply W_fi); exact rfl; exact rfl; exact inferInstance)
      | ((with_reducible apply W_ex); exact rfl; exact rfl; exact rfl)
      | ((with_reducible apply W_no); exact rfl; exact rfl)
      | ((with_reducible apply W_pt); exact rfl; exact rfl; (first | (with_reducible exact rfl) | with_reducible assumption); exact rfl)
      | ((with_reducible apply W_pf); exact rfl; exact rfl; (first | (with_reducible exact rfl) | with_reducible assumption); exact rfl)
      | ((with_reducible apply W_fn); exact rfl; exact rfl; exact rfl; (first | (with_reducible exact rfl) | with_reducible assumption); exact rfl; exact rfl)
      | ((with_reducible apply W_tn); exact rfl; exact rfl; exact rfl; (first | (with_reducible exact rfl) | with_reducible assumption); exact rfl; exact rfl)
      | ((with_reducible apply W_u); exact rfl; exact rfl; exact rfl; exact rfl; exact rfl)
      | ((with_reducible apply W_la); exact rfl; exact rfl; exact inferInstance; exact inferInstance; exact rfl))
    exact k.out) : WP Γ (.seq x y) E M Q := C_seq (h ⟨k⟩)
section
variable {w0 : World} {P : Program} {E : Env} {M : List HA} {K : SVal → List HA → Prop} {dst : Option Tmp} {ty : TypeId} {pos : String} {af : Array Edge} {gd : Option (Nat × Bool)} {s : SVal} {x y c : Operand}
theorem O_ld {t T : TypeId} {b off : Nat} {cs : List SVal} (hx : look E x = some (sP b off)) (ht : OneC P t) (i : BoxAt b M T cs) (hs : cs[off]? = some s) (h : K s M) : OpS w0 P ⟨dst, .load t x, ty, pos, af, gd⟩ E M K := O_load ht.h hx hs h
theorem O_la {t T : TypeId} {b n : Nat} {cs : List SVal} (hx : look E x = some (sP b 0)) (ht : AggC P t n) (i : BoxAt b M T cs) (hs : cs.length = n) (h : K (.agg cs) M) : OpS w0 P ⟨dst, .load t x, ty, pos, af, gd⟩ E M K := O_load_all ht.h hx hs h
theorem O_li {t : TypeId} {k : EK} {z : k.T} {off : Nat} (hx : look E x = some (.ipt k z off)) (ht : OneC P t) (hs : (k.view z)[off]? = some s) (h : K s M) : OpS w0 P ⟨dst, .load t x, ty, pos, af, gd⟩ E M K := O_load_ipt ht.h hx hs h
theorem O_fa {t : TypeId} {b off f e : Nat} (hx : look E x = some (sP b off)) (ht : FldC P t f e) (h : K (sP b (off + e)) M) : OpS w0 P ⟨dst, .fieldAddr t x f, ty, pos, af, gd⟩ E M K := O_fieldAddr ht.h hx h
theorem O_fi {t : TypeId} {k : EK} {z : k.T} {off f e : Nat} (hx : look E x = some (.ipt k z off)) (ht : FldC P t f e) (h : K (.ipt k z (off + e)) M) : OpS w0 P ⟨dst, .fieldAddr t x f, ty, pos, af, gd⟩ E M K := O_fieldAddr_ipt ht.h hx h
theorem O_ln {t : TypeId} {k : EK} {xs : List k.T} (hx : look E x = some (.isl k xs)) (ht : LenC P t) (h : K (sI xs.length) M) : OpS w0 P ⟨dst, .call ⟨.builtin .len, #[x], #[t]⟩, ty, pos, af, gd⟩ E M K := O_len_isl ht.h hx h
theorem O_pt {b : Bool} (hc : look E c = some (sB b)) (hb : b = true) (hx : look E x = some s) (h : K s M) : OpS w0 P ⟨dst, .pick c x y, ty, pos, af, gd⟩ E M K := O_pick hc (fun _ => hx) (fun h => (no_tf hb h).elim) h
theorem O_pf {b : Bool} (hc : look E c = some (sB b)) (hb : b = false) (hy : look E y = some s) (h : K s M) : OpS w0 P ⟨dst, .pick c x y, ty, pos, af, gd⟩ E M K := O_pick hc (fun h => (no_tf h hb).elim) (fun _ => hy) h
theorem O_cm {op : BinOp} {t t2 : TypeId} {k : IntKind} {m n : Int} {f : Int → Int → Bool} (hf : cmpI op = some f) (hx : look E x = some (.val (.int k m))) (hy : look E y = some (.val (.int k n))) (h : K (sB (f m n)) M) : OpS w0 P ⟨dst, .binOp op t x y t2, ty, pos, af, gd⟩ E M K := O_cmp hx hy hf h
end
/-- A guard that says no. -/
def GNo (v want : Bool) : Prop := v = !want
theorem GNo.f {v : Bool} (h : v = false) : GNo v true := h
theorem GNo.t {v : Bool} (h : v = true) : GNo v false := h
section
variable {w0 : World} {P : Program} {ops : Array Oper} {Q : Env → List HA → Prop} {ro : List HA} {rem : List (Nat × DK)} {PA : List PF} {E : Env} {C : List HA} {j g : Nat} {dst : Option Tmp} {op : Op} {ty : TypeId} {pos : String} {af : Array Edge} {want v : Bool} {dj : Tmp} {s : SVal}
theorem Df (ho : ops[j]? = some ⟨dst, op, ty, pos, af, none⟩) (h : ∀ F, OpS w0 P ⟨dst, op, ty, pos, af, none⟩ (restr ops ⟨dst, op, ty, pos, af, none⟩ E) F (fun s' M' => s' = s ∧ M' = F)) (k : DP w0 P ops Q ro rem PA (E.put dst s) C) : DP w0 P ops Q ro ((j, .free) :: rem) PA E C := D_free ho rfl h k
theorem Dp (ho : ops[j]? = some ⟨dst, op, ty, pos, af, none⟩) (h : ∀ F, OpS w0 P ⟨dst, op, ty, pos, af, none⟩ (restr ops ⟨dst, op, ty, pos, af, none⟩ E) (ro ++ F) (fun s' M' => s' = s ∧ M' = ro ++ F)) (k : DP w0 P ops Q ro rem PA (E.put dst s) C) : DP w0 P ops Q ro ((j, .pure) :: rem) PA E C := D_pure ho rfl h k
theorem DfT (ho : ops[j]? = some ⟨dst, op, ty, pos, af, some (g, want)⟩) (hdj : dstOf ops g = some dj) (hv : (restr ops ⟨dst, op, ty, pos, af, some (g, want)⟩ E).get dj = some (sB v)) (hw : v = want) (h : ∀ F, OpS w0 P ⟨dst, op, ty, pos, af, some (g, want)⟩ (restr ops ⟨dst, op, ty, pos, af, some (g, want)⟩ E) F (fun s' M' => s' = s ∧ M' = F)) (k : DP w0 P ops Q ro rem PA (E.put dst s) C) : DP w0 P ops Q ro ((j, .free) :: rem) PA E C := D_freeT ho rfl hdj hv hw h k
theorem DpT (ho : ops[j]? = some ⟨dst, op, ty, pos, af, some (g, want)⟩) (hdj : dstOf ops g = some dj) (hv : (restr ops ⟨dst, op, ty, pos, af, some (g, want)⟩ E).get dj = some (sB v)) (hw : v = want) (h : ∀ F, OpS w0 P ⟨dst, op, ty, pos, af, some (g, want)⟩ (restr ops ⟨dst, op, ty, pos, af, some (g, want)⟩ E) (ro ++ F) (fun s' M' => s' = s ∧ M' = ro ++ F)) (k : DP w0 P ops Q ro rem PA (E.put dst s) C) : DP w0 P ops Q ro ((j, .pure) :: rem) PA E C := D_pureT ho rfl hdj hv hw h k
theorem DfN (ho : ops[j]? = some ⟨dst, op, ty, pos, af, some (g, want)⟩) (hdj : dstOf ops g = some dj) (hv : (restr ops ⟨dst, op, ty, pos, af, some (g, want)⟩ E).get dj = some (sB v)) (hw : GNo v want) (k : DP w0 P ops Q ro rem PA (E.put dst (.val undef)) C) : DP w0 P ops Q ro ((j, .free) :: rem) PA E C := D_freeN ho (guardIs_no rfl hdj hv hw) k
theorem DpN (ho : ops[j]? = some ⟨dst, op, ty, pos, af, some (g, want)⟩) (hdj : dstOf ops g = some dj) (hv : (restr ops ⟨dst, op, ty, pos, af, some (g, want)⟩ E).get dj = some (sB v)) (hw : GNo v want) (k : DP w0 P ops Q ro rem PA (E.put dst (.val undef)) C) : DP w0 P ops Q ro ((j, .pure) :: rem) PA E C := D_pureN ho (guardIs_no rfl hdj hv hw) k
theorem DfU (ho : ops[j]? = some ⟨dst, op, ty, pos, af, some (g, want)⟩) (hdj : dstOf ops g = some dj) (hv : (restr ops ⟨dst, op, ty, pos, af, some (g, want)⟩ E).get dj = some (.val undef)) (k : DP w0 P ops Q ro rem PA (E.put dst (.val undef)) C) : DP w0 P ops Q ro ((j, .free) :: rem) PA E C := D_freeN ho (guardIs_un rfl hdj hv) k
theorem DpU (ho : ops[j]? = some ⟨dst, op, ty, pos, af, some (g, want)⟩) (hdj : dstOf ops g = some dj) (hv : (restr ops ⟨dst, op, ty, pos, af, some (g, want)⟩ E).get dj = some (.val undef)) (k : DP w0 P ops Q ro rem PA (E.put dst (.val undef)) C) : DP w0 P ops Q ro ((j, .pure) :: rem) PA E C := D_pureN ho (guardIs_un rfl hdj hv) k
end
/-- The same for what may be done in any order. -/
theorem gd {p q : Prop} (k : q) (h : Kp q → p := by
    intro k
    repeat (first
      | ((with_reducible apply Df); exact rfl; (intro G; (first
        | ((with_reducible apply O_move); exact lk rfl rfl; exact ⟨rfl, rfl⟩)
        | ((with_reducible apply O_assign); exact lk rfl rfl; exact ⟨rfl, rfl⟩)
        | ((with_reducible apply O_cm); exact rfl; exact lk rfl rfl; exact lk rfl rfl; exact ⟨rfl, rfl⟩)
        | ((with_reducible apply O_ld); exact lk rfl rfl; exact inferInstance; exact inferInstance; exact rfl; exact ⟨rfl, rfl⟩)
        | ((with_reducible apply O_fa); exact lk rfl rfl; exact inferInstance; exact ⟨rfl, rfl⟩)
        | ((with_reducible apply O_nilCheck); exact lk rfl rfl; exact ptr_val _; exact ⟨rfl, rfl⟩)
        | ((with_reducible apply O_li); exact lk rfl rfl; exact inferInstance; exact rfl; exact ⟨rfl, rfl⟩)
        | ((with_reducible apply O_fi); exact lk rfl rfl; exact inferInstance; exact ⟨rfl, rfl⟩)
        | ((with_reducible apply O_ln); exact lk rfl rfl; exact inferInstance; exact ⟨rfl, rfl⟩)
        | ((with_reducible apply O_pt); exact lk rfl rfl; (first | (with_reducible exact rfl) | with_reducible assumption); exact lk rfl rfl; exact ⟨rfl, rfl⟩)
        | ((with_reducible apply O_pf); exact lk rfl rfl; (first | (with_reducible exact rfl) | with_reducible assumption); exact lk rfl rfl; exact ⟨rfl, rfl⟩)
        | ((with_reducible apply O_la); exact lk rfl rfl; exact inferInstance; exact inferInstance; exact rfl; exact ⟨rfl, rfl⟩))))
      | ((with_reducible apply DfT); exact rfl; exact rfl; exact lg rfl rfl; (first | (with_reducible exact rfl) | with_reducible assumption); (intro G; (first
        | ((with_reducible apply O_move); exact lk rfl rfl; exact ⟨rfl, rfl⟩)
        | ((with_reducible apply O_assign); exact lk rfl rfl; exact ⟨rfl, rfl⟩)
        | ((with_reducible apply O_cm); exact rfl; exact lk rfl rfl; exact lk rfl rfl; exact ⟨rfl, rfl⟩)
        | ((with_reducible apply O_ld); exact lk rfl rfl; exact inferInstance; exact inferInstance; exact rfl; exact ⟨rfl, rfl⟩)
        | ((with_reducible apply O_fa); exact lk rfl rfl; exact inferInstance; exact ⟨rfl, rfl⟩)
        | ((with_reducible apply O_nilCheck); exact lk rfl rfl; exact ptr_val _; exact ⟨rfl, rfl⟩)
        | ((with_reducible apply O_li); exact lk rfl rfl; exact inferInstance; exact rfl; exact ⟨rfl, rfl⟩)
        | ((with_reducible apply O_fi); exact lk rfl rfl; exact inferInstance; exact ⟨rfl, rfl⟩)
        | ((with_reducible apply O_ln); exact lk rfl rfl; exact inferInstance; exact ⟨rfl, rfl⟩)
        | ((with_reducible apply O_pt); exact lk rfl rfl; (first | (with_reducible exact rfl) | with_reducible assumption); exact lk rfl rfl; exact ⟨rfl, rfl⟩)
        | ((with_reducible apply O_pf); exact lk rfl rfl; (first | (with_reducible exact rfl) | with_reducible assumption); exact lk rfl rfl; exact ⟨rfl, rfl⟩)
        | ((with_reducible apply O_la); exact lk rfl rfl; exact inferInstance; exact inferInstance; exact rfl; exact ⟨rfl, rfl⟩))))
      | ((with_reducible apply DfN); exact rfl; exact rfl; exact lg rfl rfl; (first | ((with_reducible apply GNo.f); (first | (with_reducible exact rfl) | with_reducible assumption)) | ((with_reducible apply GNo.t); (first | (with_reducible exact rfl) | with_reducible assumption))))
      | ((with_reducible apply DfU); exact rfl; exact rfl; exact lg rfl rfl)
      | ((with_reducible apply Dp); exact rfl; (intro G; (first
        | ((with_reducible apply O_move); exact lk rfl rfl; exact ⟨rfl, rfl⟩)
        | ((with_reducible apply O_assign); exact lk rfl rfl; exact ⟨rfl, rfl⟩)
        | ((with_reducible apply O_cm); exact rfl; exact lk rfl rfl; exact lk rfl rfl; exact ⟨rfl, rfl⟩)
        | ((with_reducible apply O_ld); exact lk rfl rfl; exact inferInstance; exact inferInstance; exact rfl; exact ⟨rfl, rfl⟩)
        | ((with_reducible apply O_fa); exact lk rfl rfl; exact inferInstance; exact ⟨rfl, rfl⟩)
        | ((with_reducible apply O_nilCheck); exact lk rfl rfl; exact ptr_val _; exact ⟨rfl, rfl⟩)
        | ((with_reducible apply O_li); exact lk rfl rfl; exact inferInstance; exact rfl; exact ⟨rfl, rfl⟩)
        | ((with_reducible apply O_fi); exact lk rfl rfl; exact inferInstance; exact ⟨rfl, rfl⟩)
        | ((with_reducible apply O_ln); exact lk rfl rfl; exact inferInstance; exact ⟨rfl, rfl⟩)
        | ((with_reducible apply O_pt); exact lk rfl rfl; (first | (with_reducible exact rfl) | with_reducible assumption); exact lk rfl rfl; exact ⟨rfl, rfl⟩)
        | ((with_reducible apply O_pf); exact lk rfl rfl; (first | (with_reducible exact rfl) | with_reducible assumption); exact lk rfl rfl; exact ⟨rfl, rfl⟩)
        | ((with_reducible apply O_la); exact lk rfl rfl; exact inferInstance; exact inferInstance; exact rfl; exact ⟨rfl, rfl⟩))))
      | ((with_reducible apply DpT); exact rfl; exact rfl; exact lg rfl rfl; (first | (with_reducible exact rfl) | with_reducible assumption); (intro G; (first
        | ((with_reducible apply O_move); exact lk rfl rfl; exact ⟨rfl, rfl⟩)
        | ((with_reducible apply O_assign); exact lk rfl rfl; exact ⟨rfl, rfl⟩)
        | ((with_reducible apply O_cm); exact rfl; exact lk rfl rfl; exact lk rfl rfl; exact ⟨rfl, rfl⟩)
        | ((with_reducible apply O_ld); exact lk rfl rfl; exact inferInstance; exact inferInstance; exact rfl; exact ⟨rfl, rfl⟩)
        | ((with_reducible apply O_fa); exact lk rfl rfl; exact inferInstance; exact ⟨rfl, rfl⟩)
        | ((with_reducible apply O_nilCheck); exact lk rfl rfl; exact ptr_val _; exact ⟨rfl, rfl⟩)
        | ((with_reducible apply O_li); exact lk rfl rfl; exact inferInstance; exact rfl; exact ⟨rfl, rfl⟩)
        | ((with_reducible apply O_fi); exact lk rfl rfl; exact inferInstance; exact ⟨rfl, rfl⟩)
        | ((with_reducible apply O_ln); exact lk rfl rfl; exact inferInstance; exact ⟨rfl, rfl⟩)
        | ((with_reducible apply O_pt); exact lk rfl rfl; (first | (with_reducible exact rfl) | with_reducible assumption); exact lk rfl rfl; exact ⟨rfl, rfl⟩)
        | ((with_reducible apply O_pf); exact lk rfl rfl; (first | (with_reducible exact rfl) | with_reducible assumption); exact lk rfl rfl; exact ⟨rfl, rfl⟩)
        | ((with_reducible apply O_la); exact lk rfl rfl; exact inferInstance; exact inferInstance; exact rfl; exact ⟨rfl, rfl⟩))))
      | ((with_reducible apply DpN); exact rfl; exact rfl; exact lg rfl rfl; (first | ((with_reducible apply GNo.f); (first | (with_reducible exact rfl) | with_reducible assumption)) | ((with_reducible apply GNo.t); (first | (with_reducible exact rfl) | with_reducible assumption))))
      | ((with_reducible apply DpU); exact rfl; exact rfl; exact lg rfl rfl))
    exact k.out) : p := h ⟨k⟩
end Go.Proofs.YtabojfgmbfnoiaaGreatDoor
end
section
/- What comes in through a row's door: trees and pairs that can be read as data; the tables that are listed. -/
set_option linter.unusedVariables false
set_option linter.unusedSimpArgs false
namespace Go.Proofs.YtabojfgmbfnoiaaGreatDoor
open Go.Proofs.Tryz Go.RowKit
def inI (n : Int) : Prop := -9223372036854775808 ≤ n ∧ n ≤ 9223372036854775807
mutual
def Tree.wf : Tree → Prop
  | .mk k _ _ l => inI k ∧ wfL l
def wfL : List Tree → Prop
  | [] => True
  | t :: l => t.wf ∧ wfL l
end
theorem wfL_of : ∀ (l : List Tree), (∀ t ∈ l, t.wf) → wfL l
  | [], _ => by simp [wfL]
  | t :: l, h => by simp only [wfL]; exact ⟨h t (List.mem_cons_self ..), wfL_of l fun u hu => h u (List.mem_cons_of_mem _ hu)⟩
def hpOf (w : World) : Hp := fun k => w.heap[k]?
theorem good_start (w : World) : Good w (hpOf w) [] w := ⟨rfl, rfl, rfl, Nat.le_refl _, fun k _ => rfl, fun h hh k o hk => by
  rw [List.mem_singleton.1 hh] at hk; exact hk, List.pairwise_singleton _ _⟩
theorem hpOf_cell {w : World} {a : Addr} {v : Value} (h : w.cell? a = some v) : (hpOf w).cell a = some v := by
  unfold World.cell? at h
  unfold Hp.cell hpOf
  split at h
  · rename_i c e f hk; rw [hk]; exact h
  · cases h
theorem mapM_len {α β : Type} {f : α → Option β} : ∀ {l : List α} {r : List β}, l.mapM f = some r → r.length = l.length
  | [], r, h => by simp at h; subst h; rfl
  | x :: l, r, h => by
    simp only [List.mapM_cons, Option.bind_eq_bind, Option.bind_eq_some_iff, Option.pure_def, Option.some.injEq] at h
    obtain ⟨b, hb, r', hr', rfl⟩ := h
    simp [mapM_len hr']
theorem cells_inv {w : World} {base n : Nat} {a : Addr} {cs : List Value} (h : w.cells? base a n = some cs) : cs.length = n ∧ ∀ i (hi : i < cs.length), w.cell? (a.add i) = some cs[i] := by
  unfold World.cells? at h
  split at h
  · have hl := mapM_len h
    refine ⟨by simpa using hl, fun i hi => ?_⟩
    obtain ⟨b, hb, hf⟩ := Lib.mapM_at h i i (by rw [List.getElem?_range]; rw [List.length_range] at hl; omega)
    rw [hf, ← hb, List.getElem?_eq_getElem hi]
  · cases h
section
variable {H : Type} {enc : TypeId × Value → H} {w : World} {sp : Nat → Bool} {held : Bool}
theorem int_of {n : Nat} {t : TypeId} {cs : List Value} {y : DataW H × List MemPlace} (ht : prog.underlying t = some (.int .i64)) (h : DataW.trod enc prog w 0 sp held n t cs = some y) : ∃ k, cs = [.int .i64 k] ∧ inI k := by
  cases n with
  | zero => simp [DataW.trod] at h
  | succ n =>
    unfold DataW.trod at h
    rw [ht] at h
    split at h
    case h_2 k k' m he =>
      cases he
      split at h
      · rename_i hc
        obtain ⟨rfl, hw⟩ := hc
        refine ⟨m, rfl, ?_⟩
        simpa [inI, Lit.wf, IntKind.min, IntKind.max, IntKind.signed, IntKind.bits] using hw
      · cases h
    all_goals simp_all
theorem str_of {n : Nat} {t : TypeId} {cs : List Value} {y : DataW H × List MemPlace} (ht : prog.underlying t = some .string) (h : DataW.trod enc prog w 0 sp held n t cs = some y) : ∃ s, cs = [.string s] := by
  cases n with
  | zero => simp [DataW.trod] at h
  | succ n =>
    unfold DataW.trod at h
    rw [ht] at h
    split at h <;> simp_all
theorem slc_of {n : Nat} {t e : TypeId} {cs : List Value} {y : DataW H × List MemPlace} (ht : prog.underlying t = some (.slice e)) (h : DataW.trod enc prog w 0 sp held n t cs = some y) :
    cs = [.slice none 0 0] ∨ ∃ a len cap m, n = m + 1 ∧ cs = [.slice (some a) len cap] ∧ len ≤ cap ∧ cap ≤ maxLen ∧ ∀ i, i < len → ∃ cells z, w.cells? 0 (a.add (i * prog.cellsOf e)) (prog.cellsOf e) = some cells ∧ DataW.trod enc prog w 0 sp held m e cells = some z := by
  cases n with
  | zero => simp [DataW.trod] at h
  | succ n =>
    unfold DataW.trod at h
    rw [ht] at h
    split at h
    case h_8 e' a len cap he =>
      cases he
      right
      split at h
      · rename_i hc
        obtain ⟨elems, he, _⟩ := Option.bind_eq_some_iff.1 h
        refine ⟨a, len, cap, n, rfl, rfl, hc.2.1, hc.2.2, fun i hi => ?_⟩
        obtain ⟨b, _, hb⟩ := Lib.mapM_at he i i (by rw [List.getElem?_range hi])
        obtain ⟨cells, h1, h2⟩ := Option.bind_eq_some_iff.1 hb
        exact ⟨cells, b, h1, h2⟩
      · cases h
    all_goals simp_all
/-- A slice whose elements represent something. -/
theorem rep_slc {k : EK} {a : Addr} {len cap : Nat} (hc : len ≤ cap) (hm : cap ≤ maxLen) (xs : List k.T) (hl : xs.length = len)
    (h : ∀ i (hi : i < xs.length), ∃ cells, w.cells? 0 (a.add (i * k.size)) k.size = some cells ∧ RepL (hpOf w) (k.view xs[i]) cells) : Rep (hpOf w) (.isl k xs) (.slice (some a) len cap) := by
  subst hl
  have hch : ∀ i, ∃ cells : List Value, ∀ (hi : i < xs.length), w.cells? 0 (a.add (i * k.size)) k.size = some cells ∧ RepL (hpOf w) (k.view xs[i]) cells := fun i => by
    by_cases hi : i < xs.length
    · obtain ⟨cells, h1⟩ := h i hi; exact ⟨cells, fun _ => h1⟩
    · exact ⟨[], fun h => absurd h hi⟩
  refine .isl k xs (some a) cap hc hm (fun _ => ⟨a, rfl⟩) (fun i j => ((hch i).choose).getD j undef) (fun ad e i hi j hj => ?_) (fun i hi j hj => ?_)
  · injection e with e; subst e
    obtain ⟨h1, h2⟩ := (hch i).choose_spec hi
    obtain ⟨h3, h4⟩ := cells_inv h1
    have h5 := h4 j (by omega)
    rw [add_add] at h5
    refine hpOf_cell ?_
    rw [h5, List.getD_eq_getElem?_getD, List.getElem?_eq_getElem (by omega)]; rfl
  · obtain ⟨h1, h2⟩ := (hch i).choose_spec hi
    obtain ⟨h3, h4⟩ := cells_inv h1
    have := h2.2 j (by rw [EK.view_length]; exact hj) (by omega)
    rw [List.getD_eq_getElem?_getD, List.getElem?_eq_getElem (by omega)]
    exact this
theorem list_of {α : Type} {n : Nat} {p : Nat → α → Prop} (h : ∀ i, i < n → ∃ x, p i x) : ∃ l : List α, l.length = n ∧ ∀ i (hi : i < l.length), p i l[i] := by
  induction n with
  | zero => exact ⟨[], rfl, fun i hi => by simp at hi⟩
  | succ n ih =>
    obtain ⟨l, hl, hp⟩ := ih (fun i hi => h i (by omega))
    obtain ⟨x, hx⟩ := h n (by omega)
    refine ⟨l ++ [x], by simp [hl], fun i hi => ?_⟩
    by_cases hn : i < l.length
    · rw [List.getElem_append_left hn]; exact hp i hn
    · have : i = l.length := by simp at hi; omega
      subst this
      simp; rw [hl]; exact hx
set_option maxRecDepth 100000 in
theorem node_of : ∀ (n : Nat) (cs : List Value) (y : DataW H × List MemPlace), DataW.trod enc prog w 0 sp held n 24 cs = some y → ∃ T : Tree, T.wf ∧ RepL (hpOf w) (EK.view .node T) cs := by
  intro n
  induction n using Nat.strongRecOn with
  | ind n ih =>
    intro cs y h
    obtain ⟨xs, m, hm, rfl, hl, hlen, hf⟩ := DataW.trod_struct underlying24 h
    have c4 : prog.cellsOf 24 = 4 := by kernel_rfl
    have ci : prog.cellsOf 3 = 1 := by kernel_rfl
    have cstr : prog.cellsOf 9 = 1 := by kernel_rfl
    have cs1 : prog.cellsOf 22 = 1 := by kernel_rfl
    rw [c4] at hl
    match cs, hl with
    | [c0, c1, c2, c3], _ =>
      match xs, hlen with
      | [y0, y1, y2, y3], _ =>
        have h0 := hf 0 _ rfl
        have h1 := hf 1 _ rfl
        have h2 := hf 2 _ rfl
        have h3 := hf 3 _ rfl
        simp only [ci, cstr, cs1, List.drop_zero, List.drop_succ_cons, List.take_succ_cons, List.take_zero, List.getElem?_cons_zero, List.getElem?_cons_succ] at h0 h1 h2 h3
        obtain ⟨k, e0, hk⟩ := int_of underlying3 h0
        obtain ⟨s, e1⟩ := str_of underlying9 h1
        obtain ⟨r, e2⟩ := str_of underlying9 h2
        injection e0 with e0; injection e1 with e1; injection e2 with e2
        subst e0; subst e1; subst e2
        have key : ∃ l : List Tree, (∀ t ∈ l, t.wf) ∧ Rep (hpOf w) (.isl .node l) c3 := by
          rcases slc_of underlying22 h3 with e3 | ⟨a, len, cap, q, hq, e3, hc, hmx, he⟩
          · injection e3 with e3; subst e3
            exact ⟨[], (fun t ht => (by cases ht)), .isl .node [] none 0 (Nat.le_refl _) (Nat.zero_le _) (fun h => by simp at h) (fun _ _ => undef) (fun ad e => by cases e) (fun i hi => by simp at hi)⟩
          · injection e3 with e3; subst e3
            obtain ⟨l, hl, hp⟩ := list_of (p := fun i (T : Tree) => T.wf ∧ ∃ cells, w.cells? 0 (a.add (i * 4)) 4 = some cells ∧ RepL (hpOf w) (EK.view .node T) cells) (n := len) (fun i hi => by
              obtain ⟨cells, z, g1, g2⟩ := he i hi
              rw [c4] at g1
              obtain ⟨T, t1, t2⟩ := ih q (by omega) cells z g2
              exact ⟨T, t1, cells, g1, t2⟩)
            refine ⟨l, fun t ht => ?_, rep_slc (k := .node) hc hmx l hl (fun i hi => (hp i hi).2)⟩
            obtain ⟨i, hi, rfl⟩ := List.mem_iff_getElem.1 ht
            exact (hp i hi).1
        obtain ⟨l, hl1, hl2⟩ := key
        refine ⟨.mk k s r l, by simp only [Tree.wf]; exact ⟨hk, wfL_of l hl1⟩, rfl, fun i i1 i2 => ?_⟩
        match i, i1 with
        | 0, _ => exact .val _
        | 1, _ => exact .val _
        | 2, _ => exact .val _
        | 3, _ => exact hl2
/-- An argument that is a tree. -/
theorem node_arg {v : Value} {d : DataW H} {ps : List MemPlace} (h : DataW.Trod enc prog w 0 sp held 24 v d ps) : ∃ T : Tree, T.wf ∧ Rep (hpOf w) (.agg (EK.view .node T)) v := by
  obtain ⟨n, h⟩ := h
  obtain ⟨T, h1, h2⟩ := node_of n _ _ h
  have hl := h2.1
  cases v with
  | agg vs => exact ⟨T, h1, RepL.agg h2⟩
  | _ => simp [Value.cells] at hl
set_option maxRecDepth 100000 in
theorem pair_of {n : Nat} {cs : List Value} {y : DataW H × List MemPlace} (h : DataW.trod enc prog w 0 sp held n 39 cs = some y) : ∃ p : Int × Int, RepL (hpOf w) (EK.view .pair p) cs := by
  obtain ⟨xs, m, hm, rfl, hl, hlen, hf⟩ := DataW.trod_array underlying39 h
  have c2 : prog.cellsOf 39 = 2 := by kernel_rfl
  have ci : prog.cellsOf 3 = 1 := by kernel_rfl
  rw [c2] at hl
  match cs, hl with
  | [c0, c1], _ =>
    match xs, hlen with
    | [y0, y1], _ =>
      have h0 := hf 0 (by decide)
      have h1 := hf 1 (by decide)
      simp only [ci, Nat.zero_mul, Nat.one_mul, List.drop_zero, List.drop_succ_cons, List.take_succ_cons, List.take_zero, List.getElem?_cons_zero, List.getElem?_cons_succ] at h0 h1
      obtain ⟨k, e0, hk⟩ := int_of underlying3 h0
      obtain ⟨j, e1, hj⟩ := int_of underlying3 h1
      injection e0 with e0; injection e1 with e1
      subst e0; subst e1
      refine ⟨(k, j), rfl, fun i i1 i2 => ?_⟩
      match i, i1 with
      | 0, _ => exact .val _
      | 1, _ => exact .val _
/-- An argument that is a row of pairs. -/
theorem pairs_arg {v : Value} {d : DataW H} {ps : List MemPlace} (hv : ∃ a n c, v = .slice a n c) (h : DataW.Trod enc prog w 0 sp held 25 v d ps) : ∃ l : List (Int × Int), Rep (hpOf w) (.isl .pair l) v := by
  obtain ⟨n, h⟩ := h
  have c2 : prog.cellsOf 39 = 2 := by kernel_rfl
  obtain ⟨a0, n0, k0, rfl⟩ := hv
  rcases slc_of underlying25 h with e | ⟨a, len, cap, q, hq, e, hc, hm, he⟩
  · simp only [Value.cells, List.cons.injEq, and_true] at e
    rw [e]
    exact ⟨[], .isl .pair [] none 0 (Nat.le_refl _) (Nat.zero_le _) (fun h => by simp at h) (fun _ _ => undef) (fun ad e => by cases e) (fun i hi => by simp at hi)⟩
  · simp only [Value.cells, List.cons.injEq, and_true] at e
    rw [e]
    obtain ⟨l, hl, hp⟩ := list_of (p := fun i (T : Int × Int) => ∃ cells, w.cells? 0 (a.add (i * 2)) 2 = some cells ∧ RepL (hpOf w) (EK.view .pair T) cells) (n := len) (fun i hi => by
      obtain ⟨cells, z, g1, g2⟩ := he i hi
      rw [c2] at g1
      obtain ⟨T, t2⟩ := pair_of g2
      exact ⟨T, cells, g1, t2⟩)
    exact ⟨l, rep_slc (k := .pair) hc hm l hl hp⟩
end
theorem repL_cons {φ : Hp} {s : SVal} {v : Value} {ss : List SVal} {vs : List Value} (h : Rep φ s v) (t : RepL φ ss vs) : RepL φ (s :: ss) (v :: vs) := ⟨by simp [t.1], fun i h1 h2 => by
  cases i with
  | zero => exact h
  | succ i => exact t.2 i (by simpa using h1) (by simpa using h2)⟩
/-- A contract, used where all begins. -/
theorem Fn.run {w : World} {f : FuncId} {args : List SVal} {vs : List Value} {b : Bool} (h : Fn w prog f args [] (fun s H => s = sB b ∧ H = [])) (ha : RepL (hpOf w) args vs) : Calls prog f vs.toArray w (fun e w' => e = .returned (.bool b) ∧ Below w.heap.size w w') := by
  refine (h (fun φ => ∀ k, k < w.heap.size → φ k = w.heap[k]?) (fun φ φ' hl hx k hk => ?_) [] vs.toArray w ⟨hpOf w, [], good_start w, trivial, by simpa using ha, fun k _ => rfl⟩).mono ?_
  · have h1 := hx k hk
    have h2 : w.heap[k]? = some w.heap[k] := Array.getElem?_eq_getElem hk
    rw [h2] at h1 ⊢
    exact hl _ _ h1
  · rintro e w' ⟨v, s, H', rfl, ⟨rfl, rfl⟩, φ, hs, g, hS, hr, hb⟩
    refine ⟨by rw [hr.val_eq], g.os, g.tape, g.output, g.size, fun k hk => ?_⟩
    have h1 := hb k hk
    have h2 : w.heap[k]? = some w.heap[k] := Array.getElem?_eq_getElem hk
    rw [h2] at h1 ⊢
    exact g.agree φ (List.mem_cons_self ..) k _ h1
/-! The tables. -/
def laidL : List (String × DataW Unit) := [("math/bits.deBruijn32tab", Rows.laid_math_bits_deBruijn32tab), ("math/bits.deBruijn64tab", Rows.laid_math_bits_deBruijn64tab), ("internal/strconv.uint64pow10", Rows.laid_internal_strconv_uint64pow10), ("unicode/utf8.acceptRanges", Rows.laid_unicode_utf8_acceptRanges), ("unicode/utf8.first", Rows.laid_unicode_utf8_first)]
def u8ren : Go.Shelf.Ren := ⟨fun n => n, fun | 5 => 5 | 119 => 173 | 138 => 175 | 139 => 176 | n => n, fun | 3 => 4 | 4 => 5 | n => n⟩
theorem globs_of_laid {W : World} (h : laidMetH prog laidL W) : Globs W := by
  rw [MakeChecks.laidMetH_plain _ _ _ (by kernel_rfl)] at h
  have h1 := Lib.laidMet.reads h (n := "internal/strconv.uint64pow10") (d := Rows.laid_internal_strconv_uint64pow10) (by simp [laidL])
  have h2 := Lib.laidMet.reads h (n := "unicode/utf8.acceptRanges") (d := Rows.laid_unicode_utf8_acceptRanges) (by simp [laidL])
  have h3 := Lib.laidMet.reads h (n := "unicode/utf8.first") (d := Rows.laid_unicode_utf8_first) (by simp [laidL])
  refine ⟨?_, ?_⟩
  · obtain ⟨g, t, cs, fuel, p, hg, ht, hv, hd⟩ := h1
    have hg' : prog.globalNamed "internal/strconv.uint64pow10" = some 0 := by kernel_rfl
    obtain rfl := Option.some.inj (hg'.symm.trans hg)
    have ht' : (prog.globals[0]?).map (·.type) = some 151 := by kernel_rfl
    obtain rfl := Option.some.inj (ht'.symm.trans ht)
    have e : (Rows.laid_internal_strconv_uint64pow10 : DataW Unit) = Lib.tabData .u64 Lib.pow10Tab := by kernel_rfl
    rw [e] at hd
    have := Lib.cells_of_tab underlying151 underlying41 (by kernel_rfl) (by kernel_rfl) hd
    unfold Lib.TabIs
    rw [hv, ← this]
  · have e2 : (Rows.laid_unicode_utf8_acceptRanges : DataW Unit) = Lib.acceptData := by kernel_rfl
    have e3 : (Rows.laid_unicode_utf8_first : DataW Unit) = Lib.firstData := Pinned.utf8First_eq
    rw [e2] at h2
    rw [e3] at h3
    exact Go.Proofs.utf8Tabs_of_readsT (ρ := u8ren) ⟨underlying5, underlying173, underlying175, underlying176⟩ ⟨by kernel_rfl, by kernel_rfl, by kernel_rfl, by kernel_rfl, by kernel_rfl, by kernel_rfl, by kernel_rfl⟩ h3 h2
theorem ownK : ownKnob prog.godebug = none := by kernel_rfl
theorem laidOutP : laidOutB prog = true := by kernel_rfl
end Go.Proofs.YtabojfgmbfnoiaaGreatDoor
end
section
/- Plain functions with fuel: more fuel, the same answer; 'in the end it answers'. -/
set_option linter.unusedVariables false
namespace Go.Proofs.YtabojfgmbfnoiaaGreatDoor
/-- What x answers y answers. -/
def Sub {α : Type} (x y : Option α) : Prop := ∀ r, x = some r → y = some r
theorem Sub.rfl {α : Type} (x : Option α) : Sub x x := fun _ h => h
theorem Sub.bind {α β : Type} {x y : Option α} {f g : α → Option β} (h : Sub x y) (k : ∀ v, Sub (f v) (g v)) : Sub (x.bind f) (y.bind g) := fun r e => by
  cases x with
  | none => cases e
  | some v =>
    have := h v (by rfl)
    subst this; exact k v r e
theorem Sub.bif {α : Type} {c : Bool} {x x' y y' : Option α} (h : Sub x x') (k : Sub y y') : Sub (bif c then x else y) (bif c then x' else y') := by cases c <;> assumption
theorem Sub.sum {α β γ : Type} {f f' : α → Option γ} {g g' : β → Option γ} (h : ∀ x, Sub (f x) (f' x)) (k : ∀ x, Sub (g x) (g' x)) : ∀ v, Sub (Sum.elim f g v) (Sum.elim f' g' v)
  | .inl x => h x
  | .inr x => k x
/-- In the end f answers an r that P holds of: from some fuel (and some number of rounds) on. -/
def T {α : Type} (f : Nat → Nat → Option α) (P : α → Prop) : Prop := ∃ r, P r ∧ ∃ N, ∀ a n, N ≤ a → N ≤ n → f a n = some r
section
variable {α β γ : Type} {P : α → Prop} {Q : β → Prop}
theorem T.ret {r : α} (h : P r) : T (fun _ _ => some r) P := ⟨r, h, 0, fun _ _ _ _ => rfl⟩
theorem T.bind {f : Nat → Nat → Option α} {g : Nat → Nat → α → Option β} (h : T f P) (k : ∀ x, P x → T (fun a n => g a n x) Q) : T (fun a n => (f a n).bind (g a n)) Q := by
  obtain ⟨x, px, N, hN⟩ := h
  obtain ⟨y, py, M, hM⟩ := k x px
  refine ⟨y, py, max N M, fun a n ha hn => ?_⟩
  show (f a n).bind (g a n) = some y
  rw [hN a n (by omega) (by omega)]
  exact hM a n (by omega) (by omega)
theorem T.mono {f : Nat → Nat → Option α} {P' : α → Prop} (h : T f P) (k : ∀ r, P r → P' r) : T f P' := let ⟨r, p, e⟩ := h; ⟨r, k r p, e⟩
theorem T.ck {e : Int} {g : Nat → Nat → Int → Option β} (h : -9223372036854775808 ≤ e ∧ e ≤ 9223372036854775807) (k : T (fun a n => g a n e) Q) : T (fun a n => (ck e).bind (g a n)) Q := by
  rw [ck_eq h]; exact k
theorem T.idx {xs : List α} {i : Int} {z : α} {g : Nat → Nat → α → Option β} (h0 : 0 ≤ i) (hz : xs[i.toNat]? = some z) (k : T (fun a n => g a n z) Q) : T (fun a n => (Go.Proofs.YtabojfgmbfnoiaaGreatDoor.idx xs i).bind (g a n)) Q := by
  have : Go.Proofs.YtabojfgmbfnoiaaGreatDoor.idx xs i = some z := by unfold Go.Proofs.YtabojfgmbfnoiaaGreatDoor.idx; rw [if_pos h0]; exact hz
  rw [this]; exact k
theorem T.idx' {xs : List α} {i : Int} {g : Nat → Nat → α → Option β} (h : 0 ≤ i ∧ i < xs.length) (k : ∀ z, xs[i.toNat]? = some z → T (fun a n => g a n z) Q) : T (fun a n => (Go.Proofs.YtabojfgmbfnoiaaGreatDoor.idx xs i).bind (g a n)) Q := by
  have hlt : i.toNat < xs.length := by omega
  exact T.idx h.1 (List.getElem?_eq_getElem hlt) (k _ (List.getElem?_eq_getElem hlt))
theorem T.sidx' {s : ByteArray} {i : Int} {g : Nat → Nat → UInt8 → Option β} (h : 0 ≤ i ∧ i < s.size) (k : ∀ z, s.data[i.toNat]? = some z → T (fun a n => g a n z) Q) : T (fun a n => (sidx s i).bind (g a n)) Q := by
  have hlt : i.toNat < s.data.size := by have : s.data.size = s.size := rfl; omega
  have : sidx s i = some s.data[i.toNat] := by unfold sidx; rw [if_pos h.1]; exact Array.getElem?_eq_getElem hlt
  rw [this]; exact k _ (Array.getElem?_eq_getElem hlt)
theorem T.req {p : Prop} [Decidable p] {f : Nat → Nat → Option β} (h : p) (k : T f Q) : T (fun a n => if p then f a n else none) Q := by simp only [if_pos h]; exact k
theorem T.bif {c : Bool} {f g : Nat → Nat → Option β} (h : c = true → T f Q) (k : c = false → T g Q) : T (fun a n => bif c then f a n else g a n) Q := by
  cases c
  · exact k rfl
  · exact h rfl
theorem T.bt {c : Bool} {f g : Nat → Nat → Option β} (h : c = true) (k : T f Q) : T (fun a n => bif c then f a n else g a n) Q := by subst h; exact k
theorem T.bf {c : Bool} {f g : Nat → Nat → Option β} (h : c = false) (k : T g Q) : T (fun a n => bif c then f a n else g a n) Q := by subst h; exact k
/-- The rounds as many as the fuel. -/
theorem T.diag {f : Nat → Nat → Option α} (h : T f P) : T (fun a _ => f a a) P := by
  obtain ⟨r, p, N, hN⟩ := h
  exact ⟨r, p, N, fun a _ ha _ => hN a a ha ha⟩
theorem T.succ {f : Nat → Nat → Option α} (h : T (fun a n => f a (n + 1)) P) : T f P := by
  obtain ⟨r, p, N, hN⟩ := h
  refine ⟨r, p, N + 1, fun a n ha hn => ?_⟩
  obtain ⟨m, rfl⟩ : ∃ m, n = m + 1 := ⟨n - 1, by omega⟩
  exact hN a m (by omega) (by omega)
theorem T.fuel {f : Nat → Nat → Option α} (h : T (fun a n => f (a + 1) n) P) : T f P := by
  obtain ⟨r, p, N, hN⟩ := h
  refine ⟨r, p, N + 1, fun a n ha hn => ?_⟩
  obtain ⟨m, rfl⟩ : ∃ m, a = m + 1 := ⟨a - 1, by omega⟩
  exact hN m n (by omega) (by omega)
/-- A loop, by what is left. -/
theorem T.loop {σ : Type} {L : Nat → Nat → σ → Option β} (I : σ → Prop) (μ : σ → Nat) (step : ∀ s, I s → (∀ s', I s' → μ s' < μ s → T (fun a n => L a n s') Q) → T (fun a n => L a (n + 1) s) Q) : ∀ s, I s → T (fun a n => L a n s) Q := by
  intro s
  generalize hm : μ s = m
  induction m using Nat.strongRecOn generalizing s with
  | ind m ih => exact fun hs => T.succ (step s hs (fun s' hs' hlt => ih (μ s') (by omega) s' rfl hs'))
theorem T.get {f : Nat → Nat → Option α} {r : α} (h : T f (· = r)) : ∃ N, ∀ a, N ≤ a → f a a = some r := by
  obtain ⟨_, rfl, N, hN⟩ := h
  exact ⟨N, fun a ha => hN a a ha ha⟩
theorem T.dec {p : Prop} [Decidable p] {f g : Nat → Nat → Option β} (h : p → T f Q) (k : ¬ p → T g Q) : T (fun a n => bif decide p then f a n else g a n) Q := by
  by_cases hp : p
  · simp only [decide_eq_true hp, cond_true]; exact h hp
  · simp only [decide_eq_false hp, cond_false]; exact k hp
theorem T.bnot {c : Bool} {f g : Nat → Nat → Option β} (h : c = false → T f Q) (k : c = true → T g Q) : T (fun a n => bif !c then f a n else g a n) Q := by
  cases c
  · exact h rfl
  · exact k rfl
theorem T.bdn {p : Prop} [Decidable p] {f g : Nat → Nat → Option β} (h : ¬ p → T f Q) (k : p → T g Q) : T (fun a n => bif !decide p then f a n else g a n) Q := T.bnot (fun e => h (of_decide_eq_false e)) (fun e => k (of_decide_eq_true e))
theorem T.beq {x y : Int} {f g : Nat → Nat → Option β} (h : x = y → T f Q) (k : x ≠ y → T g Q) : T (fun a n => bif x == y then f a n else g a n) Q := T.bif (fun e => h (by simpa using e)) (fun e => k (by simpa using e))
theorem T.bne {x y : Int} {f g : Nat → Nat → Option β} (h : x ≠ y → T f Q) (k : x = y → T g Q) : T (fun a n => bif x != y then f a n else g a n) Q := T.bif (fun e => h (by simpa using e)) (fun e => k (by simpa using e))
/-! With what comes behind. -/
theorem T.bas {δ : Type} {f : Nat → Nat → Option α} {g : Nat → Nat → α → Option δ} {k : Nat → Nat → δ → Option β} (h : T (fun a n => (f a n).bind fun x => (g a n x).bind (k a n)) Q) : T (fun a n => ((f a n).bind (g a n)).bind (k a n)) Q := by
  simp only [Option.bind_assoc]; exact h
theorem T.bso {v : α} {k : Nat → Nat → α → Option β} (h : T (fun a n => k a n v) Q) : T (fun a n => (some v).bind (k a n)) Q := h
theorem T.bbi {c : Bool} {f g : Nat → Nat → Option α} {k : Nat → Nat → α → Option β} (h : T (fun a n => bif c then (f a n).bind (k a n) else (g a n).bind (k a n)) Q) : T (fun a n => (bif c then f a n else g a n).bind (k a n)) Q := by
  cases c <;> exact h
theorem T.bit {p : Prop} [Decidable p] {f : Nat → Nat → Option α} {k : Nat → Nat → α → Option β} (hp : p) (h : T (fun a n => (f a n).bind (k a n)) Q) : T (fun a n => (if p then f a n else none).bind (k a n)) Q := by
  simp only [if_pos hp]; exact h
theorem T.use {f : Nat → Nat → Option α} {g : Nat → Nat → α → Option β} (r : α) (h : T f (· = r)) (k : T (fun a n => g a n r) Q) : T (fun a n => (f a n).bind (g a n)) Q := T.bind h (fun x e => by subst e; exact k)
theorem T.and {f : Nat → Nat → Option α} {P' : α → Prop} (h : T f P) (h' : T f P') : T f (fun r => P r ∧ P' r) := by
  obtain ⟨r, p, N, hN⟩ := h
  obtain ⟨r', p', N', hN'⟩ := h'
  have e := (hN (max N N') (max N N') (by omega) (by omega)).symm.trans (hN' (max N N') (max N N') (by omega) (by omega))
  cases e
  exact ⟨r, ⟨p, p'⟩, N, hN⟩
theorem T.bsu {δ γ' : Type} {P : δ → Prop} {P' : γ' → Prop} {e : Nat → Nat → Option (δ ⊕ γ')} {f : Nat → Nat → δ → Option β} {g : Nat → Nat → γ' → Option β} (h : T e (fun v => (∃ x, v = .inl x ∧ P x) ∨ ∃ x, v = .inr x ∧ P' x)) (k : ∀ x, P x → T (fun a n => f a n x) Q) (k' : ∀ x, P' x → T (fun a n => g a n x) Q) : T (fun a n => (e a n).bind (Sum.elim (f a n) (g a n))) Q := T.bind h fun v hv => by
  rcases hv with ⟨x, rfl, p⟩ | ⟨x, rfl, p⟩
  · exact k x p
  · exact k' x p
end
end Go.Proofs.YtabojfgmbfnoiaaGreatDoor
end
section
/- A tree's nodes, each ahead of its Kids; their places. -/
set_option linter.unusedVariables false
set_option linter.unusedSimpArgs false
namespace Go.Proofs.YtabojfgmbfnoiaaGreatDoor
def Tree.nodes : Tree → List Tree
  | .mk k s r l => .mk k s r l :: nodesL l
where nodesL : List Tree → List Tree
  | [] => []
  | t :: l => t.nodes ++ nodesL l
abbrev nodesL := Tree.nodes.nodesL
def Tree.card (t : Tree) : Nat := t.nodes.length
theorem Tree.eta : ∀ t : Tree, Tree.mk t.kind t.text t.trail t.kids = t
  | .mk _ _ _ _ => rfl
theorem nodes_eq (t : Tree) : t.nodes = t :: nodesL t.kids := by
  cases t; simp only [Tree.nodes, Tree.kids]
theorem card_eq (t : Tree) : t.card = 1 + (nodesL t.kids).length := by
  unfold Tree.card; rw [nodes_eq, List.length_cons]; omega
theorem card_pos (t : Tree) : 1 ≤ t.card := by rw [card_eq]; omega
theorem nodesL_nil : nodesL [] = [] := by simp only [Tree.nodes.nodesL]
theorem nodesL_cons (t : Tree) (l : List Tree) : nodesL (t :: l) = t.nodes ++ nodesL l := by simp only [Tree.nodes.nodesL]
theorem nodesL_append : ∀ (l m : List Tree), nodesL (l ++ m) = nodesL l ++ nodesL m
  | [], m => by rw [nodesL_nil]; rfl
  | t :: l, m => by rw [List.cons_append, nodesL_cons, nodesL_cons, nodesL_append l m, List.append_assoc]
theorem nodesL_one (t : Tree) : nodesL [t] = t.nodes := by rw [nodesL_cons, nodesL_nil, List.append_nil]
theorem Tree.rec' {P : Tree → Prop} (h : ∀ t : Tree, (∀ k ∈ t.kids, P k) → P t) : ∀ t, P t
  | .mk k s r l => h _ (go l)
where go : ∀ (l : List Tree), ∀ k ∈ l, P k
  | [], _, hk => by cases hk
  | t :: l, k, hk => by
    rcases List.mem_cons.1 hk with e | e
    · rw [e]; exact Tree.rec' h t
    · exact go l k e
theorem mem_nodesL {u : Tree} : ∀ {l : List Tree}, u ∈ nodesL l ↔ ∃ k ∈ l, u ∈ k.nodes
  | [] => by simp [nodesL_nil]
  | t :: l => by rw [nodesL_cons, List.mem_append, mem_nodesL (l := l)]; simp
theorem mem_nodes {u t : Tree} : u ∈ t.nodes ↔ u = t ∨ ∃ k ∈ t.kids, u ∈ k.nodes := by
  rw [nodes_eq, List.mem_cons, mem_nodesL]
theorem self_mem (t : Tree) : t ∈ t.nodes := mem_nodes.2 (.inl rfl)
theorem kid_mem {t k : Tree} (h : k ∈ t.kids) : k ∈ t.nodes := mem_nodes.2 (.inr ⟨k, h, self_mem k⟩)
theorem nodes_trans : ∀ {t u v : Tree}, u ∈ t.nodes → v ∈ u.nodes → v ∈ t.nodes := by
  intro t
  induction t using Tree.rec' with
  | h t ih =>
    intro u v hu hv
    rcases mem_nodes.1 hu with rfl | ⟨k, hk, hu⟩
    · exact hv
    · exact mem_nodes.2 (.inr ⟨k, hk, ih k hk hu hv⟩)
theorem mem_card {l : List Tree} {t : Tree} (h : t ∈ l) : t.card ≤ (nodesL l).length := by
  induction l with
  | nil => cases h
  | cons u l ih =>
    rw [nodesL_cons, List.length_append]
    rcases List.mem_cons.1 h with rfl | e
    · unfold Tree.card; omega
    · have := ih e; omega
theorem length_le_nodesL : ∀ (l : List Tree), l.length ≤ (nodesL l).length
  | [] => by simp
  | t :: l => by
    have := length_le_nodesL l
    have := card_pos t
    unfold Tree.card at this
    rw [nodesL_cons, List.length_append, List.length_cons]; omega
theorem card_mem : ∀ {t u : Tree}, u ∈ t.nodes → u.card ≤ t.card := by
  intro t
  induction t using Tree.rec' with
  | h t ih =>
    intro u hu
    rcases mem_nodes.1 hu with rfl | ⟨k, hk, hu⟩
    · exact Nat.le_refl _
    · have := ih k hk hu
      have := mem_card hk
      rw [card_eq t]; omega
/-! Places. -/
def posL : Nat → List Tree → List Int
  | _, [] => []
  | at_, t :: l => (at_ : Int) :: posL (at_ + t.card) l
def Tree.plan : Tree → Nat → List (List Int)
  | .mk _ _ _ l, at_ => posL (at_ + 1) l :: planL l (at_ + 1)
where planL : List Tree → Nat → List (List Int)
  | [], _ => []
  | t :: l, at_ => t.plan at_ ++ planL l (at_ + t.card)
abbrev planL := Tree.plan.planL
theorem plan_eq (t : Tree) (i : Nat) : t.plan i = posL (i + 1) t.kids :: planL t.kids (i + 1) := by
  cases t; simp only [Tree.plan, Tree.kids]
theorem planL_nil (i : Nat) : planL [] i = [] := by simp only [Tree.plan.planL]
theorem planL_cons (t : Tree) (l : List Tree) (i : Nat) : planL (t :: l) i = t.plan i ++ planL l (i + t.card) := by simp only [Tree.plan.planL]
theorem planL_append : ∀ (l m : List Tree) (i : Nat), planL (l ++ m) i = planL l i ++ planL m (i + (nodesL l).length)
  | [], m, i => by rw [planL_nil, nodesL_nil]; rfl
  | t :: l, m, i => by
    rw [List.cons_append, planL_cons, planL_cons, planL_append l m, nodesL_cons, List.append_assoc, List.length_append, Nat.add_assoc]; rfl
theorem posL_append : ∀ (l m : List Tree) (i : Nat), posL i (l ++ m) = posL i l ++ posL (i + (nodesL l).length) m
  | [], m, i => by rw [nodesL_nil]; rfl
  | t :: l, m, i => by
    rw [List.cons_append, posL, posL, posL_append l m, nodesL_cons, List.length_append, Nat.add_assoc]; rfl
theorem posL_length : ∀ (l : List Tree) (i : Nat), (posL i l).length = l.length
  | [], _ => rfl
  | t :: l, i => by rw [posL, List.length_cons, List.length_cons, posL_length l]
theorem planL_length (l : List Tree) : ∀ i, (planL l i).length = (nodesL l).length := by
  have key : ∀ t : Tree, ∀ i, (t.plan i).length = t.card := by
    intro t
    induction t using Tree.rec' with
    | h t ih =>
      intro i
      rw [plan_eq, card_eq, List.length_cons]
      have : ∀ (l : List Tree), (∀ k ∈ l, ∀ i, (k.plan i).length = k.card) → ∀ i, (planL l i).length = (nodesL l).length := by
        intro l
        induction l with
        | nil => intro _ i; rw [planL_nil, nodesL_nil]; rfl
        | cons t l ihl =>
          intro h i
          rw [planL_cons, nodesL_cons, List.length_append, List.length_append, h t (List.mem_cons_self ..), ihl (fun k hk => h k (List.mem_cons_of_mem _ hk))]; rfl
      rw [this t.kids ih]; omega
  induction l with
  | nil => intro i; rw [planL_nil, nodesL_nil]; rfl
  | cons t l ihl =>
    intro i
    rw [planL_cons, nodesL_cons, List.length_append, List.length_append, key t, ihl]; rfl
theorem plan_length (t : Tree) (i : Nat) : (t.plan i).length = t.card := by
  rw [plan_eq, card_eq, List.length_cons, planL_length]; omega
/-- The j-th node of a tree that begins at place o: its own nodes lie behind it, and its Kids' places. -/
theorem node_at : ∀ (t : Tree) (o j : Nat) (u : Tree), t.nodes[j]? = some u → (t.nodes.drop j).take u.card = u.nodes ∧ (t.plan o)[j]? = some (posL (o + j + 1) u.kids) ∧ j + u.card ≤ t.card := by
  intro t
  induction t using Tree.rec' with
  | h t ih =>
    intro o j u hj
    rw [nodes_eq] at hj
    cases j with
    | zero =>
      simp only [List.getElem?_cons_zero, Option.some.injEq] at hj
      subst hj
      refine ⟨by rw [List.drop_zero]; exact List.take_of_length_le (Nat.le_refl _), by rw [plan_eq]; rfl, by omega⟩
    | succ j =>
      rw [List.getElem?_cons_succ] at hj
      have key : ∀ (l : List Tree), (∀ k ∈ l, ∀ (o j : Nat) (u : Tree), k.nodes[j]? = some u → (k.nodes.drop j).take u.card = u.nodes ∧ (k.plan o)[j]? = some (posL (o + j + 1) u.kids) ∧ j + u.card ≤ k.card) → ∀ (o j : Nat) (u : Tree), (nodesL l)[j]? = some u → ((nodesL l).drop j).take u.card = u.nodes ∧ (planL l o)[j]? = some (posL (o + j + 1) u.kids) ∧ j + u.card ≤ (nodesL l).length := by
        intro l
        induction l with
        | nil => intro _ o j u h; rw [nodesL_nil] at h; cases h
        | cons k l ihl =>
          intro h o j u hj
          rw [nodesL_cons] at hj ⊢
          rw [planL_cons]
          by_cases hlt : j < k.nodes.length
          · rw [List.getElem?_append_left hlt] at hj
            obtain ⟨h1, h2, h3⟩ := h k (List.mem_cons_self ..) o j u hj
            have h3' : j + u.card ≤ k.nodes.length := h3
            refine ⟨?_, ?_, ?_⟩
            · rw [List.drop_append_of_le_length (by omega), List.take_append_of_le_length (by rw [List.length_drop]; omega), h1]
            · rw [List.getElem?_append_left (by rw [plan_length]; exact hlt), h2]
            · rw [List.length_append]; omega
          · rw [List.getElem?_append_right (by omega)] at hj
            obtain ⟨h1, h2, h3⟩ := ihl (fun q hq => h q (List.mem_cons_of_mem _ hq)) (o + k.card) (j - k.nodes.length) u hj
            refine ⟨?_, ?_, ?_⟩
            · rw [List.drop_append, List.drop_of_length_le (by omega), List.nil_append, h1]
            · rw [List.getElem?_append_right (by rw [plan_length]; unfold Tree.card; omega), plan_length]
              have e : o + k.card + (j - k.nodes.length) + 1 = o + j + 1 := by unfold Tree.card; omega
              rw [e] at h2; exact h2
            · rw [List.length_append]; omega
      obtain ⟨h1, h2, h3⟩ := key t.kids ih (o + 1) j u hj
      refine ⟨?_, ?_, ?_⟩
      · rw [nodes_eq, List.drop_succ_cons, h1]
      · rw [plan_eq, List.getElem?_cons_succ, h2]
        have e : o + 1 + j + 1 = o + (j + 1) + 1 := by omega
        rw [e]
      · rw [card_eq t]; omega
/-- The n-th Kid's place: behind those ahead of it. -/
theorem posL_get : ∀ (l : List Tree) (i n : Nat) (x : Int), (posL i l)[n]? = some x → ∃ k, l[n]? = some k ∧ x = ((i + (nodesL (l.take n)).length : Nat) : Int) ∧ (nodesL (l.take n)).length + k.card ≤ (nodesL l).length
  | [], i, n, x, h => by cases h
  | t :: l, i, 0, x, h => by
    simp only [posL, List.getElem?_cons_zero, Option.some.injEq] at h
    refine ⟨t, rfl, ?_, ?_⟩
    · rw [← h, List.take_zero, nodesL_nil]; rfl
    · rw [List.take_zero, nodesL_nil, nodesL_cons, List.length_append]; show 0 + t.nodes.length ≤ _; omega
  | t :: l, i, n + 1, x, h => by
    rw [posL, List.getElem?_cons_succ] at h
    obtain ⟨k, h1, h2, h3⟩ := posL_get l _ n x h
    refine ⟨k, by rw [List.getElem?_cons_succ]; exact h1, ?_, ?_⟩
    · rw [h2, List.take_succ_cons, nodesL_cons, List.length_append, Nat.add_assoc]; rfl
    · rw [List.take_succ_cons, nodesL_cons, nodesL_cons, List.length_append, List.length_append]; omega
theorem nodesL_drop : ∀ (l : List Tree) (n : Nat) (k : Tree), l[n]? = some k → (nodesL l)[(nodesL (l.take n)).length]? = some k
  | [], n, k, h => by cases h
  | t :: l, 0, k, h => by
    simp only [List.getElem?_cons_zero, Option.some.injEq] at h
    subst h
    rw [List.take_zero, nodesL_nil, nodesL_cons, nodes_eq]; rfl
  | t :: l, n + 1, k, h => by
    rw [List.getElem?_cons_succ] at h
    rw [List.take_succ_cons, nodesL_cons, nodesL_cons, List.length_append, List.getElem?_append_right (by omega), show t.nodes.length + (nodesL (l.take n)).length - t.nodes.length = (nodesL (l.take n)).length by omega]
    exact nodesL_drop l n k h
/-- A Kid of the i-th node stands where the plan says. -/
theorem kid_at {t u : Tree} {i n : Nat} {x : Int} (h : t.nodes[i]? = some u) (hx : (posL (i + 1) u.kids)[n]? = some x) : ∃ k, u.kids[n]? = some k ∧ x = ((i + 1 + (nodesL (u.kids.take n)).length : Nat) : Int) ∧ t.nodes[x.toNat]? = some k ∧ i < x.toNat ∧ x.toNat + k.card ≤ i + u.card := by
  obtain ⟨k, h1, h2, h3⟩ := posL_get _ _ _ _ hx
  have h4 := nodesL_drop _ _ _ h1
  obtain ⟨g1, g2, g3⟩ := node_at t 0 i u h
  have e : x.toNat = i + (1 + (nodesL (u.kids.take n)).length) := by rw [h2]; omega
  refine ⟨k, h1, h2, ?_, by omega, ?_⟩
  · have e2 : u.nodes[1 + (nodesL (u.kids.take n)).length]? = some k := by
      rw [nodes_eq, Nat.add_comm, List.getElem?_cons_succ]; exact h4
    rw [← g1, List.getElem?_take] at e2
    split at e2
    · rw [List.getElem?_drop] at e2; rw [e]; exact e2
    · cases e2
  · rw [card_eq u]; omega
/-- Of two Kids the first ends where the second begins, or ahead. -/
theorem kid_lt {l : List Tree} {i n m : Nat} {x y : Int} {k : Tree} (hx : (posL i l)[n]? = some x) (hk : l[n]? = some k) (hy : (posL i l)[m]? = some y) (h : n < m) : x + k.card ≤ y := by
  obtain ⟨k1, a1, a2, a3⟩ := posL_get _ _ _ _ hx
  obtain ⟨k2, b1, b2, b3⟩ := posL_get _ _ _ _ hy
  have : (nodesL (l.take n)).length + k.card ≤ (nodesL (l.take m)).length := by
    have e : l.take m = l.take n ++ k :: (l.drop (n + 1)).take (m - n - 1) := by
      have hn : n < l.length := by
        rcases Nat.lt_or_ge n l.length with q | q
        · exact q
        · rw [List.getElem?_eq_none q] at hk; cases hk
      rw [List.getElem?_eq_getElem hn, Option.some.injEq] at hk
      have : m = n + (1 + (m - n - 1)) := by omega
      conv => lhs; rw [this, List.take_add, List.drop_eq_getElem_cons hn, hk, Nat.add_comm 1, List.take_succ_cons]
    rw [e, nodesL_append, nodesL_cons, List.length_append, List.length_append]; show _ + k.nodes.length ≤ _; omega
  omega
end Go.Proofs.YtabojfgmbfnoiaaGreatDoor
end
