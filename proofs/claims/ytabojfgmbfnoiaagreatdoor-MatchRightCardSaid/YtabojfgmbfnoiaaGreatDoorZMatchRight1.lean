/- Proof of MatchRight, part 1 of 6: heaps, states and the rules of operations. -/
import Derived.Calls
import Derived.Orders
import Derived.Tactics
import Derived.WalkKit
import Derived.Maps.AppendAt
import Derived.IntWalk
import Derived.Laws.StructEq
import Derived.Laws.IdiomCopy
import Derived.Laws.AppendOwnNone
import Derived.Laws.MakeOwn
import Derived.Laws.IdiomStrings
import Derived.Scope
import Derived.MapKept
section
/- Symbolic states over the machine's memory: data-level values (SVal), what represents them (Rep), lists of disjoint heap assertions (HA, Holds). Plain definitions and theorems; no statement of the seat is proved here. -/
set_option linter.unusedVariables false
set_option linter.unusedSimpArgs false
namespace Go.Proofs.YtabojfgmbfnoiaaGreatDoor
/-! ### Data -/
inductive Tree where
  | mk (kind : Int) (text trail : ByteArray) (kids : List Tree)
  deriving Inhabited
namespace Tree
def kind : Tree → Int | mk k _ _ _ => k
def text : Tree → ByteArray | mk _ t _ _ => t
def trail : Tree → ByteArray | mk _ _ r _ => r
def kids : Tree → List Tree | mk _ _ _ l => l
end Tree
/-- Five numbers and two texts: facts and edits. -/
structure R7 where
  a : Int
  b : Int
  c : Int
  d : Int
  e : Int
  s : ByteArray
  t : ByteArray
  deriving Inhabited, DecidableEq
structure Tok where
  kind : Int
  text : ByteArray
  at_ : Int
  first : Bool
  deriving Inhabited, DecidableEq
structure Unt where
  clean : Bool
  items : List Tree
  s0 : List Tree
  s1 : List Tree
  s2 : List Tree
  deriving Inhabited
structure Chk where
  sort : Int
  b0 : Int
  b1 : Int
  o0 : Int
  o1 : Int
  t0 : Int
  t1 : Int
  deriving Inhabited, DecidableEq
structure Leaf where
  id : Int
  kind : Int
  text : ByteArray
  trail : ByteArray
  nkids : List Tree
  kids : List Int
  deriving Inhabited
/-- Kinds of elements. -/
inductive EK where
  | int | u8 | str | bool | val | node | pair | ints | nodes | strs | r7 | r7s | tok | unit | chunk | leaf
  deriving DecidableEq, Repr
abbrev EK.T : EK → Type
  | .int => Int
  | .u8 => UInt8
  | .str => ByteArray
  | .bool => Bool
  | .val => Value
  | .node => Tree
  | .pair => Int × Int
  | .ints => List Int
  | .nodes => List Tree
  | .strs => List ByteArray
  | .r7 => R7
  | .r7s => List R7
  | .tok => Tok
  | .unit => Unt
  | .chunk => Chk
  | .leaf => Leaf
abbrev EK.size : EK → Nat
  | .int | .u8 | .str | .bool | .val | .ints | .nodes | .strs | .r7s => 1
  | .node => 4
  | .pair => 2
  | .r7 => 7
  | .tok => 4
  | .unit => 5
  | .chunk => 7
  | .leaf => 6
inductive SVal where
  | val (v : Value)
  | isl (k : EK) (xs : List k.T)
  | ipt (k : EK) (x : k.T) (off : Nat)
  | opt (v : Value) (off : Nat)
  | agg (cs : List SVal)
  | tup (vs : List SVal)
instance : Inhabited SVal := ⟨.val undef⟩
abbrev sI (n : Int) : SVal := .val (.int .i64 n)
abbrev sB (b : Bool) : SVal := .val (.bool b)
abbrev sS (s : ByteArray) : SVal := .val (.string s)
abbrev sP (b o : Nat) : SVal := .val (.pointer (some ⟨b, o, none⟩))
abbrev EK.view : (k : EK) → k.T → List SVal
  | .int, n => [sI n]
  | .u8, n => [.val (.int .u8 (n.toNat : Int))]
  | .str, s => [sS s]
  | .bool, b => [sB b]
  | .val, v => [.val v]
  | .node, t => [sI t.kind, sS t.text, sS t.trail, .isl .node t.kids]
  | .pair, p => [sI p.1, sI p.2]
  | .ints, l => [.isl .int l]
  | .nodes, l => [.isl .node l]
  | .strs, l => [.isl .str l]
  | .r7, x => [sI x.a, sI x.b, sI x.c, sI x.d, sI x.e, sS x.s, sS x.t]
  | .r7s, l => [.isl .r7 l]
  | .tok, x => [sI x.kind, sS x.text, sI x.at_, sB x.first]
  | .unit, x => [sB x.clean, .isl .node x.items, .isl .node x.s0, .isl .node x.s1, .isl .node x.s2]
  | .chunk, x => [sI x.sort, sI x.b0, sI x.b1, sI x.o0, sI x.o1, sI x.t0, sI x.t1]
  | .leaf, x => [sI x.id, sI x.kind, sS x.text, sS x.trail, .isl .node x.nkids, .isl .int x.kids]
theorem EK.view_length (k : EK) (x : k.T) : (k.view x).length = k.size := by cases k <;> rfl
theorem EK.size_pos (k : EK) : 0 < k.size := by cases k <;> decide
/-! ### Partial heaps -/
abbrev Hp := Nat → Option Obj
def Hp.le (a b : Hp) : Prop := ∀ k o, a k = some o → b k = some o
def Hp.disj (a b : Hp) : Prop := ∀ k, a k = none ∨ b k = none
def Hp.emp : Hp := fun _ => none
def Hp.one (b : Nat) (o : Obj) : Hp := fun k => if k = b then some o else none
def Hp.or (a b : Hp) : Hp := fun k => match a k with | some o => some o | none => b k
def Hp.cell (φ : Hp) (a : Addr) : Option Value :=
  match φ a.block with
  | some (.cells c _ _) => if a.spot.isSome then none else c[a.off]?
  | _ => none
theorem Hp.le.refl (a : Hp) : a.le a := fun _ _ h => h
theorem Hp.le.trans {a b c : Hp} (h : a.le b) (k : b.le c) : a.le c := fun x o hx => k x o (h x o hx)
theorem Hp.le_or (a b : Hp) : a.le (a.or b) := fun k o h => by simp [Hp.or, h]
theorem Hp.disj.symm {a b : Hp} (h : a.disj b) : b.disj a := fun k => (h k).symm
theorem Hp.cell_le {a b : Hp} (h : a.le b) {x : Addr} {v : Value} (hc : a.cell x = some v) : b.cell x = some v := by
  unfold Hp.cell at *
  cases ha : a x.block with
  | none => simp [ha] at hc
  | some o => rw [h _ _ ha]; rw [ha] at hc; exact hc
/-! ### What represents a value, memory that no longer changes being φ -/
inductive Rep (φ : Hp) : SVal → Value → Prop where
  | val (v : Value) : Rep φ (.val v) v
  | isl (k : EK) (xs : List k.T) (A : Option Addr) (c : Nat) (hc : xs.length ≤ c) (hm : c ≤ maxLen) (hA : 0 < xs.length → ∃ ad, A = some ad)
      (u : Nat → Nat → Value)
      (hu : ∀ ad, A = some ad → ∀ i (hi : i < xs.length) j, j < k.size → φ.cell (ad.add (i * k.size + j)) = some (u i j))
      (hr : ∀ i (hi : i < xs.length) j (hj : j < k.size), Rep φ ((k.view xs[i])[j]'(by rw [EK.view_length]; exact hj)) (u i j)) : Rep φ (.isl k xs) (.slice A xs.length c)
  | ipt (k : EK) (x : k.T) (off : Nat) (a0 : Addr) (u : Nat → Value) (hu : ∀ j, j < k.size → φ.cell (a0.add j) = some (u j))
      (hr : ∀ j (hj : j < k.size), Rep φ ((k.view x)[j]'(by rw [EK.view_length]; exact hj)) (u j)) : Rep φ (.ipt k x off) (.pointer (some (a0.add off)))
  | opt (b n c off : Nat) : Rep φ (.opt (.slice (some ⟨b, 0, none⟩) n c) off) (.pointer (some ⟨b, off, none⟩))
  | agg (cs : List SVal) (vs : Array Value) (hl : vs.size = cs.length) (hr : ∀ i (h : i < cs.length), Rep φ cs[i] (vs[i]'(by omega))) : Rep φ (.agg cs) (.agg vs)
  | tup (cs : List SVal) (vs : Array Value) (hl : vs.size = cs.length) (hr : ∀ i (h : i < cs.length), Rep φ cs[i] (vs[i]'(by omega))) : Rep φ (.tup cs) (.tuple vs)
theorem Rep.mono {φ φ' : Hp} (h : φ.le φ') {s : SVal} {v : Value} (hr : Rep φ s v) : Rep φ' s v := by
  induction hr with
  | val v => exact .val v
  | isl k xs A c hc hm hA u hu hr ih => exact .isl k xs A c hc hm hA u (fun ad e i hi j hj => Hp.cell_le h (hu ad e i hi j hj)) ih
  | ipt k x off a0 u hu hr ih => exact .ipt k x off a0 u (fun j hj => Hp.cell_le h (hu j hj)) ih
  | opt b n c off => exact .opt b n c off
  | agg cs vs hl hr ih => exact .agg cs vs hl ih
  | tup cs vs hl hr ih => exact .tup cs vs hl ih
theorem Rep.val_eq {φ : Hp} {v u : Value} (h : Rep φ (.val v) u) : u = v := by cases h; rfl
/-- Cells one by one. -/
def RepL (φ : Hp) (cs : List SVal) (vs : List Value) : Prop := vs.length = cs.length ∧ ∀ i (h : i < cs.length) (h' : i < vs.length), Rep φ cs[i] vs[i]
theorem RepL.mono {φ φ' : Hp} (h : φ.le φ') {cs : List SVal} {vs : List Value} (hr : RepL φ cs vs) : RepL φ' cs vs := ⟨hr.1, fun i h1 h2 => (hr.2 i h1 h2).mono h⟩
/-! ### Heap assertions -/
structure HA where
  p : Hp → Hp → Prop
  mono : ∀ {φ φ' h : Hp}, φ.le φ' → p φ h → p φ' h
/-- Whole heaps: what no longer changes (φ), and disjoint parts; 'w0' is the world in which all began. -/
structure Good (w0 : World) (φ : Hp) (hs : List Hp) (w : World) : Prop where
  os : w.os = w0.os
  tape : w.tape = w0.tape
  output : w.output = w0.output
  size : w0.heap.size ≤ w.heap.size
  base : ∀ k, k < w0.heap.size → φ k = w0.heap[k]?
  agree : ∀ h ∈ φ :: hs, ∀ k o, h k = some o → w.heap[k]? = some o
  disj : (φ :: hs).Pairwise Hp.disj
def Sat (φ : Hp) : List HA → List Hp → Prop
  | [], [] => True
  | A :: H, h :: hs => A.p φ h ∧ Sat φ H hs
  | _, _ => False
theorem Sat.cons_inv {φ : Hp} {A : HA} {H : List HA} {hs : List Hp} (h : Sat φ (A :: H) hs) : ∃ h0 hs0, hs = h0 :: hs0 ∧ A.p φ h0 ∧ Sat φ H hs0 := by
  cases hs with
  | nil => exact h.elim
  | cons h0 hs0 => exact ⟨h0, hs0, rfl, h.1, h.2⟩
def Mono (X : Hp → Prop) : Prop := ∀ φ φ', Hp.le φ φ' → X φ → X φ'
def Holds (w0 : World) (H : List HA) (w : World) (X : Hp → Prop) : Prop := ∃ φ hs, Good w0 φ hs w ∧ Sat φ H hs ∧ X φ
theorem Sat.mono {φ φ' : Hp} (h : φ.le φ') : ∀ {H : List HA} {hs : List Hp}, Sat φ H hs → Sat φ' H hs
  | [], [], _ => trivial
  | A :: _, _ :: _, hs' => ⟨A.mono h hs'.1, Sat.mono h hs'.2⟩
theorem Holds.imp {w0 w : World} {H : List HA} {X Y : Hp → Prop} (h : Holds w0 H w X) (hXY : ∀ φ, X φ → Y φ) : Holds w0 H w Y := let ⟨φ, hs, g, s, x⟩ := h; ⟨φ, hs, g, s, hXY _ x⟩
theorem Good.fresh {w0 w : World} {φ : Hp} {hs : List Hp} (g : Good w0 φ hs w) {h : Hp} (hh : h ∈ φ :: hs) : h w.heap.size = none := by
  cases e : h w.heap.size with
  | none => rfl
  | some o =>
    have := g.agree h hh _ _ e
    have := (Array.getElem?_eq_some_iff.1 this).1
    omega
/-- A draw, or whatever leaves heap and streams alone. -/
theorem Good.same {w0 w w' : World} {φ : Hp} {hs : List Hp} (g : Good w0 φ hs w) (h : w'.heap = w.heap) (ho : w'.os = w.os) (ht : w'.tape = w.tape) (hp : w'.output = w.output) : Good w0 φ hs w' :=
  ⟨ho.trans g.os, ht.trans g.tape, hp.trans g.output, by rw [h]; exact g.size, g.base, by rw [h]; exact g.agree, g.disj⟩
theorem Holds.same {w0 w w' : World} {H : List HA} {X : Hp → Prop} (g : Holds w0 H w X) (h : w'.heap = w.heap) (ho : w'.os = w.os) (ht : w'.tape = w.tape) (hp : w'.output = w.output) : Holds w0 H w' X :=
  let ⟨φ, hs, g, s, x⟩ := g; ⟨φ, hs, g.same h ho ht hp, s, x⟩
theorem Holds.drew {w0 w : World} {H : List HA} {X : Hp → Prop} (g : Holds w0 H w X) : Holds w0 H { w with drawn := w.drawn + 1 } X := g.same rfl rfl rfl rfl
/-- A new block, as a part of its own. -/
theorem Good.alloc {w0 w : World} {φ : Hp} {hs : List Hp} (g : Good w0 φ hs w) (o : Obj) : Good w0 φ (.one w.heap.size o :: hs) { w with heap := w.heap.push o } := by
  refine ⟨g.os, g.tape, g.output, by have := g.size; simp; omega, g.base, ?_, ?_⟩
  · intro h hh k o' hk
    have old : ∀ h ∈ φ :: hs, h k = some o' → (w.heap.push o)[k]? = some o' := by
      intro h hh hk
      have h1 := g.agree h hh k o' hk
      have h2 := (Array.getElem?_eq_some_iff.1 h1).1
      show (w.heap.push o)[k]? = _
      rw [Array.getElem?_push, if_neg (by omega)]; exact h1
    rcases List.mem_cons.1 hh with rfl | hh
    · exact old _ (List.mem_cons_self ..) hk
    rcases List.mem_cons.1 hh with rfl | hh
    · unfold Hp.one at hk
      split at hk
      · rename_i e; subst e
        injection hk with hk; subst hk
        show (w.heap.push o)[w.heap.size]? = _
        simp
      · cases hk
    · exact old _ (List.mem_cons_of_mem _ hh) hk
  · have hd := g.disj
    have fresh : ∀ h ∈ φ :: hs, Hp.disj (.one w.heap.size o) h := by
      intro h hh k
      by_cases e : k = w.heap.size
      · subst e; exact .inr (g.fresh hh)
      · left; simp [Hp.one, e]
    rw [List.pairwise_cons] at hd ⊢
    refine ⟨?_, ?_⟩
    · intro h hh
      rcases List.mem_cons.1 hh with rfl | hh
      · exact (fresh φ (List.mem_cons_self ..)).symm
      · exact hd.1 h hh
    · rw [List.pairwise_cons]
      exact ⟨fun h hh => fresh h (List.mem_cons_of_mem _ hh), hd.2⟩
/-- One part's block is another object now. -/
theorem Good.set {w0 w w' : World} {φ h h' : Hp} {hs : List Hp} (g : Good w0 φ (h :: hs) w) (hd : ∀ k, h' k ≠ none → h k ≠ none ∨ w.heap.size ≤ k)
    (ho : w'.os = w.os) (ht : w'.tape = w.tape) (hp : w'.output = w.output) (hz : w.heap.size ≤ w'.heap.size)
    (hw : ∀ k o, h' k = some o → w'.heap[k]? = some o) (hold : ∀ k, k < w.heap.size → h k = none → w'.heap[k]? = w.heap[k]?) : Good w0 φ (h' :: hs) w' := by
  have sep : ∀ q ∈ φ :: hs, ∀ k o, q k = some o → h k = none ∧ k < w.heap.size := by
    intro q hq k o hk
    have hdj := g.disj
    refine ⟨?_, ?_⟩
    · rcases List.mem_cons.1 hq with rfl | hq
      · rw [List.pairwise_cons] at hdj
        rcases hdj.1 h (List.mem_cons_self ..) k with h1 | h1
        · rw [h1] at hk; cases hk
        · exact h1
      · rw [List.pairwise_cons, List.pairwise_cons] at hdj
        rcases hdj.2.1 q hq k with h1 | h1
        · exact h1
        · rw [h1] at hk; cases hk
    · have := g.agree q (by rcases List.mem_cons.1 hq with rfl | hq; exact List.mem_cons_self ..; exact List.mem_cons_of_mem _ (List.mem_cons_of_mem _ hq)) k o hk
      exact (Array.getElem?_eq_some_iff.1 this).1
  have newd : ∀ q ∈ φ :: hs, Hp.disj h' q := by
    intro q hq k
    cases e : q k with
    | none => exact .inr rfl
    | some o =>
      left
      obtain ⟨h1, h2⟩ := sep q hq k o e
      cases e' : h' k with
      | none => rfl
      | some o' =>
        rcases hd k (by rw [e']; simp) with h3 | h3
        · exact absurd h1 h3
        · omega
  refine ⟨ho.trans g.os, ht.trans g.tape, hp.trans g.output, Nat.le_trans g.size hz, g.base, ?_, ?_⟩
  · intro q hq k o hk
    rcases List.mem_cons.1 hq with rfl | hq
    · obtain ⟨h1, h2⟩ := sep _ (List.mem_cons_self ..) k o hk
      rw [hold k h2 h1]; exact g.agree _ (List.mem_cons_self ..) k o hk
    rcases List.mem_cons.1 hq with rfl | hq
    · exact hw k o hk
    · obtain ⟨h1, h2⟩ := sep q (List.mem_cons_of_mem _ hq) k o hk
      rw [hold k h2 h1]; exact g.agree _ (List.mem_cons_of_mem _ (List.mem_cons_of_mem _ hq)) k o hk
  · have hdj := g.disj
    rw [List.pairwise_cons, List.pairwise_cons] at hdj
    rw [List.pairwise_cons, List.pairwise_cons]
    refine ⟨?_, fun q hq => newd q (List.mem_cons_of_mem _ hq), hdj.2.2⟩
    intro q hq
    rcases List.mem_cons.1 hq with rfl | hq
    · exact (newd φ (List.mem_cons_self ..)).symm
    · exact hdj.1 q (List.mem_cons_of_mem _ hq)
/-- A part joins what no longer changes. -/
theorem Good.freeze {w0 w : World} {φ h : Hp} {hs : List Hp} (g : Good w0 φ (h :: hs) w) : Good w0 (φ.or h) hs w := by
  have hdj := g.disj
  rw [List.pairwise_cons, List.pairwise_cons] at hdj
  refine ⟨g.os, g.tape, g.output, g.size, ?_, ?_, ?_⟩
  · intro k hk
    have := g.base k hk
    simp only [Hp.or]
    rw [this]
    have : k < w0.heap.size := hk
    simp [this]
  · intro q hq k o hk
    rcases List.mem_cons.1 hq with rfl | hq
    · simp only [Hp.or] at hk
      cases e : φ k with
      | some o' => rw [e] at hk; injection hk with hk; subst hk; exact g.agree φ (List.mem_cons_self ..) k _ e
      | none => rw [e] at hk; exact g.agree h (List.mem_cons_of_mem _ (List.mem_cons_self ..)) k o hk
    · exact g.agree q (List.mem_cons_of_mem _ (List.mem_cons_of_mem _ hq)) k o hk
  · rw [List.pairwise_cons]
    refine ⟨fun q hq k => ?_, hdj.2.2⟩
    rcases hdj.1 q (List.mem_cons_of_mem _ hq) k with h1 | h1
    · rcases hdj.2.1 q hq k with h2 | h2
      · left; simp [Hp.or, h1, h2]
      · exact .inr h2
    · exact .inr h1
/-- The parts in another order. -/
theorem Sat.perm {φ : Hp} {H H' : List HA} (hp : H.Perm H') : ∀ {hs : List Hp}, Sat φ H hs → ∃ hs', hs.Perm hs' ∧ Sat φ H' hs' := by
  induction hp with
  | nil => intro hs h; exact ⟨hs, .refl _, h⟩
  | cons x _ ih =>
    intro hs h
    obtain ⟨h0, hs0, rfl, a, t⟩ := h.cons_inv
    obtain ⟨hs', p, s⟩ := ih t
    exact ⟨_, .cons _ p, a, s⟩
  | swap x y l =>
    intro hs h
    obtain ⟨h0, hs0, rfl, a, t⟩ := h.cons_inv
    obtain ⟨h1, hs1, rfl, b, t⟩ := t.cons_inv
    exact ⟨_, .swap _ _ _, b, a, t⟩
  | trans _ _ ih1 ih2 =>
    intro hs h
    obtain ⟨h1, p1, s1⟩ := ih1 h
    obtain ⟨h2, p2, s2⟩ := ih2 s1
    exact ⟨h2, p1.trans p2, s2⟩
theorem Good.perm {w0 w : World} {φ : Hp} {hs hs' : List Hp} (g : Good w0 φ hs w) (p : hs.Perm hs') : Good w0 φ hs' w :=
  ⟨g.os, g.tape, g.output, g.size, g.base, fun h hh => g.agree h (by
    rcases List.mem_cons.1 hh with rfl | hh
    · exact List.mem_cons_self ..
    · exact List.mem_cons_of_mem _ (p.mem_iff.2 hh)), (p.cons φ).pairwise g.disj (fun {_ _} h => Hp.disj.symm h)⟩
theorem Holds.perm {w0 w : World} {H H' : List HA} {X : Hp → Prop} (h : Holds w0 H w X) (p : H.Perm H') : Holds w0 H' w X := by
  obtain ⟨φ, hs, g, s, x⟩ := h
  obtain ⟨hs', p', s'⟩ := Sat.perm p s
  exact ⟨φ, hs', g.perm p', s', x⟩
end Go.Proofs.YtabojfgmbfnoiaaGreatDoor
end
section
/- Operations over symbolic states: what one operation does (OpS), a row of operations (WPL), code (WP). -/
set_option linter.unusedVariables false
set_option linter.unusedSimpArgs false
namespace Go.Proofs.YtabojfgmbfnoiaaGreatDoor
abbrev Env := List (Nat × SVal)
def Env.get : Env → Nat → Option SVal
  | [], _ => none
  | p :: e, k => bif Nat.beq p.1 k then some p.2 else Env.get e k
def Env.put (e : Env) : Option Tmp → SVal → Env
  | some d, s => (d, s) :: e
  | none, _ => e
def look (e : Env) : Operand → Option SVal
  | .tmp t => e.get t
  | .const v => some (.val v)
  | .global g => some (.val (.pointer (some ⟨g, 0, none⟩)))
  | .func f => some (.val (.func (.func f) #[] #[]))
def EnvRep (φ : Hp) (e : Env) (a : Act) : Prop := ∀ k s, e.get k = some s → Rep φ s (a.tmps.getD k undef)
theorem EnvRep.mono {φ φ' : Hp} (h : φ.le φ') {e : Env} {a : Act} (he : EnvRep φ e a) : EnvRep φ' e a := fun k s hk => (he k s hk).mono h
theorem EnvRep.look {φ : Hp} {e : Env} {a : Act} (he : EnvRep φ e a) {x : Operand} {s : SVal} (h : look e x = some s) : Rep φ s (a.eval x) := by
  cases x with
  | tmp t => exact he t s h
  | const v => injection h with h; subst h; exact .val v
  | global g => injection h with h; subst h; exact .val _
  | func f => injection h with h; subst h; exact .val _
theorem EnvRep.put {φ : Hp} {e : Env} {a : Act} (he : EnvRep φ e a) (dst : Option Tmp) {s : SVal} {v : Value} (hv : Rep φ s v) (hd : ∀ d, dst = some d → d < a.tmps.size) : EnvRep φ (e.put dst s) (a.put dst v) := by
  cases dst with
  | none => exact he
  | some d =>
    have hd := hd d rfl
    intro k s' hk
    simp only [Env.put, Env.get] at hk
    cases hb : Nat.beq d k with
    | true =>
      rw [hb] at hk
      injection hk with hk
      have : d = k := Nat.eq_of_beq_eq_true hb
      subst this; subst hk
      simpa [Act.put, Array.getD_eq_getD_getElem?, Array.getElem?_setIfInBounds, hd] using hv
    | false =>
      rw [hb] at hk
      have : d ≠ k := Nat.ne_of_beq_eq_false hb
      have h1 := he k s' hk
      simpa [Act.put, Array.getD_eq_getD_getElem?, Array.getElem?_setIfInBounds, this] using h1
/-- What stays the same through a function: where all began, the program, what the caller keeps. -/
structure Cx where
  w0 : World
  P : Program
  X : Hp → Prop
  mono : Mono X
  n : Nat
def OpS (w0 : World) (P : Program) (o : Oper) (E : Env) (M : List HA) (K : SVal → List HA → Prop) : Prop :=
  ∀ (X : Hp → Prop), Mono X → ∀ a w, Holds w0 M w (fun φ => EnvRep φ E a ∧ X φ) → ∀ Q,
    o.wp P a w (fun a' w' => ∃ v s M', a' = a.put o.dst v ∧ K s M' ∧ Holds w0 M' w' (fun φ => Rep φ s v ∧ X φ)) Q
def Cx.Den (Γ : Cx) (E : Env) (M : List HA) (a : Act) (w : World) : Prop := a.tmps.size = Γ.n ∧ a.defers = [] ∧ Holds Γ.w0 M w (fun φ => EnvRep φ E a ∧ Γ.X φ)
abbrev Post := Exit → Env → List HA → Prop
def WP (Γ : Cx) (c : Code) (E : Env) (M : List HA) (Q : Post) : Prop := ∀ a w, Γ.Den E M a w → c.wp Γ.P (fun e a' w' => ∃ E' M', Q e E' M' ∧ Γ.Den E' M' a' w') a w
def WPL (Γ : Cx) (ops : Array Oper) (l : List Oper) (E : Env) (M : List HA) (Q : Env → List HA → Prop) : Prop := ∀ a w, Γ.Den E M a w → wpList Γ.P ops (fun e a' w' => e = .normal ∧ ∃ E' M', Q E' M' ∧ Γ.Den E' M' a' w') l a w
theorem OpS.imp {w0 : World} {P : Program} {o : Oper} {E : Env} {M : List HA} {K K' : SVal → List HA → Prop} (h : OpS w0 P o E M K) (hk : ∀ s H, K s H → K' s H) : OpS w0 P o E M K' :=
  fun X hX a w hd Q => Oper.wp_mono (fun a' w' ⟨v, s, H', e, k, r⟩ => ⟨v, s, H', e, hk _ _ k, r⟩) (h X hX a w hd Q)
/-- A state that says less. -/
def Le (E : Env) (M : List HA) (E' : Env) (M' : List HA) : Prop := M = M' ∧ ∀ k s, E'.get k = some s → E.get k = some s
theorem Cx.Den.le {Γ : Cx} {E E' : Env} {M M' : List HA} {a : Act} {w : World} (h : Γ.Den E M a w) (hl : Le E M E' M') : Γ.Den E' M' a w :=
  ⟨h.1, h.2.1, hl.1 ▸ h.2.2.imp fun φ hx => ⟨fun k s hk => hx.1 k s (hl.2 k s hk), hx.2⟩⟩
def Env.le (e : Env) : Env → Prop
  | [] => True
  | p :: r => e.get p.1 = some p.2 ∧ Env.le e r
theorem Env.le.get {e : Env} : ∀ {e' : Env}, Env.le e e' → ∀ k s, e'.get k = some s → e.get k = some s
  | [], _, k, s, h => by simp [Env.get] at h
  | p :: r, hl, k, s, h => by
    simp only [Env.get] at h
    cases hb : Nat.beq p.1 k with
    | true =>
      rw [hb] at h
      injection h with h
      have : p.1 = k := Nat.eq_of_beq_eq_true hb
      rw [← this, ← h]; exact hl.1
    | false => rw [hb] at h; exact hl.2.get k s h
theorem Le.mk {E E' : Env} {M M' : List HA} (hh : M = M') (he : Env.le E E') : Le E M E' M' := ⟨hh, fun k s h => he.get k s h⟩
section
variable {Γ : Cx} {ops : Array Oper} {rest : List Oper} {E : Env} {M : List HA} {Q : Env → List HA → Prop} {d : Tmp} {op : Op} {ty : TypeId} {pos : String} {af : Array Edge}
theorem W_nil (h : Q E M) : WPL Γ ops [] E M Q := fun a w hd => ⟨rfl, E, M, h, hd⟩
theorem den_put {o : Oper} {a : Act} {w w' : World} {M' : List HA} {s : SVal} {v : Value} (hd : Γ.Den E M a w) (hn : ∀ d, o.dst = some d → d < Γ.n)
    (hh : Holds Γ.w0 M' w' (fun φ => Rep φ s v ∧ EnvRep φ E a ∧ Γ.X φ)) : Γ.Den (E.put o.dst s) M' (a.put o.dst v) w' :=
  ⟨by cases o.dst <;> simp [Act.put, hd.1], by cases o.dst <;> simp [Act.put, hd.2.1], hh.imp fun φ hx => ⟨hx.2.1.put o.dst hx.1 (fun d e => by rw [hd.1]; exact hn d e), hx.2.2⟩⟩
theorem W_any {o : Oper} (hg : o.guard = none) (hn : ∀ d, o.dst = some d → d < Γ.n) (h : OpS Γ.w0 Γ.P o E M fun s M' => WPL Γ ops rest (E.put o.dst s) M' Q) : WPL Γ ops (o :: rest) E M Q := by
  intro a w hd
  refine wpList_plain hg fun K hK => ?_
  have h1 := h (fun φ => EnvRep φ E a ∧ Γ.X φ) (fun φ φ' hl hx => ⟨hx.1.mono hl, Γ.mono _ _ hl hx.2⟩) a w (hd.2.2.imp fun φ hx => ⟨hx.1, hx.1, hx.2⟩)
  refine Oper.wp_mono ?_ (h1 _)
  rintro a' w' ⟨v, s, H', rfl, hk, hh⟩
  exact hK _ _ (hk _ _ (den_put hd hn hh))
theorem lt_of_blt {m n : Nat} (h : Nat.blt m n = true) : m < n := Nat.le_of_ble_eq_true h
/-- An operation with a place for its value; one without. -/
theorem W (hn : Nat.blt d Γ.n = true) (h : OpS Γ.w0 Γ.P ⟨some d, op, ty, pos, af, none⟩ E M fun s M' => WPL Γ ops rest ((d, s) :: E) M' Q) : WPL Γ ops (⟨some d, op, ty, pos, af, none⟩ :: rest) E M Q :=
  W_any rfl (fun d' e => by injection e with e; subst e; exact lt_of_blt hn) h
theorem Wn (h : OpS Γ.w0 Γ.P ⟨none, op, ty, pos, af, none⟩ E M fun s M' => WPL Γ ops rest E M' Q) : WPL Γ ops (⟨none, op, ty, pos, af, none⟩ :: rest) E M Q :=
  W_any rfl (fun d' e => by cases e) h
/-- A guarded operation. -/
theorem Wg_any {o : Oper} {j : Nat} {want b : Bool} {oj : Oper} {dj : Tmp} (hg : o.guard = some (j, want)) (hj : ops[j]? = some oj) (hdj : oj.dst = some dj) (hb : E.get dj = some (sB b)) (hn : ∀ d, o.dst = some d → d < Γ.n) (hjn : Nat.blt dj Γ.n = true)
    (h : b = want → OpS Γ.w0 Γ.P o E M fun s M' => WPL Γ ops rest (E.put o.dst s) M' Q)
    (h' : b ≠ want → WPL Γ ops rest (E.put o.dst (.val undef)) M Q) : WPL Γ ops (o :: rest) E M Q := by
  intro a w hd
  have hv : a.tmps.getD dj undef = .bool b := by
    obtain ⟨φ, hs, g, s, hx, _⟩ := hd.2.2
    exact (hx dj _ hb).val_eq
  have hlt : dj < a.tmps.size := by rw [hd.1]; exact lt_of_blt hjn
  have hy : yielded ops a.tmps j = some b := by
    have : a.tmps[dj]? = some (.bool b) := by
      rw [Array.getElem?_eq_getElem hlt]
      rw [Array.getD_eq_getD_getElem?, Array.getElem?_eq_getElem hlt] at hv
      simpa using hv
    simp [yielded, hj, hdj, this]
  have hw : Region.wanted o (yielded ops a.tmps) = (b == want) := by simp [Region.wanted, hg, hy]
  refine wpList_step fun K hK => ?_
  rw [hw]
  by_cases hbw : b = want
  · rw [if_pos (by simp [hbw])]
    have h1 := h hbw (fun φ => EnvRep φ E a ∧ Γ.X φ) (fun φ φ' hl hx => ⟨hx.1.mono hl, Γ.mono _ _ hl hx.2⟩) a w (hd.2.2.imp fun φ hx => ⟨hx.1, hx.1, hx.2⟩)
    refine Oper.wp_mono ?_ (h1 _)
    rintro a' w' ⟨v, s, H', rfl, hk, hh⟩
    exact hK _ _ (hk _ _ (den_put hd hn hh))
  · rw [if_neg (by simp [hbw])]
    exact hK _ _ (h' hbw _ _ (den_put hd hn (hd.2.2.imp fun φ hx => ⟨.val undef, hx.1, hx.2⟩)))
theorem Wg {j : Nat} {want b : Bool} {oj : Oper} {dj : Tmp} (hj : ops[j]? = some oj) (hdj : oj.dst = some dj) (hb : E.get dj = some (sB b)) (hn : Nat.blt d Γ.n = true) (hjn : Nat.blt dj Γ.n = true)
    (h : b = want → OpS Γ.w0 Γ.P ⟨some d, op, ty, pos, af, some (j, want)⟩ E M fun s M' => WPL Γ ops rest ((d, s) :: E) M' Q)
    (h' : b ≠ want → WPL Γ ops rest ((d, .val undef) :: E) M Q) : WPL Γ ops (⟨some d, op, ty, pos, af, some (j, want)⟩ :: rest) E M Q :=
  Wg_any rfl hj hdj hb (fun d' e => by injection e with e; subst e; exact lt_of_blt hn) hjn h h'
/-- The guard is as it wants; it isn't. -/
theorem Wt {j : Nat} {want b : Bool} {oj : Oper} {dj : Tmp} (hj : ops[j]? = some oj) (hdj : oj.dst = some dj) (hb : E.get dj = some (sB b)) (hbw : b = want) (hn : Nat.blt d Γ.n = true) (hjn : Nat.blt dj Γ.n = true)
    (h : OpS Γ.w0 Γ.P ⟨some d, op, ty, pos, af, some (j, want)⟩ E M fun s M' => WPL Γ ops rest ((d, s) :: E) M' Q) : WPL Γ ops (⟨some d, op, ty, pos, af, some (j, want)⟩ :: rest) E M Q :=
  Wg hj hdj hb hn hjn (fun _ => h) (fun h => absurd hbw h)
theorem Wf {j : Nat} {want b : Bool} {oj : Oper} {dj : Tmp} (hj : ops[j]? = some oj) (hdj : oj.dst = some dj) (hb : E.get dj = some (sB b)) (hbw : b ≠ want) (hn : Nat.blt d Γ.n = true) (hjn : Nat.blt dj Γ.n = true)
    (h : WPL Γ ops rest ((d, .val undef) :: E) M Q) : WPL Γ ops (⟨some d, op, ty, pos, af, some (j, want)⟩ :: rest) E M Q :=
  Wg hj hdj hb hn hjn (fun h => absurd h hbw) (fun _ => h)
end
/-! ### Code -/
section
variable {Γ : Cx} {E : Env} {M : List HA} {Q : Post}
def thenQ (R : Env → List HA → Prop) (Q : Post) : Post
  | .normal, E, M => R E M
  | e, E, M => Q e E M
theorem C_region {id : Nat} {l : List Oper} (h : WPL Γ l.toArray l E M (fun E' M' => Q .normal E' M')) : WP Γ (.region id l.toArray false) E M Q :=
  fun a w hd => wp_mono (wp_region_lit (h a w hd)) (by rintro e a' w' ⟨rfl, E', M', q, d⟩; exact ⟨E', M', q, d⟩)
theorem C_seq {x y : Code} (h : WP Γ x E M (thenQ (fun E' M' => WP Γ y E' M' Q) Q)) : WP Γ (.seq x y) E M Q := fun a w hd =>
  wp_seq (wp_mono (h a w hd) (by
    rintro e a' w' ⟨E', M', q, d⟩
    cases e with
    | normal => exact q a' w' d
    | _ => exact ⟨E', M', q, d⟩))
theorem C_skip (h : Q .normal E M) : WP Γ .skip E M Q := fun a w hd => wp_skip ⟨E, M, h, hd⟩
theorem C_label {l : Nat} (h : Q .normal E M) : WP Γ (.label l) E M Q := fun a w hd => wp_label ⟨E, M, h, hd⟩
theorem C_exit {id : Nat} (h : Q (.exit id) E M) : WP Γ (.exit id) E M Q := fun a w hd => wp_exit ⟨E, M, h, hd⟩
theorem C_ret (h : Q .ret E M) : WP Γ .ret E M Q := fun a w hd => wp_ret ⟨E, M, h, hd⟩
theorem C_cond {c : Operand} {x y : Code} {b : Bool} (hc : look E c = some (sB b)) (ht : b = true → WP Γ x E M Q) (hf : b = false → WP Γ y E M Q) : WP Γ (.cond c x y) E M Q := fun a w hd => by
  obtain ⟨φ, hs, g, s, hx, _⟩ := hd.2.2
  exact wp_cond_split ((hx.look hc).val_eq) (fun e => ht e a w hd) (fun e => hf e a w hd)
def blockQ (id : Nat) (Q : Post) : Post
  | .exit id', E, M => bif Nat.beq id' id then Q .normal E M else Q (.exit id') E M
  | e, E, M => Q e E M
theorem C_block {id : Nat} {c : Code} (h : WP Γ c E M (blockQ id Q)) : WP Γ (.block id c) E M Q := fun a w hd =>
  wp_block (wp_mono (h a w hd) (by
    rintro e a' w' ⟨E', M', q, d⟩
    cases e with
    | exit id' =>
      simp only [Exit.inBlock]
      simp only [blockQ] at q
      cases hb : Nat.beq id' id with
      | true =>
        rw [hb] at q
        rw [if_pos (Nat.eq_of_beq_eq_true hb)]; exact ⟨E', M', q, d⟩
      | false =>
        rw [hb] at q
        rw [if_neg (Nat.ne_of_beq_eq_false hb)]; exact ⟨E', M', q, d⟩
    | _ => exact ⟨E', M', q, d⟩))
theorem C_mono {c : Code} {Q' : Post} (h : WP Γ c E M Q) (hq : ∀ e E M, Q e E M → Q' e E M) : WP Γ c E M Q' := fun a w hd => wp_mono (h a w hd) fun e a' w' ⟨E', M', q, d⟩ => ⟨E', M', hq _ _ _ q, d⟩
end
end Go.Proofs.YtabojfgmbfnoiaaGreatDoor
end
section
/- Blocks and rows of a function's own; the operations' rules. -/
set_option linter.unusedVariables false
set_option linter.unusedSimpArgs false
namespace Go.Proofs.YtabojfgmbfnoiaaGreatDoor
/-! ### Parts of the heap -/
theorem Sat.at {φ : Hp} {A : HA} : ∀ {H : List HA} {hs : List Hp} {i : Nat}, Sat φ H hs → H[i]? = some A → ∃ h, h ∈ hs ∧ A.p φ h
  | B :: H, h :: hs, 0, hS, e => by
    injection e with e; subst e; exact ⟨h, List.mem_cons_self .., hS.1⟩
  | B :: H, h :: hs, i + 1, hS, e => by
    obtain ⟨q, hq, hp⟩ := Sat.at (i := i) hS.2 (by simpa using e)
    exact ⟨q, List.mem_cons_of_mem _ hq, hp⟩
  | [], [], i, _, e => by simp at e
  | [], _ :: _, i, hS, _ => hS.elim
  | _ :: _, [], i, hS, _ => hS.elim
theorem perm_front {α : Type} {H : List α} {A : α} {i : Nat} (h : H[i]? = some A) : H.Perm (A :: H.eraseIdx i) := by
  induction H generalizing i with
  | nil => simp at h
  | cons x t ih =>
    cases i with
    | zero => injection h with h; subst h; exact .refl _
    | succ i => exact (List.Perm.cons x (ih (by simpa using h))).trans (.swap _ _ _)
theorem perm_set {α : Type} {H : List α} {A B : α} {i : Nat} (h : H[i]? = some A) : (B :: H.eraseIdx i).Perm (H.set i B) := by
  induction H generalizing i with
  | nil => simp at h
  | cons x t ih =>
    cases i with
    | zero => exact .refl _
    | succ i => exact (List.Perm.swap _ _ _).trans (.cons x (ih (by simpa using h)))
/-- H is A in a frame, C the frame. -/
def InCtx (A : HA) (H : List HA) (C : HA → List HA) : Prop := ∃ R, H.Perm (A :: R) ∧ ∀ A', (A' :: R).Perm (C A')
theorem InCtx.here (A : HA) (t : List HA) : InCtx A (A :: t) (fun A' => A' :: t) := ⟨t, .refl _, fun _ => .refl _⟩
theorem InCtx.there (x : HA) {A : HA} {t : List HA} {C : HA → List HA} (h : InCtx A t C) : InCtx A (x :: t) (fun A' => x :: C A') :=
  let ⟨R, p, q⟩ := h; ⟨x :: R, (List.Perm.cons x p).trans (.swap _ _ _), fun A' => (List.Perm.swap _ _ _).trans (.cons x (q A'))⟩
/-- A of H is gone: H'. -/
inductive Del (A : HA) : List HA → List HA → Prop where
  | here (t : List HA) : Del A (A :: t) t
  | there (x : HA) {t t' : List HA} (h : Del A t t') : Del A (x :: t) (x :: t')
theorem Del.perm {A : HA} {H H' : List HA} (h : Del A H H') : H.Perm (A :: H') := by
  induction h with
  | here t => exact .refl _
  | there x h ih => exact (List.Perm.cons x ih).trans (.swap _ _ _)
theorem Holds.drop {w0 w : World} {A : HA} {H : List HA} {X : Hp → Prop} (h : Holds w0 (A :: H) w X) : Holds w0 H w X := by
  obtain ⟨φ, hs, g, s, x⟩ := h
  obtain ⟨h0, hs0, rfl, a, t⟩ := s.cons_inv
  refine ⟨φ, hs0, ⟨g.os, g.tape, g.output, g.size, g.base, fun q hq => g.agree q ?_, ?_⟩, t, x⟩
  · rcases List.mem_cons.1 hq with rfl | hq
    · exact List.mem_cons_self ..
    · exact List.mem_cons_of_mem _ (List.mem_cons_of_mem _ hq)
  · have := g.disj
    rw [List.pairwise_cons, List.pairwise_cons] at this
    rw [List.pairwise_cons]
    exact ⟨fun q hq => this.1 q (List.mem_cons_of_mem _ hq), this.2.2⟩
/-! ### A block whose cells are told one by one -/
def boxA (b : Nat) (ty : TypeId) (cs : List SVal) : HA where
  p φ h := ∃ vs : Array Value, h = Hp.one b (.cells vs ty (0, 0)) ∧ RepL φ cs vs.toList
  mono hl := fun ⟨vs, e, r⟩ => ⟨vs, e, r.mono hl⟩
/-- A row of the function's own: the slice v (nil, or at the head of a block) holds xs. -/
def ownA (v : Value) (ety : TypeId) (k : EK) (xs : List k.T) : HA where
  p φ h := (v = .slice none 0 0 ∧ xs = [] ∧ h = Hp.emp) ∨ ∃ b cap cur, v = .slice (some ⟨b, 0, none⟩) xs.length cap ∧ h = Hp.one b (.cells cur ety (0, 0)) ∧ xs.length ≤ cap ∧ cap ≤ maxLen ∧
    cur.size = cap * k.size ∧ RepL φ (xs.flatMap k.view) (cur.toList.take (xs.length * k.size))
  mono hl := fun h => h.imp id fun ⟨b, cap, cur, e, eh, h1, h2, h3, r⟩ => ⟨b, cap, cur, e, eh, h1, h2, h3, r.mono hl⟩
class BoxAt (b : Nat) (H : List HA) (ty : outParam TypeId) (cs : outParam (List SVal)) : Prop where
  i : ∃ i : Nat, H[i]? = some (boxA b ty cs)
instance (b : Nat) (ty : TypeId) (cs : List SVal) (t : List HA) : BoxAt b (boxA b ty cs :: t) ty cs := ⟨⟨0, rfl⟩⟩
instance (b : Nat) (ty : TypeId) (cs : List SVal) (x : HA) (t : List HA) [h : BoxAt b t ty cs] : BoxAt b (x :: t) ty cs := ⟨let ⟨i, e⟩ := h.i; ⟨i + 1, by simpa using e⟩⟩
class BoxCtx (b : Nat) (H : List HA) (ty : outParam TypeId) (cs : outParam (List SVal)) (C : outParam (HA → List HA)) : Prop where
  u : InCtx (boxA b ty cs) H C
instance (b : Nat) (ty : TypeId) (cs : List SVal) (t : List HA) : BoxCtx b (boxA b ty cs :: t) ty cs (fun A => A :: t) := ⟨.here _ _⟩
instance (b : Nat) (ty : TypeId) (cs : List SVal) (x : HA) (t : List HA) (C : HA → List HA) [h : BoxCtx b t ty cs C] : BoxCtx b (x :: t) ty cs (fun A => x :: C A) := ⟨.there _ h.u⟩
class OwnAt (v : Value) (H : List HA) (ety : outParam TypeId) (k : outParam EK) (xs : outParam (List k.T)) : Prop where
  i : ∃ i : Nat, H[i]? = some (ownA v ety k xs)
instance (v : Value) (ety : TypeId) (k : EK) (xs : List k.T) (t : List HA) : OwnAt v (ownA v ety k xs :: t) ety k xs := ⟨⟨0, rfl⟩⟩
instance (v : Value) (ety : TypeId) (k : EK) (xs : List k.T) (x : HA) (t : List HA) [h : OwnAt v t ety k xs] : OwnAt v (x :: t) ety k xs := ⟨let ⟨i, e⟩ := h.i; ⟨i + 1, by simpa using e⟩⟩
class OwnCtx (v : Value) (H : List HA) (ety : outParam TypeId) (k : outParam EK) (xs : outParam (List k.T)) (C : outParam (HA → List HA)) : Prop where
  u : InCtx (ownA v ety k xs) H C
instance (v : Value) (ety : TypeId) (k : EK) (xs : List k.T) (t : List HA) : OwnCtx v (ownA v ety k xs :: t) ety k xs (fun A => A :: t) := ⟨.here _ _⟩
instance (v : Value) (ety : TypeId) (k : EK) (xs : List k.T) (x : HA) (t : List HA) (C : HA → List HA) [h : OwnCtx v t ety k xs C] : OwnCtx v (x :: t) ety k xs (fun A => x :: C A) := ⟨.there _ h.u⟩
class BoxDel (b : Nat) (H : List HA) (ty : outParam TypeId) (cs : outParam (List SVal)) (H' : outParam (List HA)) : Prop where
  u : Del (boxA b ty cs) H H'
instance (b : Nat) (ty : TypeId) (cs : List SVal) (t : List HA) : BoxDel b (boxA b ty cs :: t) ty cs t := ⟨.here _⟩
instance (b : Nat) (ty : TypeId) (cs : List SVal) (x : HA) (t t' : List HA) [h : BoxDel b t ty cs t'] : BoxDel b (x :: t) ty cs (x :: t') := ⟨.there _ h.u⟩
class OwnDel (v : Value) (H : List HA) (ety : outParam TypeId) (k : outParam EK) (xs : outParam (List k.T)) (H' : outParam (List HA)) : Prop where
  u : Del (ownA v ety k xs) H H'
instance (v : Value) (ety : TypeId) (k : EK) (xs : List k.T) (t : List HA) : OwnDel v (ownA v ety k xs :: t) ety k xs t := ⟨.here _⟩
instance (v : Value) (ety : TypeId) (k : EK) (xs : List k.T) (x : HA) (t t' : List HA) [h : OwnDel v t ety k xs t'] : OwnDel v (x :: t) ety k xs (x :: t') := ⟨.there _ h.u⟩
/-! ### Lists of cells -/
theorem flat_length (k : EK) (xs : List k.T) : (xs.flatMap k.view).length = xs.length * k.size := by
  induction xs with
  | nil => simp
  | cons x t ih => simp only [List.flatMap_cons, List.length_append, ih, EK.view_length, List.length_cons, Nat.add_mul]; omega
theorem flat_get (k : EK) (xs : List k.T) (i j : Nat) (hi : i < xs.length) (hj : j < k.size) (h : i * k.size + j < (xs.flatMap k.view).length) :
    (xs.flatMap k.view)[i * k.size + j] = (k.view xs[i])[j]'(by rw [EK.view_length]; exact hj) := by
  induction xs generalizing i with
  | nil => simp at hi
  | cons x t ih =>
    cases i with
    | zero =>
      simp only [List.flatMap_cons, List.getElem_cons_zero, Nat.zero_mul, Nat.zero_add]
      rw [List.getElem_append_left (by rw [EK.view_length]; exact hj)]
    | succ i =>
      simp only [List.flatMap_cons, List.getElem_cons_succ]
      have hi' : i < t.length := by simpa using hi
      have hl : (k.view x).length = k.size := EK.view_length k x
      rw [List.getElem_append_right (by rw [hl, Nat.add_mul]; omega)]
      have e : (i + 1) * k.size + j - (k.view x).length = i * k.size + j := by rw [hl, Nat.add_mul]; omega
      simp only [e]
      exact ih i hi' (by
        rw [flat_length]
        have : i * k.size + k.size ≤ t.length * k.size := by rw [← Nat.succ_mul]; exact Nat.mul_le_mul_right _ hi'
        omega)
theorem RepL.append {φ : Hp} {a b : List SVal} {c d : List Value} (h : RepL φ a c) (k : RepL φ b d) : RepL φ (a ++ b) (c ++ d) := by
  refine ⟨by simp [h.1, k.1], fun i h1 h2 => ?_⟩
  by_cases hi : i < a.length
  · rw [List.getElem_append_left hi, List.getElem_append_left (by rw [h.1]; exact hi)]
    exact h.2 i hi _
  · have h3 : ¬ i < c.length := by rw [h.1]; exact hi
    rw [List.getElem_append_right (by omega), List.getElem_append_right (by omega)]
    simp only [h.1]
    exact k.2 _ (by simp at h1; omega) _
theorem RepL.nil {φ : Hp} : RepL φ [] [] := ⟨rfl, fun i h => by simp at h⟩
theorem RepL.get {φ : Hp} {cs : List SVal} {vs : List Value} (h : RepL φ cs vs) {i : Nat} {s : SVal} (hs : cs[i]? = some s) : ∃ v, vs[i]? = some v ∧ Rep φ s v := by
  obtain ⟨h1, rfl⟩ := List.getElem?_eq_some_iff.1 hs
  exact ⟨vs[i]'(by rw [h.1]; exact h1), by simp, h.2 i h1 _⟩
theorem RepL.set {φ : Hp} {cs : List SVal} {vs : List Value} (h : RepL φ cs vs) (i : Nat) {s : SVal} {v : Value} (hv : Rep φ s v) : RepL φ (cs.set i s) (vs.set i v) := by
  refine ⟨by simp [h.1], fun j h1 h2 => ?_⟩
  simp only [List.getElem_set]
  split
  · exact hv
  · exact h.2 j _ _
theorem RepL.of_agg {φ : Hp} {cs : List SVal} {v : Value} (h : Rep φ (.agg cs) v) : ∃ vs, v = .agg vs ∧ RepL φ cs vs.toList := by
  cases h with
  | agg cs vs hl hr => exact ⟨vs, rfl, by simpa using hl, fun i h1 h2 => by simpa using hr i h1⟩
theorem RepL.agg {φ : Hp} {cs : List SVal} {vs : Array Value} (h : RepL φ cs vs.toList) : Rep φ (.agg cs) (.agg vs) :=
  .agg cs vs (by simpa using h.1) fun i hi => by have := h.2 i hi (by rw [h.1]; exact hi); rwa [Array.getElem_toList] at this
theorem RepL.tup {φ : Hp} {cs : List SVal} {vs : Array Value} (h : RepL φ cs vs.toList) : Rep φ (.tup cs) (.tuple vs) :=
  .tup cs vs (by simpa using h.1) fun i hi => by have := h.2 i hi (by rw [h.1]; exact hi); rwa [Array.getElem_toList] at this
theorem RepL.of_tup {φ : Hp} {cs : List SVal} {v : Value} (h : Rep φ (.tup cs) v) : ∃ vs, v = .tuple vs ∧ RepL φ cs vs.toList := by
  cases h with
  | tup cs vs hl hr => exact ⟨vs, rfl, by simpa using hl, fun i h1 h2 => by simpa using hr i h1⟩
/-- A value of one cell. -/
def SVal.one : SVal → Bool
  | .val v => v.oneCell'
  | .agg _ | .tup _ => false
  | _ => true
theorem Rep.one {φ : Hp} {s : SVal} {v : Value} (h : Rep φ s v) (hs : s.one = true) : v.oneCell' = true := by
  cases h with
  | val v => exact hs
  | agg => cases hs
  | tup => cases hs
  | _ => rfl
theorem cells_one {v : Value} (h : v.oneCell' = true) : v.cells = #[v] := by cases v <;> first | rfl | (simp [Value.oneCell'] at h)
/-- The cells of a value. -/
def SVal.cells : SVal → List SVal
  | .agg cs => cs
  | s => [s]
def SVal.whole : SVal → Bool
  | .agg cs => cs.all SVal.one
  | s => s.one
theorem Rep.cells {φ : Hp} {s : SVal} {v : Value} (h : Rep φ s v) (hs : s.whole = true) : RepL φ s.cells v.cells.toList := by
  cases h with
  | agg cs vs hl hr => exact ⟨by rw [Array.length_toList]; exact hl, fun i h1 h2 => by rw [Array.getElem_toList]; exact hr i h1⟩
  | tup => cases hs
  | val v =>
    rw [cells_one hs]
    exact ⟨rfl, fun i h1 h2 => by
      have : i = 0 := by simp at h2; omega
      subst this; exact .val v⟩
  | isl k xs A c hc hm hA u hu hr =>
    exact ⟨rfl, fun i h1 h2 => by
      have : i = 0 := by simp [Value.cells] at h2; omega
      subst this; exact .isl k xs A c hc hm hA u hu hr⟩
  | ipt k x off a0 u hu hr =>
    exact ⟨rfl, fun i h1 h2 => by
      have : i = 0 := by simp [Value.cells] at h2; omega
      subst this; exact .ipt k x off a0 u hu hr⟩
  | opt b n c off =>
    exact ⟨rfl, fun i h1 h2 => by
      have : i = 0 := by simp [Value.cells] at h2; omega
      subst this; exact .opt b n c off⟩
/-! ### Frames of a rule -/
section
variable {w0 : World} {P : Program} {o : Oper} {E : Env} {M : List HA} {K : SVal → List HA → Prop}
/-- The world stays. -/
theorem OpS.read (h : ∀ φ hs a w, Good w0 φ hs w → Sat φ M hs → EnvRep φ E a → ∃ v s, (execOp a.eval o).run P w = .ok (.value v) w ∧ Rep φ s v ∧ K s M) : OpS w0 P o E M K := by
  intro X hX a w ⟨φ, hs, g, s, he, hx⟩ Q
  obtain ⟨v, r, hr, hv, hk⟩ := h φ hs a w g s he
  unfold Oper.wp
  rw [hr, Oper.upon_value]
  exact ⟨v, r, _, rfl, hk, φ, hs, g, s, hv, hx⟩
/-- A value, or none, and another world. -/
theorem OpS.step (h : ∀ (X : Hp → Prop), Mono X → ∀ a w, Holds w0 M w (fun φ => EnvRep φ E a ∧ X φ) → ∃ nx v w' s H', (execOp a.eval o).run P w = .ok nx w' ∧ (nx = .value v ∨ nx = .skip ∧ v = undef) ∧ K s H' ∧
    Holds w0 H' w' (fun φ => Rep φ s v ∧ X φ)) : OpS w0 P o E M K := by
  intro X hX a w hh Q
  obtain ⟨nx, v, w', s, H', hr, hn, hk, hh'⟩ := h X hX a w hh
  unfold Oper.wp
  rw [hr]
  rcases hn with rfl | ⟨rfl, rfl⟩
  · rw [Oper.upon_value]; exact ⟨v, s, H', rfl, hk, hh'⟩
  · rw [Oper.upon_skip]; exact ⟨undef, s, H', rfl, hk, hh'⟩
end
/-! ### Facts of the program's types, asked of the kernel -/
def aggD : TypeDesc → Bool
  | .struct _ | .array _ _ => true
  | _ => false
def aggB (P : Program) (t : TypeId) (n : Nat) : Bool := (match P.underlying t with | some (.struct _) | some (.array _ _) => true | _ => false) && ((P.info? t).map (·.size)) == some n
def oneB (P : Program) (t : TypeId) : Bool := (match P.underlying t with | some (.struct _) | some (.array _ _) | none => false | _ => true) && ((P.info? t).map (·.size)) == some 1
def fldB (P : Program) (t : TypeId) (f off : Nat) : Bool := match P.underlying t with
  | some (.struct fs) => match fs[f]? with
    | some q => q.offset == off && (match P.info? q.type with | some i => i.size != 0 | none => false)
    | none => false
  | _ => false
def slcB (P : Program) (t : TypeId) (n : Nat) : Bool := match P.underlying t with | some (.slice e) => ((P.info? e).map (·.size)) == some n | _ => false
theorem aggB.run {P : Program} {t : TypeId} {n : Nat} (h : aggB P t n = true) : ∃ d i, P.underlying t = some d ∧ aggD d = true ∧ P.info? t = some i ∧ i.size = n := by
  simp only [aggB, Bool.and_eq_true] at h
  obtain ⟨h1, h2⟩ := h
  cases hu : P.underlying t with
  | none => rw [hu] at h1; cases h1
  | some d =>
    have h3 : ((P.info? t).map (·.size)) = some n := by simpa using h2
    obtain ⟨i, hi, e⟩ := Option.map_eq_some_iff.1 h3
    refine ⟨d, i, rfl, ?_, hi, e⟩
    rw [hu] at h1
    cases d <;> first | rfl | exact h1
theorem oneB.run {P : Program} {t : TypeId} (h : oneB P t = true) : ∃ d i, P.underlying t = some d ∧ aggD d = false ∧ P.info? t = some i ∧ i.size = 1 := by
  simp only [oneB, Bool.and_eq_true] at h
  obtain ⟨h1, h2⟩ := h
  cases hu : P.underlying t with
  | none => rw [hu] at h1; cases h1
  | some d =>
    have h3 : ((P.info? t).map (·.size)) = some 1 := by simpa using h2
    obtain ⟨i, hi, e⟩ := Option.map_eq_some_iff.1 h3
    refine ⟨d, i, rfl, ?_, hi, e⟩
    rw [hu] at h1
    cases d <;> first | rfl | (cases h1)
theorem fldB.run {P : Program} {t : TypeId} {f off : Nat} (h : fldB P t f off = true) : ∃ fs q i, P.underlying t = some (.struct fs) ∧ fs[f]? = some q ∧ q.offset = off ∧ P.info? q.type = some i ∧ i.size ≠ 0 := by
  unfold fldB at h
  cases hu : P.underlying t with
  | none => rw [hu] at h; cases h
  | some d =>
    rw [hu] at h
    cases d <;> first | (simp at h; done) | skip
    rename_i fs
    simp only at h
    cases hf : fs[f]? with
    | none => rw [hf] at h; cases h
    | some q =>
      rw [hf] at h
      simp only [Bool.and_eq_true] at h
      obtain ⟨h1, h2⟩ := h
      cases hi : P.info? q.type with
      | none => rw [hi] at h2; cases h2
      | some i => rw [hi] at h2; exact ⟨fs, q, i, rfl, hf, by simpa using h1, hi, by simpa using h2⟩
theorem slcB.run {P : Program} {t : TypeId} {n : Nat} (h : slcB P t n = true) : ∃ e i, P.underlying t = some (.slice e) ∧ P.info? e = some i ∧ i.size = n := by
  unfold slcB at h
  cases hu : P.underlying t with
  | none => rw [hu] at h; cases h
  | some d =>
    rw [hu] at h
    cases d <;> first | (simp at h; done) | skip
    rename_i q
    have h3 : ((P.info? q).map (·.size)) = some n := by simpa using h
    obtain ⟨i, hi, e'⟩ := Option.map_eq_some_iff.1 h3
    exact ⟨q, i, rfl, hi, e'⟩
theorem run_und {P : Program} {t : TypeId} {d : TypeDesc} (h : P.underlying t = some d) (w : World) : (underlying t).run P w = .ok d w := by simp [underlying, h]
theorem run_info {P : Program} {t : TypeId} {i : TypeInfo} (h : P.info? t = some i) (w : World) : (typeInfo t).run P w = .ok i w := by simp [typeInfo, h]
theorem run_size {P : Program} {t : TypeId} {i : TypeInfo} (h : P.info? t = some i) (w : World) : (sizeOf t).run P w = .ok i.size w := by simp [sizeOf, run_info h]
theorem run_isAgg {P : Program} {t : TypeId} {d : TypeDesc} (h : P.underlying t = some d) (w : World) : (isAgg t).run P w = .ok (aggD d) w := by
  simp only [isAgg, Sem.run_bind, run_und h, Result.andThen_ok]
  cases d <;> rfl
/-! ### Pure operations -/
section
variable {w0 : World} {P : Program} {E : Env} {M : List HA} {K : SVal → List HA → Prop} {dst : Option Tmp} {ty : TypeId} {pos : String} {af : Array Edge} {gd : Option (Nat × Bool)}
theorem O_move {x : Operand} {s : SVal} (hx : look E x = some s) (h : K s M) : OpS w0 P ⟨dst, .move x, ty, pos, af, gd⟩ E M K :=
  .read fun φ hs a w g hS he => ⟨_, s, rfl, he.look hx, h⟩
theorem O_assign {x : Operand} {s : SVal} (hx : look E x = some s) (h : K s M) : OpS w0 P ⟨dst, .assign x, ty, pos, af, gd⟩ E M K :=
  .read fun φ hs a w g hS he => ⟨_, s, rfl, he.look hx, h⟩
theorem O_pick {c x y : Operand} {b : Bool} {s : SVal} (hc : look E c = some (sB b)) (hx : b = true → look E x = some s) (hy : b = false → look E y = some s) (h : K s M) : OpS w0 P ⟨dst, .pick c x y, ty, pos, af, gd⟩ E M K :=
  .read fun φ hs a w g hS he => by
    have e := (he.look hc).val_eq
    cases b with
    | true => exact ⟨_, s, by simp [execOp, asBool, e], he.look (hx rfl), h⟩
    | false => exact ⟨_, s, by simp [execOp, asBool, e], he.look (hy rfl), h⟩
theorem O_nilCheck {x : Operand} {s : SVal} (hx : look E x = some s) (hs : ∀ φ v, Rep φ s v → ∃ a, v = .pointer (some a)) (h : K s M) : OpS w0 P ⟨dst, .nilCheck x, ty, pos, af, gd⟩ E M K :=
  .read fun φ _ a w g hS he => by
    obtain ⟨p, e⟩ := hs φ _ (he.look hx)
    exact ⟨_, s, by simp [execOp, e]; rfl, by rw [← e]; exact he.look hx, h⟩
theorem ptr_val (a : Addr) : ∀ φ v, Rep φ (.val (.pointer (some a))) v → ∃ a, v = .pointer (some a) := fun φ v h => ⟨a, h.val_eq⟩
/-- Two numbers compared. -/
def cmpI : BinOp → Option (Int → Int → Bool)
  | .eql => some fun x y => x == y
  | .neq => some fun x y => x != y
  | .lss => some fun x y => decide (x < y)
  | .leq => some fun x y => decide (x ≤ y)
  | .gtr => some fun x y => decide (x > y)
  | .geq => some fun x y => decide (x ≥ y)
  | _ => none
theorem O_cmp {op : BinOp} {t t2 : TypeId} {x y : Operand} {k : IntKind} {m n : Int} {f : Int → Int → Bool} (hx : look E x = some (.val (.int k m))) (hy : look E y = some (.val (.int k n))) (hf : cmpI op = some f) (h : K (sB (f m n)) M) :
    OpS w0 P ⟨dst, .binOp op t x y t2, ty, pos, af, gd⟩ E M K :=
  .read fun φ hs a w g hS he => by
    have e1 := (he.look hx).val_eq
    have e2 := (he.look hy).val_eq
    refine ⟨.bool (f m n), sB (f m n), ?_, .val _, h⟩
    cases op <;> simp [cmpI] at hf <;> subst hf <;> simp [execOp, e1, e2, eqGuard, binOp, Op.intCmp]
/-- Two numbers reckoned with. -/
def arI : BinOp → Option (Int → Int → Int)
  | .add => some fun x y => x + y
  | .sub => some fun x y => x - y
  | .mul => some fun x y => x * y
  | _ => none
theorem O_ar {op : BinOp} {t t2 : TypeId} {x y : Operand} {k : IntKind} {m n : Int} {f : Int → Int → Int} (hx : look E x = some (.val (.int k m))) (hy : look E y = some (.val (.int k n))) (hf : arI op = some f) (h : K (.val (.int k (k.wrap (f m n)))) M) :
    OpS w0 P ⟨dst, .binOp op t x y t2, ty, pos, af, gd⟩ E M K :=
  .read fun φ hs a w g hS he => by
    have e1 := (he.look hx).val_eq
    have e2 := (he.look hy).val_eq
    refine ⟨.int k (k.wrap (f m n)), _, ?_, .val _, h⟩
    cases op <;> simp [arI] at hf <;> subst hf <;> simp [execOp, e1, e2, eqGuard, binOp, Op.intArith]
theorem wrap_in {x : Int} (h1 : -9223372036854775808 ≤ x) (h2 : x ≤ 9223372036854775807) : IntKind.i64.wrap x = x := IntWalk.i64_in _ (by constructor <;> omega)
/-- An int's sum, difference, product that stays within. -/
theorem O_arI {op : BinOp} {t t2 : TypeId} {x y : Operand} {m n : Int} {f : Int → Int → Int} (hx : look E x = some (sI m)) (hy : look E y = some (sI n)) (hf : arI op = some f) (hb : -9223372036854775808 ≤ f m n ∧ f m n ≤ 9223372036854775807) (h : K (sI (f m n)) M) :
    OpS w0 P ⟨dst, .binOp op t x y t2, ty, pos, af, gd⟩ E M K := O_ar hx hy hf (by rw [wrap_in hb.1 hb.2]; exact h)
/-- Two texts compared. -/
theorem bytes_dec (m n : ByteArray) : (m.toList == n.toList) = decide (m = n) := by
  by_cases h : m = n
  · subst h; simp
  · rw [decide_eq_false h]
    have : m.toList ≠ n.toList := fun e => h (by
      rw [ByteArray.toList_eq, ByteArray.toList_eq] at e
      cases m; cases n; simp at e; subst e; rfl)
    simpa using this
theorem O_seq {t t2 : TypeId} {x y : Operand} {m n : ByteArray} (hx : look E x = some (sS m)) (hy : look E y = some (sS n)) (h : K (sB (decide (m = n))) M) : OpS w0 P ⟨dst, .binOp .eql t x y t2, ty, pos, af, gd⟩ E M K :=
  .read fun φ hs a w g hS he => by
    have e1 := (he.look hx).val_eq
    have e2 := (he.look hy).val_eq
    refine ⟨.bool (decide (m = n)), _, ?_, .val _, h⟩
    have : (m.toList == n.toList) = decide (m = n) := bytes_dec m n
    simp [execOp, e1, e2, eqGuard, binOp, Op.stringOp, this]
theorem O_sne {t t2 : TypeId} {x y : Operand} {m n : ByteArray} (hx : look E x = some (sS m)) (hy : look E y = some (sS n)) (h : K (sB (!decide (m = n))) M) : OpS w0 P ⟨dst, .binOp .neq t x y t2, ty, pos, af, gd⟩ E M K :=
  .read fun φ hs a w g hS he => by
    have e1 := (he.look hx).val_eq
    have e2 := (he.look hy).val_eq
    refine ⟨.bool (!decide (m = n)), _, ?_, .val _, h⟩
    have : (m.toList == n.toList) = decide (m = n) := bytes_dec m n
    simp [execOp, e1, e2, eqGuard, binOp, Op.stringOp, this]
theorem O_not {t : TypeId} {x : Operand} {b : Bool} (hx : look E x = some (sB b)) (h : K (sB (!b)) M) : OpS w0 P ⟨dst, .unOp .not t x, ty, pos, af, gd⟩ E M K :=
  .read fun φ hs a w g hS he => by
    have e1 := (he.look hx).val_eq
    exact ⟨.bool (!b), _, by simp [execOp, e1, Op.unary], .val _, h⟩
theorem O_extract {x : Operand} {i : Nat} {vs : List SVal} {s : SVal} (hx : look E x = some (.tup vs)) (hs : vs[i]? = some s) (h : K s M) : OpS w0 P ⟨dst, .extract x i, ty, pos, af, gd⟩ E M K :=
  .read fun φ _ a w g hS he => by
    obtain ⟨us, e, r⟩ := RepL.of_tup (he.look hx)
    obtain ⟨u, hu, hr⟩ := r.get hs
    have hu' : us[i]? = some u := by simpa using hu
    exact ⟨u, s, by simp [execOp, e, Instr.extract, hu'], hr, h⟩
end
end Go.Proofs.YtabojfgmbfnoiaaGreatDoor
end
section
/- The operations' rules: memory. -/
set_option linter.unusedVariables false
set_option linter.unusedSimpArgs false
namespace Go.Proofs.YtabojfgmbfnoiaaGreatDoor
section
variable {w0 : World} {P : Program} {E : Env} {M : List HA} {K : SVal → List HA → Prop} {dst : Option Tmp} {ty : TypeId} {pos : String} {af : Array Edge} {gd : Option (Nat × Bool)}
/-! ### What a part tells of the world -/
theorem one_get {b : Nat} {o : Obj} : Hp.one b o b = some o := by simp [Hp.one]
theorem box_world {φ : Hp} {hs : List Hp} {w : World} {H : List HA} {b : Nat} {t : TypeId} {cs : List SVal} [hb : BoxAt b H t cs] (g : Good w0 φ hs w) (hS : Sat φ H hs) : ∃ vs : Array Value, w.heap[b]? = some (.cells vs t (0, 0)) ∧ RepL φ cs vs.toList := by
  obtain ⟨i, hi⟩ := hb.i
  obtain ⟨h, hh, vs, rfl, r⟩ := hS.at hi
  exact ⟨vs, g.agree _ (List.mem_cons_of_mem _ hh) b _ one_get, r⟩
theorem own_world {φ : Hp} {hs : List Hp} {w : World} {H : List HA} {v : Value} {e : TypeId} {k : EK} {xs : List k.T} [ho : OwnAt v H e k xs] (g : Good w0 φ hs w) (hS : Sat φ H hs) :
    (v = .slice none 0 0 ∧ xs = []) ∨ ∃ b cap cur, v = .slice (some ⟨b, 0, none⟩) xs.length cap ∧ w.heap[b]? = some (.cells cur e (0, 0)) ∧ xs.length ≤ cap ∧ cap ≤ maxLen ∧
    cur.size = cap * k.size ∧ RepL φ (xs.flatMap k.view) (cur.toList.take (xs.length * k.size)) := by
  obtain ⟨i, hi⟩ := ho.i
  obtain ⟨h, hh, hp⟩ := hS.at hi
  rcases hp with ⟨e1, e2, _⟩ | ⟨b, cap, cur, e1, rfl, h1, h2, h3, r⟩
  · exact .inl ⟨e1, e2⟩
  · exact .inr ⟨b, cap, cur, e1, g.agree _ (List.mem_cons_of_mem _ hh) b _ one_get, h1, h2, h3, r⟩
/-! ### len -/
theorem O_len_isl {t : TypeId} {x : Operand} {k : EK} {xs : List k.T} (ht : (match P.underlying t with | some (.slice _) => true | _ => false) = true) (hx : look E x = some (.isl k xs)) (h : K (sI xs.length) M) :
    OpS w0 P ⟨dst, .call ⟨.builtin .len, #[x], #[t]⟩, ty, pos, af, gd⟩ E M K :=
  .read fun φ hs a w g hS he => by
    have hr := he.look hx
    generalize hev : a.eval x = ev at hr
    cases hr with
    | isl k xs A c hc hm hA u hu hr =>
      refine ⟨.int .i64 xs.length, _, ?_, .val _, h⟩
      cases hu' : P.underlying t with
      | none => rw [hu'] at ht; cases ht
      | some d =>
        rw [hu'] at ht
        cases d <;> simp at ht
        simp [execOp, resolve, invoke, builtin, Builtin.len_, hev, run_und hu', goInt]
theorem O_len_str {t : TypeId} {x : Operand} {s : ByteArray} (ht : P.underlying t = some .string) (hx : look E x = some (sS s)) (h : K (sI s.size) M) :
    OpS w0 P ⟨dst, .call ⟨.builtin .len, #[x], #[t]⟩, ty, pos, af, gd⟩ E M K :=
  .read fun φ hs a w g hS he => by
    have e1 := (he.look hx).val_eq
    exact ⟨.int .i64 s.size, _, by simp [execOp, resolve, invoke, builtin, Builtin.len_, e1, run_und ht, goInt], .val _, h⟩
theorem O_len_own {t e : TypeId} {x : Operand} {v : Value} {k : EK} {xs : List k.T} (ht : (match P.underlying t with | some (.slice _) => true | _ => false) = true) (hx : look E x = some (.val v)) [OwnAt v M e k xs] (h : K (sI xs.length) M) :
    OpS w0 P ⟨dst, .call ⟨.builtin .len, #[x], #[t]⟩, ty, pos, af, gd⟩ E M K :=
  .read fun φ hs a w g hS he => by
    have e1 := (he.look hx).val_eq
    refine ⟨.int .i64 xs.length, _, ?_, .val _, h⟩
    cases hu' : P.underlying t with
    | none => rw [hu'] at ht; cases ht
    | some d =>
      rw [hu'] at ht
      cases d <;> simp at ht
      rcases own_world (v := v) g hS with ⟨e2, e3⟩ | ⟨b, cap, cur, e2, _⟩
      · subst e3; simp [execOp, resolve, invoke, builtin, Builtin.len_, e1, e2, run_und hu', goInt]
      · simp [execOp, resolve, invoke, builtin, Builtin.len_, e1, e2, run_und hu', goInt]
/-! ### Loads -/
theorem run_load_at {w : World} {a : Addr} {v : Value} (h : w.cell? a = some v) : (load a).run P w = .ok v w := by simp [h]
theorem run_loadCells {w : World} {a : Addr} : ∀ (n i : Nat) (acc : Array Value) (vs : List Value), vs.length = n → (∀ j u, vs[j]? = some u → w.cell? (a.add (i + j)) = some u) →
    (loadCellsFrom a i n acc).run P w = .ok (acc ++ vs.toArray) w
  | 0, i, acc, vs, hl, h => by
    have : vs = [] := List.eq_nil_of_length_eq_zero hl
    subst this; simp [loadCellsFrom]
  | n + 1, i, acc, vs, hl, h => by
    cases vs with
    | nil => simp at hl
    | cons u t =>
      have h0 : w.cell? (a.add i) = some u := by simpa using h 0 u rfl
      simp only [loadCellsFrom, Sem.run_bind, run_load_at h0, Result.andThen_ok]
      rw [run_loadCells n (i + 1) (acc.push u) t (by simpa using hl) (fun j u' hj => by
        have := h (j + 1) u' (by simpa using hj)
        rwa [show i + (j + 1) = i + 1 + j by omega] at this)]
      simp
theorem run_loadVar_one {w : World} {t : TypeId} {a : Addr} {v : Value} (ht : oneB P t = true) (h : w.cell? a = some v) : (loadVar t a).run P w = .ok v w := by
  obtain ⟨d, i, hu, hd, hi, hz⟩ := oneB.run ht
  simp only [loadVar, Sem.run_bind, run_isAgg hu, hd, Result.andThen_ok, Bool.false_eq_true, if_false, run_load_at h]
theorem run_loadVar_agg {w : World} {t : TypeId} {a : Addr} {n : Nat} {vs : List Value} (ht : aggB P t n = true) (hl : vs.length = n) (h : ∀ j u, vs[j]? = some u → w.cell? (a.add j) = some u) : (loadVar t a).run P w = .ok (.agg vs.toArray) w := by
  obtain ⟨d, i, hu, hd, hi, hz⟩ := aggB.run ht
  simp only [loadVar, Sem.run_bind, run_isAgg hu, hd, Result.andThen_ok, if_true, run_size hi, hz, loadCells]
  rw [run_loadCells n 0 #[] vs hl (fun j u hj => by rw [Nat.zero_add]; exact h j u hj)]
  simp
theorem cell_at {w : World} {b o : Nat} {vs : Array Value} {t : TypeId} {fr : Nat × Nat} (h : w.heap[b]? = some (.cells vs t fr)) : w.cell? ⟨b, o, none⟩ = vs[o]? := by simp [World.cell?, h]
theorem add_mk (b o j : Nat) : (⟨b, o, none⟩ : Addr).add j = ⟨b, o + j, none⟩ := by unfold Addr.add; split <;> simp_all
theorem add_add (a : Addr) (m n : Nat) : (a.add m).add n = a.add (m + n) := by
  unfold Addr.add
  by_cases hm : m = 0
  · subst hm; simp
  · by_cases hn : n = 0
    · subst hn; simp [hm]
    · simp [hm, hn, Nat.add_assoc]
theorem phi_cell {φ : Hp} {hs : List Hp} {w : World} (g : Good w0 φ hs w) {a : Addr} {v : Value} (h : φ.cell a = some v) : w.cell? a = some v := by
  unfold Hp.cell at h
  unfold World.cell?
  cases e : φ a.block with
  | none => rw [e] at h; cases h
  | some o => rw [g.agree φ (List.mem_cons_self ..) _ _ e]; rw [e] at h; exact h
theorem O_load {t T : TypeId} {x : Operand} {b off : Nat} {cs : List SVal} {s : SVal} (ht : oneB P t = true) (hx : look E x = some (sP b off)) [BoxAt b M T cs] (hs : cs[off]? = some s) (h : K s M) :
    OpS w0 P ⟨dst, .load t x, ty, pos, af, gd⟩ E M K :=
  .read fun φ _ a w g hS he => by
    have e1 := (he.look hx).val_eq
    obtain ⟨vs, hw, r⟩ := box_world (b := b) g hS
    obtain ⟨v, hv, hr⟩ := r.get hs
    refine ⟨v, s, ?_, hr, h⟩
    have hc : w.cell? ⟨b, off, none⟩ = some v := by rw [cell_at hw]; simpa using hv
    simp only [execOp, Instr.loadAt, Instr.sureAddr, e1, Sem.run_bind, Sem.run_pure, Result.andThen_ok, run_loadVar_one ht hc]
theorem O_load_all {t T : TypeId} {x : Operand} {b : Nat} {cs : List SVal} {n : Nat} (ht : aggB P t n = true) (hx : look E x = some (sP b 0)) [BoxAt b M T cs] (hn : cs.length = n) (h : K (.agg cs) M) :
    OpS w0 P ⟨dst, .load t x, ty, pos, af, gd⟩ E M K :=
  .read fun φ _ a w g hS he => by
    have e1 := (he.look hx).val_eq
    obtain ⟨vs, hw, r⟩ := box_world (b := b) g hS
    refine ⟨.agg vs, .agg cs, ?_, r.agg, h⟩
    have hc := run_loadVar_agg (P := P) (w := w) (a := ⟨b, 0, none⟩) (vs := vs.toList) ht (by rw [r.1, hn]) (fun j u hj => by rw [add_mk, Nat.zero_add, cell_at hw]; simpa using hj)
    simp only [execOp, Instr.loadAt, Instr.sureAddr, e1, Sem.run_bind, Sem.run_pure, Result.andThen_ok, hc, Array.toArray_toList]
theorem O_load_part {t T : TypeId} {x : Operand} {b off : Nat} {cs ds : List SVal} {n : Nat} (ht : aggB P t n = true) (hx : look E x = some (sP b off)) [BoxAt b M T cs] (hd : (cs.drop off).take n = ds) (hn : ds.length = n) (h : K (.agg ds) M) :
    OpS w0 P ⟨dst, .load t x, ty, pos, af, gd⟩ E M K :=
  .read fun φ _ a w g hS he => by
    have e1 := (he.look hx).val_eq
    obtain ⟨vs, hw, r⟩ := box_world (b := b) g hS
    have hl : ((vs.toList.drop off).take n).length = n := by
      have h1 : (List.take n (List.drop off cs)).length = n := by rw [hd, hn]
      rw [List.length_take, List.length_drop] at h1 ⊢
      rw [r.1]; exact h1
    have hr : RepL φ ds ((vs.toList.drop off).take n) := by
      subst hd
      refine ⟨by rw [hl, hn], fun i h1 h2 => ?_⟩
      rw [List.getElem_take, List.getElem_take, List.getElem_drop, List.getElem_drop]
      exact r.2 _ _ _
    refine ⟨.agg ((vs.toList.drop off).take n).toArray, .agg ds, ?_, RepL.agg (by simpa using hr), h⟩
    have hc := run_loadVar_agg (P := P) (w := w) (a := ⟨b, off, none⟩) (vs := (vs.toList.drop off).take n) ht hl (fun j u hj => by
      rw [add_mk, cell_at hw]
      obtain ⟨h1, h2⟩ := List.getElem?_eq_some_iff.1 hj
      rw [List.getElem_take, List.getElem_drop] at h2
      rw [← Array.getElem?_toList, ← h2]
      exact List.getElem?_eq_getElem _)
    simp only [execOp, Instr.loadAt, Instr.sureAddr, e1, Sem.run_bind, Sem.run_pure, Result.andThen_ok, hc]
theorem O_load_ipt {t : TypeId} {x : Operand} {k : EK} {z : k.T} {off : Nat} {s : SVal} (ht : oneB P t = true) (hx : look E x = some (.ipt k z off)) (hs : (k.view z)[off]? = some s) (h : K s M) :
    OpS w0 P ⟨dst, .load t x, ty, pos, af, gd⟩ E M K :=
  .read fun φ _ a w g hS he => by
    have hr := he.look hx
    generalize hev : a.eval x = ev at hr
    cases hr with
    | ipt k z off a0 u hu hr =>
      obtain ⟨h1, rfl⟩ := List.getElem?_eq_some_iff.1 hs
      have hj : off < k.size := by rw [EK.view_length] at h1; exact h1
      have hc := phi_cell g (hu off hj)
      refine ⟨u off, _, ?_, hr off hj, h⟩
      simp only [execOp, Instr.loadAt, Instr.sureAddr, hev, Sem.run_bind, Sem.run_pure, Result.andThen_ok, run_loadVar_one ht hc]
theorem O_load_ipt_all {t : TypeId} {x : Operand} {k : EK} {z : k.T} (ht : aggB P t k.size = true) (hx : look E x = some (.ipt k z 0)) (h : K (.agg (k.view z)) M) :
    OpS w0 P ⟨dst, .load t x, ty, pos, af, gd⟩ E M K :=
  .read fun φ _ a w g hS he => by
    have hr := he.look hx
    generalize hev : a.eval x = ev at hr
    cases hr with
    | ipt k z off a0 u hu hr =>
      have hc := run_loadVar_agg (P := P) (w := w) (a := a0.add 0) (vs := (List.range k.size).map u) ht (by simp) (fun j v hj => by
        rw [add_add, Nat.zero_add]
        obtain ⟨h1, h2⟩ := List.getElem?_eq_some_iff.1 hj
        simp at h1 h2
        rw [← h2]
        exact phi_cell g (hu j h1))
      refine ⟨_, .agg (k.view z), ?_, RepL.agg (vs := ((List.range k.size).map u).toArray) ⟨by simp [EK.view_length], fun i h1 h2 => by simp; exact hr i (by rw [EK.view_length] at h1; exact h1)⟩, h⟩
      simp only [execOp, Instr.loadAt, Instr.sureAddr, hev, Sem.run_bind, Sem.run_pure, Result.andThen_ok, hc]
/-! ### Addresses -/
theorem O_fieldAddr {st : TypeId} {x : Operand} {b off f d : Nat} (hf : fldB P st f d = true) (hx : look E x = some (sP b off)) (h : K (sP b (off + d)) M) :
    OpS w0 P ⟨dst, .fieldAddr st x f, ty, pos, af, gd⟩ E M K :=
  .read fun φ _ a w g hS he => by
    have e1 := (he.look hx).val_eq
    obtain ⟨fs, q, i, hu, hq, ho, hi, hz⟩ := fldB.run hf
    refine ⟨.pointer (some ⟨b, off + d, none⟩), _, ?_, .val _, h⟩
    simp [execOp, Instr.fieldAt, Instr.sureAddr, e1, run_und hu, hq, fieldPlace, run_size hi, hz, ho, add_mk]
theorem O_fieldAddr_ipt {st : TypeId} {x : Operand} {k : EK} {z : k.T} {off f d : Nat} (hf : fldB P st f d = true) (hx : look E x = some (.ipt k z off)) (h : K (.ipt k z (off + d)) M) :
    OpS w0 P ⟨dst, .fieldAddr st x f, ty, pos, af, gd⟩ E M K :=
  .read fun φ _ a w g hS he => by
    have hr := he.look hx
    generalize hev : a.eval x = ev at hr
    cases hr with
    | ipt k z off a0 u hu hr =>
      obtain ⟨fs, q, i, hu', hq, ho, hi, hz⟩ := fldB.run hf
      refine ⟨.pointer (some (a0.add (off + d))), _, ?_, .ipt k z (off + d) a0 u hu hr, h⟩
      simp [execOp, Instr.fieldAt, Instr.sureAddr, hev, run_und hu', hq, fieldPlace, run_size hi, hz, ho, add_add]
theorem O_indexAddr {t : TypeId} {x y : Operand} {k : EK} {xs : List k.T} {kk : IntKind} {i : Int} {z : k.T} (ht : slcB P t k.size = true) (hx : look E x = some (.isl k xs)) (hy : look E y = some (.val (.int kk i))) (h0 : 0 ≤ i) (hz : xs[i.toNat]? = some z)
    (h : K (.ipt k z 0) M) : OpS w0 P ⟨dst, .indexAddr t x y, ty, pos, af, gd⟩ E M K :=
  .read fun φ _ a w g hS he => by
    have hr := he.look hx
    generalize hev : a.eval x = ev at hr
    have e1 := (he.look hy).val_eq
    obtain ⟨_, i', hu', hi', hz'⟩ := slcB.run ht
    obtain ⟨hlt, rfl⟩ := List.getElem?_eq_some_iff.1 hz
    cases hr with
    | isl k xs A c hc hm hA u hu hr =>
      obtain ⟨ad, rfl⟩ := hA (by omega)
      refine ⟨.pointer (some (ad.add (i.toNat * k.size))), _, ?_, ?_, h⟩
      · have : 0 ≤ i ∧ i < (xs.length : Int) := ⟨h0, by omega⟩
        simp [execOp, Instr.indexAt, asIntOf, e1, hev, run_und hu', run_size hi', hz', this]
      · have h1 := Rep.ipt (φ := φ) k xs[i.toNat] 0 (ad.add (i.toNat * k.size)) (u i.toNat) (fun j hj => by rw [add_add]; exact hu ad rfl i.toNat hlt j hj) (hr i.toNat hlt)
        rwa [add_add, Nat.add_zero] at h1
theorem O_indexAddr_own {t e' : TypeId} {x y : Operand} {v : Value} {k : EK} {xs : List k.T} {kk : IntKind} {i : Int} (ht : slcB P t k.size = true) (hx : look E x = some (.val v)) (hy : look E y = some (.val (.int kk i))) [OwnAt v M e' k xs] (h0 : 0 ≤ i) (hz : i < xs.length)
    (h : K (.opt v (i.toNat * k.size)) M) : OpS w0 P ⟨dst, .indexAddr t x y, ty, pos, af, gd⟩ E M K :=
  .read fun φ _ a w g hS he => by
    have e2 := (he.look hx).val_eq
    have e1 := (he.look hy).val_eq
    obtain ⟨_, i', hu', hi', hz'⟩ := slcB.run ht
    rcases own_world (v := v) g hS with ⟨e3, e4⟩ | ⟨b, cap, cur, e3, hw, _⟩
    · subst e4; simp at hz; omega
    · subst e3
      refine ⟨.pointer (some ⟨b, i.toNat * k.size, none⟩), _, ?_, .opt b _ _ _, h⟩
      simp [execOp, Instr.indexAt, asIntOf, e1, e2, run_und hu', run_size hi', hz', h0, hz, add_mk]
theorem O_load_opt {t e' : TypeId} {x : Operand} {v : Value} {k : EK} {xs : List k.T} {off i j : Nat} {z : k.T} {s : SVal} (ht : oneB P t = true) (hx : look E x = some (.opt v off)) [OwnAt v M e' k xs] (ho : off = i * k.size + j) (hz : xs[i]? = some z) (hs : (k.view z)[j]? = some s)
    (h : K s M) : OpS w0 P ⟨dst, .load t x, ty, pos, af, gd⟩ E M K :=
  .read fun φ _ a w g hS he => by
    have hr := he.look hx
    generalize hev : a.eval x = ev at hr
    obtain ⟨hlt, rfl⟩ := List.getElem?_eq_some_iff.1 hz
    obtain ⟨h1, rfl⟩ := List.getElem?_eq_some_iff.1 hs
    have hj : j < k.size := by rw [EK.view_length] at h1; exact h1
    have hle : i * k.size + k.size ≤ xs.length * k.size := by rw [← Nat.succ_mul]; exact Nat.mul_le_mul_right _ hlt
    cases hr with
    | opt b n c off =>
      rcases own_world (v := .slice (some ⟨b, 0, none⟩) n c) g hS with ⟨e3, e4⟩ | ⟨b', cap, cur, e3, hw, _, _, hcs, r⟩
      · cases e3
      · injection e3 with e5 _ _
        injection e5 with e5
        injection e5 with e5
        subst e5
        have hlen : (xs.flatMap k.view).length = xs.length * k.size := flat_length k xs
        have hl2 := r.1
        rw [hlen] at hl2
        have hrr := r.2 (i * k.size + j) (by omega) (by omega)
        rw [flat_get k xs i j hlt hj] at hrr
        refine ⟨_, _, ?_, hrr, h⟩
        have hc : w.cell? ⟨b, off, none⟩ = some ((cur.toList.take (xs.length * k.size))[i * k.size + j]'(by omega)) := by
          rw [cell_at hw, ho, List.getElem_take, ← Array.getElem?_toList]
          exact List.getElem?_eq_getElem _
        simp only [execOp, Instr.loadAt, Instr.sureAddr, hev, Sem.run_bind, Sem.run_pure, Result.andThen_ok, run_loadVar_one ht hc]
end
end Go.Proofs.YtabojfgmbfnoiaaGreatDoor
end
section
/- The operations' rules: what writes and makes memory. -/
set_option linter.unusedVariables false
set_option linter.unusedSimpArgs false
namespace Go.Proofs.YtabojfgmbfnoiaaGreatDoor
theorem Sat.cons {φ : Hp} {A : HA} {H : List HA} {q : Hp} {hs : List Hp} (a : A.p φ q) (t : Sat φ H hs) : Sat φ (A :: H) (q :: hs) := ⟨a, t⟩
/-! ### Cells of a block set -/
def lset {α : Type} : List α → Nat → List α → List α
  | cs, _, [] => cs
  | cs, i, s :: r => lset (cs.set i s) (i + 1) r
theorem lset_length {α : Type} : ∀ (r cs : List α) (i : Nat), (lset cs i r).length = cs.length
  | [], _, _ => rfl
  | s :: r, cs, i => by rw [lset, lset_length r]; simp
theorem lset_mid {α : Type} : ∀ (ss a b c : List α) (j : Nat), j + ss.length ≤ b.length → lset (a ++ b ++ c) (a.length + j) ss = a ++ lset b j ss ++ c
  | [], a, b, c, j, _ => rfl
  | s :: ss, a, b, c, j, h => by
    have hj : j < b.length := by simp at h; omega
    have e : (a ++ b ++ c).set (a.length + j) s = a ++ b.set j s ++ c := by
      rw [List.append_assoc, List.set_append_right _ _ (by omega), List.set_append_left _ _ (by omega), List.append_assoc]
      simp
    rw [lset, e, lset, show a.length + j + 1 = a.length + (j + 1) by omega]
    exact lset_mid ss a (b.set j s) c (j + 1) (by simp at h ⊢; omega)
theorem lset_take {α : Type} (n : Nat) : ∀ (us l : List α) (o : Nat), lset (l.take n) o us = (lset l o us).take n
  | [], _, _ => rfl
  | u :: us, l, o => by
    rw [lset, lset, ← List.take_set]
    exact lset_take n us (l.set o u) (o + 1)
theorem lset_flat {k : EK} {xs : List k.T} {i j : Nat} {z z' : k.T} {ss : List SVal} (hz : xs[i]? = some z) (hz' : lset (k.view z) j ss = k.view z') (hj : j + ss.length ≤ k.size) :
    lset (xs.flatMap k.view) (i * k.size + j) ss = (xs.set i z').flatMap k.view := by
  obtain ⟨hlt, rfl⟩ := List.getElem?_eq_some_iff.1 hz
  have e : xs = xs.take i ++ xs[i] :: xs.drop (i + 1) := by simp
  have e' : xs.set i z' = xs.take i ++ z' :: xs.drop (i + 1) := by rw [List.set_eq_take_append_cons_drop, if_pos hlt]
  have hl : ((xs.take i).flatMap k.view).length = i * k.size := by rw [flat_length, List.length_take, Nat.min_eq_left (by omega)]
  rw [e']
  have e2 : xs.flatMap k.view = (xs.take i).flatMap k.view ++ k.view xs[i] ++ (xs.drop (i + 1)).flatMap k.view := by
    have := congrArg (List.flatMap k.view) e
    rw [List.flatMap_append, List.flatMap_cons, ← List.append_assoc] at this
    exact this
  rw [e2, ← hl, lset_mid _ _ _ _ _ (by rw [EK.view_length]; exact hj), hz']
  simp
theorem RepL.lset {φ : Hp} : ∀ {ss : List SVal} {us : List Value} {cs : List SVal} {vs : List Value} (i : Nat), RepL φ cs vs → RepL φ ss us → RepL φ (lset cs i ss) (lset vs i us)
  | [], [], _, _, _, h, _ => h
  | s :: ss, u :: us, cs, vs, i, h, h' => by
    have h0 : Rep φ s u := h'.2 0 (by simp) (by simp)
    have ht : RepL φ ss us := ⟨by simpa using h'.1, fun j h1 h2 => h'.2 (j + 1) (by simpa using h1) (by simpa using h2)⟩
    exact RepL.lset (i + 1) (h.set i h0) ht
  | [], _ :: _, _, _, _, _, h' => by have := h'.1; simp at this
  | _ :: _, [], _, _, _, _, h' => by have := h'.1; simp at this
theorem heap_setCells {b : Nat} {ty : TypeId} {fr : Nat × Nat} : ∀ (us : List Value) (o : Nat) (w : World) (vs : Array Value), w.heap[b]? = some (.cells vs ty fr) →
    (w.setCells b o us).heap[b]? = some (.cells (lset vs.toList o us).toArray ty fr)
  | [], o, w, vs, h => by simpa [World.setCells, lset] using h
  | u :: us, o, w, vs, h => by
    have h1 : (w.setCell ⟨b, o, none⟩ u).heap[b]? = some (.cells (vs.setIfInBounds o u) ty fr) := by simp [World.setCell, Array.getElem?_modify, h]
    have := heap_setCells us (o + 1) _ _ h1
    rw [World.setCells, this]
    simp [lset]
theorem far_setCells {b : Nat} : ∀ (us : List Value) (o : Nat) (w : World) (k : Nat), k ≠ b → (w.setCells b o us).heap[k]? = w.heap[k]?
  | [], _, _, _, _ => rfl
  | u :: us, o, w, k, h => by
    rw [World.setCells, far_setCells us (o + 1) _ k h]
    simp only [World.setCell, Array.getElem?_modify]
    rw [if_neg (fun e => h e.symm)]
theorem same_setCells (b : Nat) : ∀ (us : List Value) (o : Nat) (w : World), (w.setCells b o us).os = w.os ∧ (w.setCells b o us).tape = w.tape ∧ (w.setCells b o us).output = w.output ∧ (w.setCells b o us).heap.size = w.heap.size
  | [], _, _ => ⟨rfl, rfl, rfl, rfl⟩
  | u :: us, o, w => by
    obtain ⟨h1, h2, h3, h4⟩ := same_setCells b us (o + 1) (w.setCell ⟨b, o, none⟩ u)
    exact ⟨h1, h2, h3, by rw [World.setCells, h4]; simp [World.setCell]⟩
theorem Good.setCells {w0 w : World} {φ : Hp} {hs : List Hp} {b : Nat} {vs : Array Value} {ty : TypeId} (g : Good w0 φ (.one b (.cells vs ty (0, 0)) :: hs) w) (o : Nat) (us : List Value) :
    Good w0 φ (.one b (.cells (lset vs.toList o us).toArray ty (0, 0)) :: hs) (w.setCells b o us) := by
  obtain ⟨h1, h2, h3, h4⟩ := same_setCells b us o w
  have hw : w.heap[b]? = some (.cells vs ty (0, 0)) := g.agree _ (List.mem_cons_of_mem _ (List.mem_cons_self ..)) b _ one_get
  refine g.set ?_ h1 h2 h3 (by rw [h4]; exact Nat.le_refl _) ?_ ?_
  · intro k hk
    left
    unfold Hp.one at *
    split at hk
    · rename_i e; simp [e]
    · exact absurd rfl hk
  · intro k q hk
    unfold Hp.one at hk
    split at hk
    · rename_i e; subst e; injection hk with hk; subst hk; exact heap_setCells us o w vs hw
    · cases hk
  · intro k _ hk
    refine far_setCells us o w k (fun e => ?_)
    subst e
    simp [Hp.one] at hk
theorem run_stores {P : Program} {w : World} {b o : Nat} {vs : Array Value} {ty : TypeId} {us : List Value} (h : w.heap[b]? = some (.cells vs ty (0, 0))) (hl : o + us.length ≤ vs.size) (h1 : ∀ u ∈ us, u.oneCell' = true) :
    (storeCells ⟨b, o, none⟩ us).run P w = .ok () (w.setCells b o us) := by
  have := run_storeCells_cells (P := P) b o us 0 w (fun j hj => by
      rw [cell_at h, Array.getElem?_eq_getElem (by omega)]; rfl) (fun j _ => by simp [World.frozen?, h]) h1
  simpa using this
theorem allOne {φ : Hp} {cs : List SVal} {vs : List Value} (h : RepL φ cs vs) (h1 : cs.all SVal.one = true) : ∀ u ∈ vs, u.oneCell' = true := by
  intro u hu
  obtain ⟨i, hi, rfl⟩ := List.mem_iff_getElem.1 hu
  have hi' : i < cs.length := by rw [← h.1]; exact hi
  exact (h.2 i hi' hi).one (List.all_eq_true.1 h1 _ (List.getElem_mem hi'))
theorem whole_cells {s : SVal} (h : s.whole = true) : s.cells.all SVal.one = true := by
  cases s <;> first | (simpa [SVal.cells, SVal.whole] using h) | (simp [SVal.cells, SVal.one])
section
variable {w0 : World} {P : Program} {E : Env} {M : List HA} {K : SVal → List HA → Prop} {dst : Option Tmp} {ty : TypeId} {pos : String} {af : Array Edge} {gd : Option (Nat × Bool)}
/-! ### Stores -/
theorem O_store_any {t T : TypeId} {x y : Operand} {b off n : Nat} {s : SVal} {cs : List SVal} {C : HA → List HA} (ht : ((P.info? t).map (·.size)) = some n) (hx : look E x = some (sP b off)) (hy : look E y = some s) (h1 : s.whole = true) (hn : s.cells.length = n)
    [hc : BoxCtx b M T cs C] (ho : off + n ≤ cs.length) (h : K (.val undef) (C (boxA b T (lset cs off s.cells)))) : OpS w0 P ⟨dst, .store t x y, ty, pos, af, gd⟩ E M K :=
  .step fun X hX a w hh => by
    have hq : ∃ u, a.eval y = u ∧ a.eval x = .pointer (some ⟨b, off, none⟩) := by
      obtain ⟨φ, hs, g, hS, he, hx'⟩ := hh
      exact ⟨_, rfl, (he.look hx).val_eq⟩
    obtain ⟨u, eu, ex⟩ := hq
    obtain ⟨i, hi, e'⟩ := Option.map_eq_some_iff.1 ht
    have key : u.cells.size = n ∧ (∀ q ∈ u.cells.toList, q.oneCell' = true) ∧ ∃ vs, w.heap[b]? = some (.cells vs T (0, 0)) ∧ off + n ≤ vs.size := by
      obtain ⟨φ, hs, g, hS, he, hx'⟩ := hh
      have hr := (he.look hy).cells h1
      rw [eu] at hr
      obtain ⟨R, p, p'⟩ := hc.u
      obtain ⟨hs', p', s'⟩ := Sat.perm p hS
      obtain ⟨q, hs0, rfl, ⟨vs, rfl, r⟩, t'⟩ := s'.cons_inv
      refine ⟨by have := hr.1; rw [Array.length_toList] at this; omega, allOne hr (whole_cells h1), vs, (g.perm p').agree _ (List.mem_cons_of_mem _ (List.mem_cons_self ..)) b _ one_get, ?_⟩
      have := r.1
      rw [Array.length_toList] at this
      omega
    obtain ⟨k1, k2, vs0, k3, k4⟩ := key
    refine ⟨.skip, undef, w.setCells b off u.cells.toList, .val undef, _, ?_, .inr ⟨rfl, rfl⟩, h, ?_⟩
    · have hst := run_stores (P := P) (us := u.cells.toList) (o := off) k3 (by rw [Array.length_toList]; omega) k2
      simp [execOp, Instr.storeAt, Instr.sureAddr, ex, eu, storeVar, run_size hi, e', k1, hst]
    · have hh' : Holds w0 M w (fun φ => Rep φ s u ∧ X φ) := hh.imp fun φ hx' => ⟨by rw [← eu]; exact hx'.1.look hy, hx'.2⟩
      have h2 : Holds w0 M w (fun φ => RepL φ s.cells u.cells.toList ∧ X φ) := hh'.imp fun φ hx' => ⟨hx'.1.cells h1, hx'.2⟩
      obtain ⟨R, p, p'⟩ := hc.u
      obtain ⟨φ, hs, g, hS, hrl, hX'⟩ := h2.perm p
      obtain ⟨q, hs0, rfl, ⟨vs, rfl, r⟩, t'⟩ := hS.cons_inv
      exact Holds.perm (H := boxA b T (Go.Proofs.YtabojfgmbfnoiaaGreatDoor.lset cs off s.cells) :: R) ⟨φ, _, g.setCells off u.cells.toList, .cons ⟨_, rfl, by simpa using r.lset off hrl⟩ t', .val _, hX'⟩ (p' _)
theorem O_store {t T : TypeId} {x y : Operand} {b off : Nat} {s : SVal} {cs : List SVal} {C : HA → List HA} (ht : ((P.info? t).map (·.size)) = some 1) (hx : look E x = some (sP b off)) (hy : look E y = some s) (h1 : s.one = true)
    [hc : BoxCtx b M T cs C] (ho : Nat.blt off cs.length = true) (h : K (.val undef) (C (boxA b T (cs.set off s)))) : OpS w0 P ⟨dst, .store t x y, ty, pos, af, gd⟩ E M K := by
  have e : s.cells = [s] := by cases s <;> first | rfl | cases h1
  have hw : s.whole = true := by cases s <;> first | exact h1 | cases h1
  refine O_store_any ht hx hy hw (by rw [e]; rfl) (hc := hc) ?_ (by rw [e]; exact h)
  exact Nat.le_of_ble_eq_true ho
/-- An element's cell of a row of one's own. -/
theorem O_store_opt {t e : TypeId} {x y : Operand} {v : Value} {off i j n : Nat} {s : SVal} {k : EK} {xs : List k.T} {C : HA → List HA} {z z' : k.T} (ht : ((P.info? t).map (·.size)) = some n) (hx : look E x = some (.opt v off)) (hy : look E y = some s) (h1 : s.whole = true) (hn : s.cells.length = n)
    [hc : OwnCtx v M e k xs C] (ho : off = i * k.size + j) (hz : xs[i]? = some z) (hz' : lset (k.view z) j s.cells = k.view z') (hj : j + n ≤ k.size) (h : K (.val undef) (C (ownA v e k (xs.set i z')))) : OpS w0 P ⟨dst, .store t x y, ty, pos, af, gd⟩ E M K :=
  .step fun X hX a w hh => by
    obtain ⟨hlt, hzz⟩ := List.getElem?_eq_some_iff.1 hz
    obtain ⟨i', hi, e'⟩ := Option.map_eq_some_iff.1 ht
    have hle : i * k.size + k.size ≤ xs.length * k.size := by rw [← Nat.succ_mul]; exact Nat.mul_le_mul_right _ hlt
    have key : ∃ b c, v = .slice (some ⟨b, 0, none⟩) xs.length c ∧ a.eval x = .pointer (some ⟨b, off, none⟩) ∧ (a.eval y).cells.size = n ∧ (∀ q ∈ (a.eval y).cells.toList, q.oneCell' = true) ∧
        ∃ vs, w.heap[b]? = some (.cells vs e (0, 0)) ∧ off + n ≤ vs.size := by
      obtain ⟨φ, hs, g, hS, he, hx'⟩ := hh
      have hr := (he.look hy).cells h1
      have hp := he.look hx
      generalize hev : a.eval x = ev at hp
      obtain ⟨R, p, p'⟩ := hc.u
      obtain ⟨hs', p', s'⟩ := Sat.perm p hS
      obtain ⟨q, hs0, rfl, hq, t'⟩ := s'.cons_inv
      rcases hq with ⟨e1, e2, _⟩ | ⟨b, cap, cur, e1, rfl, q1, q2, q3, r⟩
      · subst e2; simp at hlt
      · subst e1
        cases hp with
        | opt b n' c off =>
          refine ⟨b, cap, rfl, rfl, by have := hr.1; rw [Array.length_toList] at this; omega, allOne hr (whole_cells h1), cur, (g.perm p').agree _ (List.mem_cons_of_mem _ (List.mem_cons_self ..)) b _ one_get, ?_⟩
          have : xs.length * k.size ≤ cap * k.size := Nat.mul_le_mul_right _ q1
          omega
    obtain ⟨b, c, rfl, ex, k1, k2, vs0, k3, k4⟩ := key
    generalize eu : a.eval y = u at *
    refine ⟨.skip, undef, w.setCells b off u.cells.toList, .val undef, _, ?_, .inr ⟨rfl, rfl⟩, h, ?_⟩
    · have hst := run_stores (P := P) (us := u.cells.toList) (o := off) k3 (by rw [Array.length_toList]; omega) k2
      simp [execOp, Instr.storeAt, Instr.sureAddr, ex, eu, storeVar, run_size hi, e', k1, hst]
    · have h2 : Holds w0 M w (fun φ => RepL φ s.cells u.cells.toList ∧ X φ) := hh.imp fun φ hx' => ⟨by rw [← eu]; exact (hx'.1.look hy).cells h1, hx'.2⟩
      obtain ⟨R, p, p'⟩ := hc.u
      obtain ⟨φ, hs, g, hS, hrl, hX'⟩ := h2.perm p
      obtain ⟨q, hs0, rfl, hq, t'⟩ := hS.cons_inv
      rcases hq with ⟨e1, e2, _⟩ | ⟨b', cap, cur, e1, rfl, q1, q2, q3, r⟩
      · cases e1
      · injection e1 with e3 e4 e5
        injection e3 with e3
        injection e3 with e3
        subst e3; subst e5
        refine Holds.perm (H := ownA (.slice (some ⟨b, 0, none⟩) xs.length c) e k (xs.set i z') :: R) ⟨φ, _, g.setCells off u.cells.toList, .cons (.inr ⟨b, c, _, by simp, rfl, by simpa using q1, q2, by simp [lset_length, q3], ?_⟩) t', .val _, hX'⟩ (p' _)
        have hr2 := r.lset off hrl
        have e6 : lset (xs.flatMap k.view) off s.cells = (xs.set i z').flatMap k.view := by rw [ho]; exact lset_flat hz hz' (by omega)
        have e7 : lset (cur.toList.take (xs.length * k.size)) off u.cells.toList = (lset cur.toList off u.cells.toList).take (xs.length * k.size) := lset_take _ _ _ _
        rw [e6, e7] at hr2
        simpa using hr2
end
end Go.Proofs.YtabojfgmbfnoiaaGreatDoor
end
section
/- The operations' rules: new blocks, appends, calls; a function's contract (Fn). -/
set_option linter.unusedVariables false
set_option linter.unusedSimpArgs false
namespace Go.Proofs.YtabojfgmbfnoiaaGreatDoor
theorem Holds.alloc {w0 w : World} {H : List HA} {X : Hp → Prop} (h : Holds w0 H w X) (o : Obj) (A : HA) (hA : ∀ φ, X φ → A.p φ (Hp.one w.heap.size o)) : Holds w0 (A :: H) { w with heap := w.heap.push o } X :=
  let ⟨φ, hs, g, s, x⟩ := h; ⟨φ, _, g.alloc o, .cons (hA φ x) s, x⟩
section
variable {w0 : World} {P : Program} {E : Env} {M : List HA} {K : SVal → List HA → Prop} {dst : Option Tmp} {ty : TypeId} {pos : String} {af : Array Edge} {gd : Option (Nat × Bool)}
/-! ### Blocks -/
theorem O_box {t : TypeId} {x : Operand} {s : SVal} (hx : look E x = some s) (h1 : s.whole = true) (h : ∀ b, K (sP b 0) (boxA b t s.cells :: M)) : OpS w0 P ⟨dst, .box t x, ty, pos, af, gd⟩ E M K :=
  .step fun X hX a w hh => by
    refine ⟨.value (.pointer (some ⟨w.heap.size, 0, none⟩)), .pointer (some ⟨w.heap.size, 0, none⟩), w.alloc (.cells (a.eval x).cells t), sP w.heap.size 0, _, by simp [execOp, Instr.box, newVar, newRow], .inl rfl, h w.heap.size, ?_⟩
    have h2 : Holds w0 M w (fun φ => RepL φ s.cells (a.eval x).cells.toList ∧ X φ) := hh.imp fun φ hx' => ⟨(hx'.1.look hx).cells h1, hx'.2⟩
    exact (h2.alloc (.cells (a.eval x).cells t) (boxA w.heap.size t s.cells) (fun φ hx' => ⟨_, rfl, hx'.1⟩)).imp fun φ hx' => ⟨.val _, hx'.2⟩
/-- The zero value of a type, cell by cell. -/
def zeroIs (P : Program) (t : TypeId) (vs : List Value) : Prop := ∃ i z, P.info? t = some i ∧ i.zero = some z ∧ z.cells = vs.toArray
theorem zeroIs.mk {P : Program} {t : TypeId} {z : Value} {vs : List Value} (h : (P.info? t).map (·.zero) = some (some z)) (hz : z.cells = vs.toArray) : zeroIs P t vs := by
  obtain ⟨i, hi, e⟩ := Option.map_eq_some_iff.1 h
  exact ⟨i, z, hi, e, hz⟩
theorem repVals (φ : Hp) (vs : List Value) : RepL φ (vs.map SVal.val) vs := ⟨by simp, fun i h1 h2 => by simp; exact .val _⟩
theorem O_alloc {t : TypeId} {vs : List Value} {cs : List SVal} (hz : zeroIs P t vs) (hc : vs.map SVal.val = cs) (h : ∀ b, K (sP b 0) (boxA b t cs :: M)) : OpS w0 P ⟨dst, .alloc t, ty, pos, af, gd⟩ E M K :=
  .step fun X hX a w hh => by
    obtain ⟨i, z, hi, hz1, hz2⟩ := hz
    refine ⟨.value (.pointer (some ⟨w.heap.size, 0, none⟩)), .pointer (some ⟨w.heap.size, 0, none⟩), w.alloc (.cells vs.toArray t), sP w.heap.size 0, _, by simp [execOp, Instr.alloc, newVar, newRow, zeroValue, run_info hi, hz1, hz2], .inl rfl, h w.heap.size, ?_⟩
    exact (hh.alloc (.cells vs.toArray t) (boxA w.heap.size t cs) (fun φ hx' => ⟨_, rfl, by subst hc; simpa using repVals φ vs⟩)).imp fun φ hx' => ⟨.val _, hx'.2⟩
/-! ### Parts of aggregates -/
theorem part_one {w : World} {t : TypeId} {vs : Array Value} {off : Nat} {v : Value} (ht : oneB P t = true) (h : vs[off]? = some v) : (part t vs off).run P w = .ok v w := by
  obtain ⟨d, i, hu, hd, hi, hz⟩ := oneB.run ht
  simp [part, run_isAgg hu, hd, h]
/-- A field's type. -/
def fldT (P : Program) (t : TypeId) (f off ft : Nat) : Bool := match P.underlying t with
  | some (.struct fs) => match fs[f]? with
    | some q => q.offset == off && q.type == ft
    | none => false
  | _ => false
theorem fldT.run {P : Program} {t : TypeId} {f off ft : Nat} (h : fldT P t f off ft = true) : ∃ fs q, P.underlying t = some (.struct fs) ∧ fs[f]? = some q ∧ q.offset = off ∧ q.type = ft := by
  unfold fldT at h
  cases hu : P.underlying t with
  | none => rw [hu] at h; cases h
  | some d =>
    rw [hu] at h
    cases d <;> first | (simp at h; done) | skip
    rename_i fs
    simp only at h
    cases hf : fs[f]? with
    | none => rw [hf] at h; cases h
    | some q =>
      rw [hf] at h
      simp only [Bool.and_eq_true, beq_iff_eq] at h
      exact ⟨fs, q, rfl, hf, h.1, h.2⟩
theorem O_index_str {x y : Operand} {s : ByteArray} {kk : IntKind} {i : Int} {t : TypeId} {c : UInt8} (ht : P.underlying t = some .string) (hx : look E x = some (sS s)) (hy : look E y = some (.val (.int kk i))) (h0 : 0 ≤ i) (hc : s.data[i.toNat]? = some c) (h : K (.val (.int .u8 (c.toNat : Int))) M) :
    OpS w0 P ⟨dst, .index t x y, ty, pos, af, gd⟩ E M K :=
  .read fun φ _ a w g hS he => by
    have e1 := (he.look hx).val_eq
    have e2 := (he.look hy).val_eq
    have hc' : s[i.toNat]? = some c := hc
    exact ⟨.int .u8 (c.toNat : Int), _, by simp [execOp, Instr.index, asIntOf, e1, e2, run_und ht, h0, hc'], .val _, h⟩
theorem O_conv_int {t1 t2 : TypeId} {x : Operand} {k k' : IntKind} {n : Int} {d1 : TypeDesc} (h1 : P.underlying t1 = some d1) (h2 : P.underlying t2 = some (.int k')) (hx : look E x = some (.val (.int k n))) (h : K (.val (.int k' (k'.wrap n))) M) :
    OpS w0 P ⟨dst, .convert t1 t2 x, ty, pos, af, gd⟩ E M K :=
  .read fun φ _ a w g hS he => by
    have e1 := (he.look hx).val_eq
    exact ⟨.int k' (k'.wrap n), _, by simp [execOp, convert, e1, run_und h1, run_und h2, Conv.intToInt], .val _, h⟩
/-! ### Values built -/
/-- Where the parts of a struct (an array) go. -/
def fillS (pl : List (Nat × Nat)) : List SVal → List (Nat × SVal) → Option (List SVal)
  | cs, [] => some cs
  | cs, (i, s) :: r => match pl[i]? with
    | none => none
    | some (off, n) => if s.cells.length = n ∧ off + n ≤ cs.length then fillS pl (lset cs off s.cells) r else none
def placesB (P : Program) (t : TypeId) (pl : List (Nat × Nat)) : Bool := match P.underlying t with
  | some (.struct fs) => fs.toList.map (fun f => (f.offset, ((P.info? f.type).map (·.size)).getD 0)) == pl && fs.all fun f => (P.info? f.type).isSome
  | some (.array n e) => (List.range n).map (fun i => (i * ((P.info? e).map (·.size)).getD 0, ((P.info? e).map (·.size)).getD 0)) == pl && (P.info? e).isSome
  | _ => false
theorem foldl_set (u : Array Value) (off : Nat) : ∀ (l : List Value) (k : Nat) (cells : Array Value), (l.zipIdx k).foldl (fun cs (x : Value × Nat) => cs.setIfInBounds (off + x.2) x.1) cells = (lset cells.toList (off + k) l).toArray
  | [], k, cells => by simp [lset]
  | v :: l, k, cells => by
    simp only [List.zipIdx_cons, List.foldl_cons]
    rw [foldl_set u off l (k + 1)]
    simp [lset, Nat.add_assoc]
theorem fill_spec (place : Nat → Option (Nat × Nat)) (pl : List (Nat × Nat)) (hp : ∀ i q, pl[i]? = some q → place i = some q) {φ : Hp} : ∀ (ps : List (Nat × SVal)) (vs : List (Nat × Value)) (cs ds : List SVal) (cells : Array Value),
    ps.map (·.1) = vs.map (·.1) → (∀ i (h1 : i < ps.length) (h2 : i < vs.length), RepL φ ps[i].2.cells vs[i].2.cells.toList) → RepL φ cs cells.toList → fillS pl cs ps = some ds → ∃ cells', Instr.fill place cells vs = some cells' ∧ RepL φ ds cells'.toList
  | [], [], cs, ds, cells, _, _, hr, hf => by
    injection hf with hf; subst hf; exact ⟨cells, rfl, hr⟩
  | (i, s) :: ps, (i', v) :: vs, cs, ds, cells, hm, hv, hr, hf => by
    simp only [List.map_cons, List.cons.injEq] at hm
    obtain ⟨rfl, hm⟩ := hm
    simp only [fillS] at hf
    cases hpl : pl[i]? with
    | none => rw [hpl] at hf; cases hf
    | some q =>
      obtain ⟨off, n⟩ := q
      rw [hpl] at hf
      simp only at hf
      split at hf
      · rename_i hc
        have h0 := hv 0 (by simp) (by simp)
        simp only [List.getElem_cons_zero] at h0
        have hl : v.cells.size = n := by have := h0.1; rw [Array.length_toList] at this; omega
        have hl2 : cells.size = cs.length := by have := hr.1; rwa [Array.length_toList] at this
        obtain ⟨cells', hfil, hr'⟩ := fill_spec place pl hp ps vs (lset cs off s.cells) ds (lset cells.toList off v.cells.toList).toArray hm
          (fun j h1 h2 => hv (j + 1) (by simpa using h1) (by simpa using h2)) (by simpa using hr.lset off h0) hf
        refine ⟨cells', ?_, hr'⟩
        rw [Instr.fill, hp i _ hpl]
        simp only
        rw [if_neg (by simp only [Bool.or_eq_true, decide_eq_true_eq]; omega)]
        rw [← Array.foldl_toList, Array.toList_zipIdx, foldl_set v.cells off v.cells.toList 0 cells]
        exact hfil
      · cases hf
  | [], _ :: _, _, _, _, hm, _, _, _ => by simp at hm
  | _ :: _, [], _, _, _, hm, _, _, _ => by simp at hm
theorem parts_eval {φ : Hp} {e : Env} {a : Act} (he : EnvRep φ e a) : ∀ (ps : List (Nat × Operand)) (ss : List (Nat × SVal)), ps.map (fun p => (p.1, look e p.2)) = ss.map (fun p => (p.1, some p.2)) → (∀ p ∈ ss, p.2.whole = true) →
    (ss.map (·.1) = (ps.map fun p => (p.1, a.eval p.2)).map (·.1)) ∧ ∀ i (h1 : i < ss.length) (h2 : i < (ps.map fun p => (p.1, a.eval p.2)).length), RepL φ ss[i].2.cells (ps.map fun p => (p.1, a.eval p.2))[i].2.cells.toList
  | [], [], _, _ => ⟨rfl, fun i h1 => by simp at h1⟩
  | p :: ps, s :: ss, h, hw => by
    simp only [List.map_cons, List.cons.injEq, Prod.mk.injEq] at h
    obtain ⟨⟨h1, h2⟩, h3⟩ := h
    obtain ⟨i1, i2⟩ := parts_eval he ps ss h3 (fun q hq => hw q (List.mem_cons_of_mem _ hq))
    refine ⟨by simp only [List.map_cons, List.cons.injEq]; exact ⟨h1.symm, i1⟩, fun i h4 h5 => ?_⟩
    cases i with
    | zero => exact (he.look h2).cells (hw s (List.mem_cons_self ..))
    | succ i => exact i2 i (by simpa using h4) (by simpa using h5)
  | [], _ :: _, h, _ => by simp at h
  | _ :: _, [], h, _ => by simp at h
theorem O_build {t : TypeId} {parts : Array (Nat × Operand)} {ss : List (Nat × SVal)} {vs : List Value} {pl : List (Nat × Nat)} {cs : List SVal} (hz : zeroIs P t vs) (hpl : placesB P t pl = true) (hp : parts.toList.map (fun p => (p.1, look E p.2)) = ss.map (fun p => (p.1, some p.2)))
    (hw : ss.all (fun p => p.2.whole) = true) (hf : fillS pl (vs.map SVal.val) ss = some cs) (h : K (.agg cs) M) : OpS w0 P ⟨dst, .build t parts, ty, pos, af, gd⟩ E M K :=
  .read fun φ _ a w g hS he => by
    obtain ⟨i, z, hi, hz1, hz2⟩ := hz
    obtain ⟨p1, p2⟩ := parts_eval he parts.toList ss hp (fun p hp => List.all_eq_true.1 hw p hp)
    have hpe : (parts.map fun (x : Nat × Operand) => (x.1, a.eval x.2)).toList = parts.toList.map fun p => (p.1, a.eval p.2) := by simp
    unfold placesB at hpl
    cases hu : P.underlying t with
    | none => rw [hu] at hpl; cases hpl
    | some d =>
      rw [hu] at hpl
      cases d <;> first | (simp at hpl; done) | skip
      · rename_i n e
        simp only [Bool.and_eq_true, beq_iff_eq] at hpl
        obtain ⟨hpl, hsome⟩ := hpl
        obtain ⟨ie, hie⟩ := Option.isSome_iff_exists.1 hsome
        obtain ⟨cells', hfil, hr⟩ := fill_spec (fun i => some (i * ie.size, ie.size)) pl (fun j q hq => by
          rw [← hpl, hie] at hq
          simp only [Option.map_some, Option.getD_some, List.getElem?_map] at hq
          cases hrg : (List.range n)[j]? with
          | none => rw [hrg] at hq; cases hq
          | some m =>
            rw [hrg] at hq
            obtain ⟨h1, h2⟩ := List.getElem?_eq_some_iff.1 hrg
            simp at h2; subst h2
            simpa using hq) ss _ (vs.map SVal.val) cs vs.toArray p1 p2 (by simpa using repVals φ vs) hf
        refine ⟨.agg cells', _, ?_, RepL.agg hr, h⟩
        simp [execOp, Instr.build, zeroValue, run_info hi, hz1, hz2, run_und hu, run_size hie, hfil]
      · rename_i fs
        simp only [Bool.and_eq_true, beq_iff_eq] at hpl
        obtain ⟨hpl, hsome⟩ := hpl
        have hmap : ∀ (l : List Field), (∀ f ∈ l, (P.info? f.type).isSome = true) → (l.mapM fun f => do pure (f.offset, ← sizeOf f.type) : Sem (List (Nat × Nat))).run P w = .ok (l.map (fun f => (f.offset, ((P.info? f.type).map (·.size)).getD 0))) w := by
          intro l
          induction l with
          | nil => intro _; simp
          | cons f l ih =>
            intro hl
            obtain ⟨q, hq⟩ := Option.isSome_iff_exists.1 (hl f (List.mem_cons_self ..))
            simp only [List.mapM_cons, Sem.run_bind, run_size hq, Result.andThen_ok, Sem.run_pure, ih (fun f hf => hl f (List.mem_cons_of_mem _ hf)), List.map_cons, hq, Option.map_some, Option.getD_some]
        have hm := hmap fs.toList (fun f hf => by simpa using (Array.all_eq_true_iff_forall_mem.1 hsome) f (by simpa using hf))
        obtain ⟨cells', hfil, hr⟩ := fill_spec (fun i => (pl.toArray)[i]?) pl (fun j q hq => by simpa using hq) ss _ (vs.map SVal.val) cs vs.toArray p1 p2 (by simpa using repVals φ vs) hf
        refine ⟨.agg cells', _, ?_, RepL.agg hr, h⟩
        have hm2 : (fs.mapM fun f => do pure (f.offset, ← sizeOf f.type) : Sem (Array (Nat × Nat))).run P w = .ok pl.toArray w := by
          rw [← Array.toArray_toList (xs := fs), List.mapM_toArray]
          simp only [Sem.run_map]
          rw [hm, hpl]
          rfl
        simp only [execOp, Instr.build, Sem.run_bind, zeroValue, run_info hi, hz1, hz2, run_und hu, Result.andThen_ok, Sem.run_pure, hm2, hpe]
        simp only [hfil, Sem.run_pure, Result.andThen_ok]
end
end Go.Proofs.YtabojfgmbfnoiaaGreatDoor
end
section
/- The operations' rules: rows made, appended to; calls; a function's contract (Fn). -/
set_option linter.unusedVariables false
set_option linter.unusedSimpArgs false
namespace Go.Proofs.YtabojfgmbfnoiaaGreatDoor
/-- What a row's new state must tell. -/
theorem own_turn {w0 w w' : World} {φ : Hp} {hs : List Hp} {q : Hp} {v v' : Value} {e : TypeId} {k : EK} {xs ys : List k.T} (g : Good w0 φ (q :: hs) w) (ha : (ownA v e k xs).p φ q)
    (hrow : ∀ cells, RepL φ (xs.flatMap k.view) cells → w.ownsRow 0 e k.size v xs.length cells → ∃ cells', w'.ownsRow 0 e k.size v' ys.length cells' ∧ RepL φ (ys.flatMap k.view) cells')
    (hg : w.grownBy w' v.ownBlock) (hat : v'.ownBlock = v.ownBlock ∨ ∃ b, v'.ownBlock = some b ∧ w.heap.size ≤ b) : ∃ q', (ownA v' e k ys).p φ q' ∧ Good w0 φ (q' :: hs) w' := by
  have h0 : ∃ cells, RepL φ (xs.flatMap k.view) cells ∧ w.ownsRow 0 e k.size v xs.length cells ∧ ∀ b, v.ownBlock = some b → q b ≠ none := by
    rcases ha with ⟨e1, e2, e3⟩ | ⟨b, cap, cur, e1, rfl, h1, h2, h3, r⟩
    · subst e1; subst e2
      exact ⟨[], RepL.nil, ⟨by simp, .inl ⟨rfl, rfl⟩⟩, fun b hb => by simp [Value.ownBlock] at hb⟩
    · refine ⟨_, r, ⟨by rw [r.1, flat_length], .inr ⟨b, cap, cur, e1, Nat.zero_le _, g.agree _ (List.mem_cons_of_mem _ (List.mem_cons_self ..)) b _ one_get, h1, h2, h3, rfl⟩⟩, fun b' hb => ?_⟩
      subst e1
      simp [Value.ownBlock] at hb
      subst hb
      simp [Hp.one]
  obtain ⟨cells, hr, ho, hq⟩ := h0
  obtain ⟨cells', ho', hr'⟩ := hrow cells hr ho
  have key : ∀ q' : Hp, (∀ k o, q' k = some o → w'.heap[k]? = some o) → (∀ k, q' k ≠ none → v'.ownBlock = some k) → Good w0 φ (q' :: hs) w' := by
    intro q' h1 h2
    refine g.set (fun k hk => ?_) hg.os hg.tape hg.output hg.size h1 (fun k hk hk' => hg.block k hk (fun e => hq k e.symm hk'))
    have := h2 k hk
    rcases hat with hat | ⟨b, hb, hle⟩
    · left; exact hq k (by rw [← hat]; exact this)
    · right; rw [hb] at this; injection this with this; omega
  rcases ho'.2 with ⟨e1, e2⟩ | ⟨b, cap, cur, e1, _, hw, h1, h2, h3, h4⟩
  · have : ys = [] := List.eq_nil_of_length_eq_zero e2
    exact ⟨Hp.emp, .inl ⟨e1, this, rfl⟩, key _ (fun k o h => by simp [Hp.emp] at h) (fun k h => by simp [Hp.emp] at h)⟩
  · refine ⟨Hp.one b (.cells cur e (0, 0)), .inr ⟨b, cap, cur, e1, rfl, h1, h2, h3, by rw [h4]; exact hr'⟩, key _ (fun k o h => ?_) (fun k h => ?_)⟩
    · unfold Hp.one at h
      split at h
      · rename_i e; subst e; injection h with h; subst h; exact hw
      · cases h
    · unfold Hp.one at h
      split at h
      · rename_i e; subst e; subst e1; rfl
      · exact absurd rfl h
def elemB (P : Program) (t e : TypeId) (n by_ : Nat) : Bool := (match P.underlying t with | some (.slice e') => e' == e | _ => false) && match P.info? e with
  | some i => i.size == n && i.bytes == by_ && (match i.zero with | some z => z.cells.size == n | none => false)
  | none => false
theorem elemB.run {P : Program} {t e : TypeId} {n b : Nat} (h : elemB P t e n b = true) : ∃ i z, P.underlying t = some (.slice e) ∧ P.info? e = some i ∧ i.size = n ∧ i.bytes = b ∧ i.zero = some z ∧ z.cells.size = n := by
  simp only [elemB, Bool.and_eq_true] at h
  obtain ⟨h1, h2⟩ := h
  cases hi : P.info? e with
  | none => rw [hi] at h2; cases h2
  | some i =>
    rw [hi] at h2
    simp only [Bool.and_eq_true, beq_iff_eq] at h2
    obtain ⟨⟨h3, h4⟩, h5⟩ := h2
    cases hz : i.zero with
    | none => rw [hz] at h5; cases h5
    | some z =>
      rw [hz] at h5
      cases hu : P.underlying t with
      | none => rw [hu] at h1; cases h1
      | some d =>
        rw [hu] at h1
        cases d <;> first | (simp at h1; done) | skip
        rename_i q
        have : q = e := by simpa using h1
        subst this
        exact ⟨i, z, rfl, rfl, h3, h4, hz, by simpa using h5⟩
section
variable {w0 : World} {P : Program} {E : Env} {M : List HA} {K : SVal → List HA → Prop} {dst : Option Tmp} {ty : TypeId} {pos : String} {af : Array Edge} {gd : Option (Nat × Bool)}
/-- The cells of what is appended. -/
theorem isl_cells {φ : Hp} {hs : List Hp} {w : World} (g : Good w0 φ hs w) {k : EK} {ys : List k.T} {v : Value} (h : Rep φ (.isl k ys) v) : ∃ A c, v = .slice A ys.length c ∧ ys.length ≤ c ∧ (0 < ys.length → ∃ ad, A = some ad) ∧ ∃ news, RepL φ (ys.flatMap k.view) news ∧ ∀ ad, A = some ad → ∀ j u, news[j]? = some u → w.cell? (ad.add j) = some u := by
  cases h with
  | isl k xs A c hc hm hA u hu hr =>
    refine ⟨A, c, rfl, hc, hA, (List.range (ys.length * k.size)).map (fun q => u (q / k.size) (q % k.size)), ⟨by rw [flat_length]; simp, fun i h1 h2 => ?_⟩, fun ad e j v hj => ?_⟩
    · rw [flat_length] at h1
      have hlt : i / k.size < ys.length := Nat.div_lt_of_lt_mul (by rw [Nat.mul_comm]; exact h1)
      have hmod : i % k.size < k.size := Nat.mod_lt _ (EK.size_pos k)
      have := flat_get k ys (i / k.size) (i % k.size) hlt hmod (by rw [flat_length]; rw [Nat.mul_comm, Nat.div_add_mod]; exact h1)
      have e1 : i / k.size * k.size + i % k.size = i := by rw [Nat.mul_comm]; exact Nat.div_add_mod i k.size
      simp only [e1] at this
      rw [this]
      simp only [List.getElem_map, List.getElem_range]
      exact hr _ hlt _ hmod
    · obtain ⟨h1, h2⟩ := List.getElem?_eq_some_iff.1 hj
      simp only [List.length_map, List.length_range] at h1
      simp only [List.getElem_map, List.getElem_range] at h2
      have hlt : j / k.size < ys.length := Nat.div_lt_of_lt_mul (by rw [Nat.mul_comm]; exact h1)
      have hmod : j % k.size < k.size := Nat.mod_lt _ (EK.size_pos k)
      have := hu ad e (j / k.size) hlt (j % k.size) hmod
      have e1 : j / k.size * k.size + j % k.size = j := by rw [Nat.mul_comm]; exact Nat.div_add_mod j k.size
      rw [e1, h2] at this
      exact phi_cell g this
theorem own_cells {φ : Hp} {q : Hp} {w : World} (hq : ∀ k o, q k = some o → w.heap[k]? = some o) {e : TypeId} {k : EK} {ys : List k.T} {v : Value} (h : (ownA v e k ys).p φ q) : ∃ A c, v = .slice A ys.length c ∧ ys.length ≤ c ∧ (0 < ys.length → ∃ ad, A = some ad) ∧ ∃ news, RepL φ (ys.flatMap k.view) news ∧ ∀ ad, A = some ad → ∀ j u, news[j]? = some u → w.cell? (ad.add j) = some u := by
  rcases h with ⟨e1, e2, _⟩ | ⟨b, cap, cur, e1, rfl, h1, h2, h3, r⟩
  · subst e1; subst e2
    exact ⟨none, 0, rfl, Nat.le_refl _, fun h => by simp at h, [], RepL.nil, fun ad h => by cases h⟩
  · subst e1
    refine ⟨_, cap, rfl, h1, fun _ => ⟨_, rfl⟩, _, r, fun ad e j u hj => ?_⟩
    injection e with e; subst e
    rw [add_mk, Nat.zero_add, cell_at (hq b _ one_get), ← Array.getElem?_toList]
    rw [List.getElem?_take] at hj
    split at hj
    · exact hj
    · cases hj
theorem view_one (k : EK) (xs : List k.T) (hk : k ≠ .val) : (xs.flatMap k.view).all SVal.one = true := by
  rw [List.all_flatMap, List.all_eq_true]
  intro x _
  cases k <;> first | rfl | exact absurd rfl hk
theorem append_run {w : World} {t e : TypeId} {by_ : Nat} {k : EK} {v : Value} {xs ys : List k.T} {A : Option Addr} {c : Nat} {news : List Value} {φ : Hp} (ht : elemB P t e k.size by_ = true) (hb : (xs.length + ys.length) * by_ ≤ 140737488355328) (hb0 : 0 < by_) (hA : 0 < ys.length → ∃ ad, A = some ad)
    (hn : RepL φ (ys.flatMap k.view) news) (hc : ∀ ad, A = some ad → ∀ j u, news[j]? = some u → w.cell? (ad.add j) = some u) (h1 : (ys.flatMap k.view).all SVal.one = true) (cells : List Value) (hr : RepL φ (xs.flatMap k.view) cells) (ho : w.ownsRow 0 e k.size v xs.length cells) :
    ∃ v' w', (Builtin.append_ #[t, t] ty #[v, .slice A ys.length c]).run P w = .ok v' w' ∧ (∃ cells', w'.ownsRow 0 e k.size v' (xs ++ ys).length cells' ∧ RepL φ ((xs ++ ys).flatMap k.view) cells') ∧ w.grownBy w' v.ownBlock ∧ (v'.ownBlock = v.ownBlock ∨ ∃ b, v'.ownBlock = some b ∧ w.heap.size ≤ b) := by
  obtain ⟨i, z, hu, hi, hz1, hz2, hz3, hz4⟩ := elemB.run ht
  have hlen : news.length = ys.length * k.size := by rw [hn.1, flat_length]
  have hsum : xs.length + ys.length ≤ 140737488355328 := Nat.le_trans (Nat.le_mul_of_pos_right _ hb0) hb
  rcases A with _ | ad
  · have h0 : ys = [] := by
      rcases Nat.eq_zero_or_pos ys.length with h | h
      · exact List.eq_nil_of_length_eq_zero h
      · obtain ⟨ad, h⟩ := hA h; cases h
    subst h0
    refine ⟨v, w, ?_, ⟨cells, by simpa using ho, by simpa using hr⟩, World.grownBy.refl w _, .inl rfl⟩
    rcases ho.2 with ⟨rfl, hn0⟩ | ⟨g, cap, cur, rfl, _, _, hnc, _⟩
    · simp [Builtin.append_, run_underlying hu, sizeOf, typeInfo, hi, Builtin.lenOf, Builtin.firstCells]
    · simp [Builtin.append_, run_underlying hu, sizeOf, typeInfo, hi, Builtin.lenOf, Builtin.firstCells, hnc, storeCells]
  · obtain ⟨v', w', hrun, h2, hg, _, hat⟩ := run_append_own_at (P := P) w 0 t ty e i z k.size by_ hu hi hz3 hz1 hz2 hz4 (EK.size_pos k) v xs.length cells ho ad ys.length c news hlen (hc ad rfl) (allOne hn h1) (by simp only [maxLen]; omega) hb (Nat.zero_le _)
    refine ⟨v', w', hrun, ⟨_, by rw [List.length_append]; exact h2, by rw [List.flatMap_append]; exact hr.append hn⟩, hg, ?_⟩
    rcases hat with hat | hat
    · exact .inl hat
    · exact .inr ⟨_, hat, Nat.le_refl _⟩
/-- append(v, ys...), v a row of one's own, ys a slice that no longer changes. -/
theorem O_append_isl {t e : TypeId} {by_ : Nat} {x y : Operand} {v : Value} {k : EK} {xs ys : List k.T} {C : HA → List HA} (ht : elemB P t e k.size by_ = true) (hb0 : Nat.blt 0 by_ = true) (hk : k ≠ .val) (hx : look E x = some (.val v)) (hy : look E y = some (.isl k ys)) [hc : OwnCtx v M e k xs C]
    (hb : (xs.length + ys.length) * by_ ≤ 140737488355328) (h : ∀ v', K (.val v') (C (ownA v' e k (xs ++ ys)))) : OpS w0 P ⟨dst, .call ⟨.builtin .append, #[x, y], #[t, t]⟩, ty, pos, af, gd⟩ E M K :=
  .step fun X hX a w hh => by
    obtain ⟨R, p, p'⟩ := hc.u
    obtain ⟨φ, hs, g, hS, he, hX'⟩ := hh.perm p
    obtain ⟨q, hs0, rfl, hq, t'⟩ := hS.cons_inv
    have e1 := (he.look hx).val_eq
    obtain ⟨A, c, e2, hcap, hA, news, hn, hcell⟩ := isl_cells g (he.look hy)
    have hrow : ∃ cells, RepL φ (xs.flatMap k.view) cells ∧ w.ownsRow 0 e k.size v xs.length cells := by
      rcases hq with ⟨e3, e4, _⟩ | ⟨b, cap, cur, e3, rfl, h1, h2, h3, r⟩
      · subst e3; subst e4; exact ⟨[], RepL.nil, ⟨by simp, .inl ⟨rfl, rfl⟩⟩⟩
      · exact ⟨_, r, ⟨by rw [r.1, flat_length], .inr ⟨b, cap, cur, e3, Nat.zero_le _, g.agree _ (List.mem_cons_of_mem _ (List.mem_cons_self ..)) b _ one_get, h1, h2, h3, rfl⟩⟩⟩
    obtain ⟨cells, hr, ho⟩ := hrow
    obtain ⟨v', w', hrun, hown, hg, hat⟩ := append_run (P := P) (ty := ty) (c := c) ht hb (Nat.le_of_ble_eq_true hb0) hA hn hcell (view_one k ys hk) cells hr ho
    obtain ⟨q', hq', g'⟩ := own_turn (ys := xs ++ ys) g hq (fun cells2 hr2 ho2 => hown) hg hat
    refine ⟨.value v', v', w', .val v', _, by simp [execOp, resolve, invoke, builtin, e1, e2, hrun], .inl rfl, h v', ?_⟩
    exact Holds.perm (H := ownA v' e k (xs ++ ys) :: R) ⟨φ, _, g', .cons hq' t', .val _, hX'⟩ (p' _)
end
end Go.Proofs.YtabojfgmbfnoiaaGreatDoor
end
section
/- The operations' rules: rows built, rows of one's own handed over; calls; a function's contract (Fn). -/
set_option linter.unusedVariables false
set_option linter.unusedSimpArgs false
namespace Go.Proofs.YtabojfgmbfnoiaaGreatDoor
section
variable {w0 : World} {P : Program} {E : Env} {M : List HA} {K : SVal → List HA → Prop} {dst : Option Tmp} {ty : TypeId} {pos : String} {af : Array Edge} {gd : Option (Nat × Bool)}
/-- append(v, v2...), both rows of one's own; the second is used up. -/
theorem O_append_own {t e te2 : TypeId} {by_ : Nat} {x y : Operand} {v v2 : Value} {k : EK} {xs ys : List k.T} {H2 : List HA} {C : HA → List HA} (ht : elemB P t e k.size by_ = true) (hb0 : Nat.blt 0 by_ = true) (h1 : (ys.flatMap k.view).all SVal.one = true) (hx : look E x = some (.val v)) (hy : look E y = some (.val v2))
    [hd : OwnDel v2 M te2 k ys H2] [hc : OwnCtx v H2 e k xs C]
    (hb : (xs.length + ys.length) * by_ ≤ 140737488355328) (h : ∀ v', K (.val v') (C (ownA v' e k (xs ++ ys)))) : OpS w0 P ⟨dst, .call ⟨.builtin .append, #[x, y], #[t, t]⟩, ty, pos, af, gd⟩ E M K :=
  .step fun X hX a w hh => by
    obtain ⟨R, p, p'⟩ := hc.u
    obtain ⟨φ, hs, g, hS, he, hX'⟩ := hh.perm (hd.u.perm.trans ((List.Perm.cons _ p).trans (.swap _ _ _)))
    obtain ⟨q, hs0, rfl, hq, t'⟩ := hS.cons_inv
    obtain ⟨q2, hs1, rfl, hq2, t''⟩ := t'.cons_inv
    have e1 := (he.look hx).val_eq
    have e0 := (he.look hy).val_eq
    obtain ⟨A, c, e2, hcap, hA, news, hn, hcell⟩ := own_cells (w := w) (fun k o hk => g.agree q2 (by simp) k o hk) hq2
    have hrow : ∃ cells, RepL φ (xs.flatMap k.view) cells ∧ w.ownsRow 0 e k.size v xs.length cells := by
      rcases hq with ⟨e3, e4, _⟩ | ⟨b, cap, cur, e3, rfl, h1, h2, h3, r⟩
      · subst e3; subst e4; exact ⟨[], RepL.nil, ⟨by simp, .inl ⟨rfl, rfl⟩⟩⟩
      · exact ⟨_, r, ⟨by rw [r.1, flat_length], .inr ⟨b, cap, cur, e3, Nat.zero_le _, g.agree _ (List.mem_cons_of_mem _ (List.mem_cons_self ..)) b _ one_get, h1, h2, h3, rfl⟩⟩⟩
    obtain ⟨cells, hr, ho⟩ := hrow
    obtain ⟨v', w', hrun, hown, hg, hat⟩ := append_run (P := P) (ty := ty) (c := c) ht hb (Nat.le_of_ble_eq_true hb0) hA hn hcell h1 cells hr ho
    obtain ⟨q', hq', g'⟩ := own_turn (ys := xs ++ ys) g hq (fun cells2 hr2 ho2 => hown) hg hat
    refine ⟨.value v', v', w', .val v', _, by simp [execOp, resolve, invoke, builtin, e1, e0, e2, hrun], .inl rfl, h v', ?_⟩
    have h3 : Holds w0 (ownA v2 te2 k ys :: ownA v' e k (xs ++ ys) :: R) w' (fun φ => Rep φ (.val v') v' ∧ X φ) := Holds.perm (H := ownA v' e k (xs ++ ys) :: ownA v2 _ k ys :: R) ⟨φ, _, g', .cons hq' (.cons hq2 t''), .val _, hX'⟩ (.swap _ _ _)
    exact Holds.perm h3.drop (p' _)
/-- A row written out. -/
theorem O_buildSlice' {t : TypeId} (e : TypeId) {len : Nat} (by_ : Nat) {parts : Array (Nat × Operand)} (k : EK) (xs : List k.T) {ss : List (Nat × SVal)} {cs0 : List SVal} {vs : List Value} (ht : elemB P t e k.size by_ = true) (hz : zeroIs P e vs) (hp : parts.toList.map (fun p => (p.1, look E p.2)) = ss.map (fun p => (p.1, some p.2)))
    (hw : ss.all (fun p => p.2.whole) = true) (hl : xs.length = len) (hlen : Nat.blt len 64 = true) (hl0 : Nat.blt 0 len = true)
    (hf : fillS ((List.range len).map fun i => (i * k.size, k.size)) ((List.range (len * k.size)).map fun i => SVal.val (vs.toArray[i % vs.toArray.size]!)) ss = some cs0) (hi0 : ∀ φ vs, RepL φ cs0 vs → RepL φ (xs.flatMap k.view) vs)
    (h : ∀ v, K (.val v) (ownA v e k xs :: M)) : OpS w0 P ⟨dst, .buildSlice t len parts, ty, pos, af, gd⟩ E M K :=
  .step fun X hX a w hh => by
    obtain ⟨i, z, hu, hi, hz1, hz2, hz3, hz4⟩ := elemB.run ht
    obtain ⟨i', z', hi', hz', hvs⟩ := hz
    have ei : i' = i := Option.some.inj (hi'.symm.trans hi)
    subst ei
    have ez : z' = z := Option.some.inj (hz'.symm.trans hz3)
    subst ez
    have hlen' : len * k.size ≤ 16777216 := by
      have h1 : len < 64 := lt_of_blt hlen
      have h2 : k.size ≤ 7 := by cases k <;> decide
      have : len * k.size ≤ 64 * 7 := Nat.mul_le_mul (by omega) h2
      omega
    have hl0' : 0 < len := Nat.le_of_ble_eq_true hl0
    have hne : len * k.size ≠ 0 := Nat.mul_ne_zero (by omega) (by have := EK.size_pos k; omega)
    have hpe : (parts.map fun (x : Nat × Operand) => (x.1, a.eval x.2)).toList = parts.toList.map fun p => (p.1, a.eval p.2) := by simp
    have key : ∃ cells' : Array Value, Instr.fill (fun i => some (i * k.size, k.size)) ((Array.range (len * k.size)).map (vs.toArray[· % vs.toArray.size]!)) (parts.toList.map fun p => (p.1, a.eval p.2)) = some cells' := by
      obtain ⟨φ, hs, g, hS, he, hX'⟩ := hh
      obtain ⟨p1, p2⟩ := parts_eval he parts.toList ss hp (fun p hp => List.all_eq_true.1 hw p hp)
      obtain ⟨cells', h1, h2⟩ := fill_spec (fun i => some (i * k.size, k.size)) _ (fun j q hq => by
          rw [List.getElem?_map] at hq
          cases hrg : (List.range len)[j]? with
          | none => rw [hrg] at hq; cases hq
          | some m =>
            rw [hrg] at hq
            obtain ⟨h1, h2⟩ := List.getElem?_eq_some_iff.1 hrg
            simp at h2; subst h2
            simpa using hq) ss _ _ cs0 ((Array.range (len * k.size)).map (vs.toArray[· % vs.toArray.size]!)) p1 p2 (by
              have := repVals φ ((List.range (len * k.size)).map (fun i => vs.toArray[i % vs.toArray.size]!))
              rw [List.map_map] at this
              simpa [Array.toList_range, Function.comp_def] using this) hf
      exact ⟨cells', h1⟩
    obtain ⟨cells', hfil⟩ := key
    refine ⟨.value (.slice (some ⟨w.heap.size, 0, none⟩) len len), .slice (some ⟨w.heap.size, 0, none⟩) len len, w.alloc (.cells cells' e), .val (.slice (some ⟨w.heap.size, 0, none⟩) len len), _, ?_, .inl rfl, h _, ?_⟩
    · simp only [execOp, Instr.buildSlice, Sem.run_bind, run_und hu, Result.andThen_ok, run_size hi, hz1, if_neg (show ¬ len * k.size > 2 ^ 24 by omega), Sem.run_pure, if_neg hne, zeroValue, run_info hi, hz3, hvs, hpe]
      simp only [hfil]
      simp [newRow]
    · have h2 : Holds w0 M w (fun φ => RepL φ (xs.flatMap k.view) cells'.toList ∧ X φ) := hh.imp fun φ hx' => by
        obtain ⟨p1, p2⟩ := parts_eval hx'.1 parts.toList ss hp (fun p hp => List.all_eq_true.1 hw p hp)
        obtain ⟨cells2, h1, h2⟩ := fill_spec (fun i => some (i * k.size, k.size)) _ (fun j q hq => by
          rw [List.getElem?_map] at hq
          cases hrg : (List.range len)[j]? with
          | none => rw [hrg] at hq; cases hq
          | some m =>
            rw [hrg] at hq
            obtain ⟨h1, h2⟩ := List.getElem?_eq_some_iff.1 hrg
            simp at h2; subst h2
            simpa using hq) ss _ _ cs0 ((Array.range (len * k.size)).map (vs.toArray[· % vs.toArray.size]!)) p1 p2 (by
              have := repVals φ ((List.range (len * k.size)).map (fun i => vs.toArray[i % vs.toArray.size]!))
              rw [List.map_map] at this
              simpa [Array.toList_range, Function.comp_def] using this) hf
        have : cells2 = cells' := Option.some.inj (h1.symm.trans hfil)
        subst this
        exact ⟨hi0 φ _ h2, hx'.2⟩
      refine (h2.alloc (.cells cells' e) (ownA (.slice (some ⟨w.heap.size, 0, none⟩) len len) e k xs) (fun φ hx' => .inr ⟨w.heap.size, len, cells', by rw [hl], rfl, by omega, by simp only [maxLen]; have := EK.size_pos k; have : len ≤ len * k.size := Nat.le_mul_of_pos_right _ this; omega, ?_, ?_⟩)).imp fun φ hx' => ⟨.val _, hx'.2⟩
      · have := hx'.1.1; rw [flat_length, Array.length_toList, hl] at this; exact this
      · have := hx'.1.1
        rw [flat_length] at this
        rw [List.take_of_length_le (by omega)]
        exact hx'.1
end
theorem O_buildSlice {w0 : World} {P : Program} {E : Env} {M : List HA} {K : SVal → List HA → Prop} {dst : Option Tmp} {ty : TypeId} {pos : String} {af : Array Edge} {gd : Option (Nat × Bool)} {t : TypeId} (e : TypeId) {len : Nat} (by_ : Nat) {parts : Array (Nat × Operand)} (k : EK) (xs : List k.T) {ss : List (Nat × SVal)} {vs : List Value} (ht : elemB P t e k.size by_ = true) (hz : zeroIs P e vs) (hp : parts.toList.map (fun p => (p.1, look E p.2)) = ss.map (fun p => (p.1, some p.2)))
    (hw : ss.all (fun p => p.2.whole) = true) (hl : xs.length = len) (hlen : Nat.blt len 64 = true) (hl0 : Nat.blt 0 len = true)
    (hf : fillS ((List.range len).map fun i => (i * k.size, k.size)) ((List.range (len * k.size)).map fun i => SVal.val (vs.toArray[i % vs.toArray.size]!)) ss = some (xs.flatMap k.view))
    (h : ∀ v, K (.val v) (ownA v e k xs :: M)) : OpS w0 P ⟨dst, .buildSlice t len parts, ty, pos, af, gd⟩ E M K := O_buildSlice' e by_ k xs ht hz hp hw hl hlen hl0 hf (fun _ _ h => h) h
/-! ### Contracts -/
def Fn (w0 : World) (P : Program) (f : FuncId) (args : List SVal) (H : List HA) (R : SVal → List HA → Prop) : Prop :=
  ∀ (X : Hp → Prop), Mono X → ∀ (F : List HA) (vs : Array Value) (w : World), Holds w0 (H ++ F) w (fun φ => RepL φ args vs.toList ∧ X φ) →
    Calls P f vs w (fun e w' => ∃ v s H', e = .returned v ∧ R s H' ∧ Holds w0 (H' ++ F) w' (fun φ => Rep φ s v ∧ X φ))
/-- What only reads and makes what no longer changes. -/
abbrev FnP (w0 : World) (P : Program) (f : FuncId) (args : List SVal) (r : SVal) : Prop := Fn w0 P f args [] (fun s H => s = r ∧ H = [])
def argEnv : Nat → List SVal → Env
  | _, [] => []
  | i, s :: r => (i, s) :: argEnv (i + 1) r
theorem argEnv_get : ∀ (l : List SVal) (i k : Nat) (s : SVal), (argEnv i l).get k = some s → ∃ j, k = i + j ∧ l[j]? = some s
  | [], _, _, _, h => by simp [argEnv, Env.get] at h
  | x :: l, i, k, s, h => by
    simp only [argEnv, Env.get] at h
    cases hb : Nat.beq i k with
    | true =>
      rw [hb] at h
      injection h with h
      exact ⟨0, by have := Nat.eq_of_beq_eq_true hb; omega, by simpa using h⟩
    | false =>
      rw [hb] at h
      obtain ⟨j, e, hj⟩ := argEnv_get l (i + 1) k s h
      exact ⟨j + 1, by omega, by simpa using hj⟩
/-- What a result is read from. -/
inductive ResOk (P : Program) (E : Env) (M : List HA) : List ResultVar → List SVal → Prop where
  | nil : ResOk P E M [] []
  | tmp {t : Tmp} {rs : List ResultVar} {ss : List SVal} (s : SVal) (h : E.get t = some s) (r : ResOk P E M rs ss) : ResOk P E M (.tmp t :: rs) (s :: ss)
  | cell {t : Tmp} {ty T : TypeId} {rs : List ResultVar} {ss : List SVal} (b : Nat) (s : SVal) (ht : oneB P ty = true) (h : E.get t = some (sP b 0)) [hb : BoxAt b M T [s]] (r : ResOk P E M rs ss) : ResOk P E M (.cell t ty :: rs) (s :: ss)
  | agg {t : Tmp} {ty T : TypeId} {rs : List ResultVar} {ss : List SVal} (b n : Nat) (cs : List SVal) (ht : aggB P ty n = true) (hn : cs.length = n) (h : E.get t = some (sP b 0)) [hb : BoxAt b M T cs] (r : ResOk P E M rs ss) : ResOk P E M (.cell t ty :: rs) (.agg cs :: ss)
/-- One result, or a row of them. -/
def resOf : List SVal → SVal
  | [s] => s
  | l => .tup l
theorem ResOk.run {w0 : World} {P : Program} {E : Env} {M : List HA} {φ : Hp} {hs : List Hp} {a : Act} {w : World} (g : Good w0 φ hs w) (hS : Sat φ M hs) (he : EnvRep φ E a) {rs : List ResultVar} {ss : List SVal} (h : ResOk P E M rs ss) :
    ∃ vs, RepL φ ss vs ∧ ∀ f : ResultVar → Sem Value, (∀ u, f (.tmp u) = pure (a.tmps.getD u undef)) → (∀ x t, f (.cell x t) = (do loadVar t (← asAddr (a.tmps.getD x undef)))) → (rs.mapM f).run P w = .ok vs w := by
  have one : ∀ {s : SVal} {v : Value}, Rep φ s v → RepL φ [s] [v] := fun {s v} hr => ⟨rfl, fun i i1 i2 => by
    have : i = 0 := by simp at i1; omega
    subst this; exact hr⟩
  induction h with
  | nil => exact ⟨[], RepL.nil, fun f hf hc => by simp⟩
  | @tmp t rs ss s h r ih =>
    obtain ⟨vs, h2, h1⟩ := ih
    exact ⟨a.tmps.getD t undef :: vs, (one (he _ _ h)).append h2, fun f hf hc => by rw [List.mapM_cons, hf]; simp only [Sem.run_bind, Sem.run_pure, Result.andThen_ok, h1 f hf hc]⟩
  | @cell t ty T rs ss b s ht h hb r ih =>
    obtain ⟨vs, h2, h1⟩ := ih
    have e := (he _ _ h).val_eq
    obtain ⟨us, hw, hr⟩ := box_world (b := b) g hS
    obtain ⟨v, hv, hrv⟩ := hr.get (i := 0) rfl
    have hc1 : w.cell? ⟨b, 0, none⟩ = some v := by rw [cell_at hw]; simpa using hv
    exact ⟨v :: vs, (one hrv).append h2, fun f hf hc => by rw [List.mapM_cons, hc, e]; simp only [asAddr, Sem.run_bind, Sem.run_pure, Result.andThen_ok, run_loadVar_one ht hc1, h1 f hf hc]⟩
  | @agg t ty T rs ss b n cs ht hn h hb r ih =>
    obtain ⟨vs, h2, h1⟩ := ih
    have e := (he _ _ h).val_eq
    obtain ⟨us, hw, hr⟩ := box_world (b := b) g hS
    have hc1 := run_loadVar_agg (P := P) (w := w) (a := ⟨b, 0, none⟩) (vs := us.toList) ht (by rw [hr.1, hn]) (fun j u hj => by rw [add_mk, Nat.zero_add, cell_at hw]; simpa using hj)
    exact ⟨.agg us :: vs, (one hr.agg).append h2, fun f hf hc => by rw [List.mapM_cons, hc, e]; simp only [asAddr, Sem.run_bind, Sem.run_pure, Result.andThen_ok, hc1, h1 f hf hc, Array.toArray_toList]⟩
def callB (P : Program) (f : FuncId) : Bool := match P.funcs[f]? with
  | some fn => fn.name != "runtime.NumGoroutine" && fn.body.isSome
  | none => false
theorem callB.run {P : Program} {f : FuncId} {w : World} {args : Array Value} (h : callB P f = true) : (callFunc f args).run P w = .ok (.enter f args) w := by
  unfold callB at h
  cases hf : P.funcs[f]? with
  | none => rw [hf] at h; cases h
  | some fn =>
    rw [hf] at h
    simp only [Bool.and_eq_true, bne_iff_ne] at h
    have h2 : fn.body ≠ none := by intro e; rw [e] at h; simp at h
    simp [callFunc, hf, h.1, h2]
section
variable {w0 : World} {P : Program} {E : Env} {M : List HA} {K : SVal → List HA → Prop} {dst : Option Tmp} {ty : TypeId} {pos : String} {af : Array Edge} {gd : Option (Nat × Bool)}
theorem args_eval {φ : Hp} {e : Env} {a : Act} (he : EnvRep φ e a) : ∀ (xs : List Operand) (ss : List SVal), xs.map (look e) = ss.map some → RepL φ ss (xs.map a.eval)
  | [], [], _ => RepL.nil
  | x :: xs, s :: ss, h => by
    simp only [List.map_cons, List.cons.injEq] at h
    exact RepL.append (a := [s]) (c := [a.eval x]) ⟨rfl, fun i i1 i2 => by
      have : i = 0 := by simp at i1; omega
      subst this; exact he.look h.1⟩ (args_eval he xs ss h.2)
  | [], _ :: _, h => by simp at h
  | _ :: _, [], h => by simp at h
/-- A call, its contract's part of the heap H, the rest F. -/
theorem O_call {f : FuncId} {args : Array Operand} {ts : Array TypeId} {ss : List SVal} {H F : List HA} {R : SVal → List HA → Prop} (hf : callB P f = true) (ha : args.toList.map (look E) = ss.map some) (hc : Fn w0 P f ss H R) (hp : M.Perm (H ++ F)) (h : ∀ s H', R s H' → K s (H' ++ F)) :
    OpS w0 P ⟨dst, .call ⟨.value (.func f), args, ts⟩, ty, pos, af, gd⟩ E M K := by
  intro X hX a w hh Q
  have h1 := hc X hX F (args.map a.eval) w ((hh.perm hp).imp fun φ hx => ⟨by simpa using args_eval hx.1 args.toList ss ha, hx.2⟩)
  unfold Oper.wp
  have hrun : (execOp a.eval ⟨dst, .call ⟨.value (.func f), args, ts⟩, ty, pos, af, gd⟩).run P w = .ok (.enter f (args.map a.eval)) w := by
    simp [execOp, resolve, Deferred.ofValue, Act.eval, invoke, callB.run hf]
  rw [hrun, Oper.upon_enter]
  refine h1.mono ?_
  rintro e w' ⟨v, s, H', rfl, hR, hh'⟩
  exact ⟨v, s, _, rfl, h s H' hR, hh'⟩
theorem O_callP {f : FuncId} {args : Array Operand} {ts : Array TypeId} {ss : List SVal} {r : SVal} (hf : callB P f = true) (ha : args.toList.map (look E) = ss.map some) (hc : FnP w0 P f ss r) (h : K r M) :
    OpS w0 P ⟨dst, .call ⟨.value (.func f), args, ts⟩, ty, pos, af, gd⟩ E M K :=
  O_call (H := []) (F := M) hf ha hc (.refl _) (by rintro s H' ⟨rfl, rfl⟩; exact h)
/-- A call of a function value. -/
theorem O_callV {x : Operand} {f : FuncId} {first cap : Array Value} {args : Array Operand} {ts : Array TypeId} {ss : List SVal} {H F : List HA} {R : SVal → List HA → Prop} (hx : look E x = some (.val (.func (.func f) first cap))) (hf : callB P f = true) (ha : args.toList.map (look E) = ss.map some)
    (hc : Fn w0 P f (first.toList.map SVal.val ++ ss ++ cap.toList.map SVal.val) H R) (hp : M.Perm (H ++ F)) (h : ∀ s H', R s H' → K s (H' ++ F)) : OpS w0 P ⟨dst, .call ⟨.value x, args, ts⟩, ty, pos, af, gd⟩ E M K := by
  intro X hX a w hh Q
  have e1 : a.eval x = .func (.func f) first cap := by
    obtain ⟨φ, hs, g, hS, he, hx'⟩ := hh
    exact (he.look hx).val_eq
  have h1 := hc X hX F (first ++ args.map a.eval ++ cap) w ((hh.perm hp).imp fun φ hx => ⟨by
    simp only [Array.toList_append, Array.toList_map]
    exact ((repVals φ first.toList).append (args_eval hx.1 args.toList ss ha)).append (repVals φ cap.toList), hx.2⟩)
  unfold Oper.wp
  have hrun : (execOp a.eval ⟨dst, .call ⟨.value x, args, ts⟩, ty, pos, af, gd⟩).run P w = .ok (.enter f (first ++ args.map a.eval ++ cap)) w := by
    simp [execOp, resolve, Deferred.ofValue, e1, invoke, callB.run hf]
  rw [hrun, Oper.upon_enter]
  refine h1.mono ?_
  rintro e w' ⟨v, s, H', rfl, hR, hh'⟩
  exact ⟨v, s, _, rfl, h s H' hR, hh'⟩
theorem O_makeFunc {f : FuncId} {first cap : Array Operand} {vs us : List Value} (h1 : first.toList.map (look E) = vs.map (fun v => some (.val v))) (h2 : cap.toList.map (look E) = us.map (fun v => some (.val v))) (h : K (.val (.func (.func f) vs.toArray us.toArray)) M) :
    OpS w0 P ⟨dst, .makeFunc (.func f) first cap, ty, pos, af, gd⟩ E M K :=
  .read fun φ _ a w g hS he => by
    have ev : ∀ (xs : List Operand) (ws : List Value), xs.map (look E) = ws.map (fun v => some (SVal.val v)) → xs.map a.eval = ws := by
      intro xs
      induction xs with
      | nil => intro ws h; cases ws with
        | nil => rfl
        | cons _ _ => simp at h
      | cons x xs ih => intro ws h; cases ws with
        | nil => simp at h
        | cons v ws =>
          simp only [List.map_cons, List.cons.injEq] at h ⊢
          exact ⟨(he.look h.1).val_eq, ih ws h.2⟩
    have e1 : first.map a.eval = vs.toArray := Array.ext' (by rw [Array.toList_map]; exact ev _ _ h1)
    have e2 : cap.map a.eval = us.toArray := Array.ext' (by rw [Array.toList_map]; exact ev _ _ h2)
    exact ⟨_, _, by simp [execOp, Instr.makeFunc, e1, e2], .val _, h⟩
end
/-! ### Turns of the state that no operation makes -/
section
variable {Γ : Cx} {c : Code} {e : Env} {H : List HA} {Q : Post}
/-- A row that no longer changes: its slice in slot d reads as a list from here on. -/
theorem freeze_own {w0 w : World} {v : Value} {ety : TypeId} {k : EK} {xs : List k.T} {H H' : List HA} {X : Hp → Prop} (hX : Mono X) [hd : OwnDel v H ety k xs H'] (h : Holds w0 H w X) : Holds w0 H' w (fun φ => Rep φ (.isl k xs) v ∧ X φ) := by
  obtain ⟨φ, hs, g, hS, hx⟩ := h.perm hd.u.perm
  obtain ⟨q, hs0, rfl, hq, t'⟩ := hS.cons_inv
  have hle : φ.le (φ.or q) := Hp.le_or _ _
  refine ⟨φ.or q, hs0, g.freeze, t'.mono hle, ?_, hX _ _ hle hx⟩
  rcases hq with ⟨e1, e2, _⟩ | ⟨b, cap, cur, e1, rfl, h1, h2, h3, r⟩
  · subst e1; subst e2
    exact .isl k [] none 0 (Nat.le_refl _) (by simp [maxLen]) (fun h => by simp at h) (fun _ _ => undef) (fun ad e => by cases e) (fun i hi => by simp at hi)
  · subst e1
    have hl := r.1
    rw [flat_length] at hl
    have hnone : φ b = none := by
      have := g.disj
      rw [List.pairwise_cons] at this
      rcases this.1 _ (List.mem_cons_self ..) b with h | h
      · exact h
      · simp [Hp.one] at h
    refine .isl k xs _ cap h1 h2 (fun _ => ⟨_, rfl⟩) (fun i j => (cur.toList.take (xs.length * k.size)).getD (i * k.size + j) undef) ?_ ?_
    · intro ad e i hi j hj
      injection e with e; subst e
      have hlt : i * k.size + j < xs.length * k.size := by
        have : i * k.size + k.size ≤ xs.length * k.size := by rw [← Nat.succ_mul]; exact Nat.mul_le_mul_right _ hi
        omega
      rw [add_mk, Nat.zero_add]
      have hor : (φ.or (Hp.one b (.cells cur ety (0, 0)))) b = some (.cells cur ety (0, 0)) := by simp [Hp.or, hnone, Hp.one]
      simp only [Hp.cell, hor, Option.isSome_none, Bool.false_eq_true, if_false]
      rw [List.getD_eq_getElem?_getD, List.getElem?_eq_getElem (by omega), Option.getD_some, List.getElem_take, ← Array.getElem?_toList]
      exact List.getElem?_eq_getElem _
    · intro i hi j hj
      have hlt : i * k.size + j < xs.length * k.size := by
        have : i * k.size + k.size ≤ xs.length * k.size := by rw [← Nat.succ_mul]; exact Nat.mul_le_mul_right _ hi
        omega
      have := (r.mono hle).2 (i * k.size + j) (by rw [flat_length]; exact hlt) (by omega)
      rw [flat_get k xs i j hi hj] at this
      rw [List.getD_eq_getElem?_getD, List.getElem?_eq_getElem (by omega), Option.getD_some]
      exact this
end
end Go.Proofs.YtabojfgmbfnoiaaGreatDoor
end
section
/- Regions that draw their order: one walk, floats (what only reads, what is new) as early as they may, serves every order. -/
set_option linter.unusedVariables false
set_option linter.unusedSimpArgs false
namespace Go.Proofs.YtabojfgmbfnoiaaGreatDoor
inductive DK where
  | pure | free | new | main | take | open_
  deriving DecidableEq
def preds (ops : Array Oper) (j : Nat) : List Nat := match ops[j]? with
  | some o => (o.after.toList.filter (Region.binds .any)).map (·.on)
  | none => []
def dstOf (ops : Array Oper) (j : Nat) : Option Tmp := (ops[j]?).bind (·.dst)
def sees (ops : Array Oper) (j : Nat) : List Tmp := match ops[j]? with
  | some o => o.looksAt ops
  | none => []
def isMain : DK → Bool
  | .main | .take | .open_ => true
  | _ => false
def okGo (ops : Array Oper) : List (Nat × DK) → List (Nat × DK) → Bool
  | _, [] => true
  | pre, (j, k) :: rem => (preds ops j).all (fun i => (pre.map (·.1)).contains i) && (!isMain k || rem.all (fun q => (preds ops q.1).any fun i => i == j || (rem.map (·.1)).contains i))
      && (k != .open_ || pre.all (fun q => q.2 != .pure || (preds ops j).contains q.1)) && !(pre.map (·.1)).contains j && okGo ops (pre ++ [(j, k)]) rem
def indep (ops : Array Oper) : Bool := (List.range ops.size).all fun i => match dstOf ops i with
  | none => true
  | some d => (List.range ops.size).all fun j => i == j || (dstOf ops j != some d && (!(sees ops j).contains d || (preds ops j).contains i || (preds ops i).contains j))
def okDraw (ops : Array Oper) (order : List (Nat × DK)) : Bool := okGo ops [] order && (List.range ops.size).all (fun i => (order.map (·.1)).contains i) && order.all (fun q => Nat.blt q.1 ops.size) && indep ops
def Env.del (E : Env) (d : Option Tmp) : Env := match d with
  | some d => E.filter fun p => !(Nat.beq p.1 d)
  | none => E
theorem Env.get_filter (f : Nat → Bool) : ∀ (E : Env) (k : Nat), Env.get (E.filter fun p => f p.1) k = if f k then E.get k else none
  | [], k => by simp [Env.get]
  | p :: E, k => by
    have ih := Env.get_filter f E k
    simp only [List.filter_cons]
    cases hb : Nat.beq p.1 k with
    | true =>
      have e := Nat.eq_of_beq_eq_true hb
      by_cases hf : f p.1
      · rw [if_pos hf, if_pos (e ▸ hf)]; simp [Env.get, hb]
      · rw [if_neg hf, if_neg (e ▸ hf), ih, if_neg (e ▸ hf)]
    | false =>
      by_cases hf : f p.1
      · rw [if_pos hf]; simp only [Env.get, hb, cond_false]; exact ih
      · rw [if_neg hf]; simp only [Env.get, hb, cond_false]; exact ih
def restr (ops : Array Oper) (o : Oper) (E : Env) : Env := E.filter fun p => (o.looksAt ops).contains p.1
structure PF where
  i : Nat
  G : Type
  sv : G → SVal
  A : G → HA
def takeQ (ops : Array Oper) : List PF → Env → List HA → (Env → List HA → Prop) → Prop
  | [], E, C, K => K E C
  | p :: ps, E, C, K => ∀ g : p.G, takeQ ops ps (E.put (dstOf ops p.i) (p.sv g)) (p.A g :: C) K
/-- Does it run? -/
def GuardIs (ops : Array Oper) (o : Oper) (E : Env) (b : Bool) : Prop := match o.guard with
  | none => b = true
  | some (g, want) => ∃ dj, dstOf ops g = some dj ∧ ((∃ v, E.get dj = some (sB v) ∧ b = (v == want)) ∨ (E.get dj = some (.val undef) ∧ b = false))
section
variable (w0 : World) (P : Program) (ops : Array Oper) (Q : Env → List HA → Prop)
def DMain (ro : List HA) (o : Oper) (E : Env) (C : List HA) (K : Env → List HA → Prop) : Prop := ∃ b, GuardIs ops o (restr ops o E) b ∧
  (b = true → ∀ F, OpS w0 P o (restr ops o E) (C ++ (ro ++ F)) (fun s M' => ∃ C', M' = C' ++ (ro ++ F) ∧ K (E.put o.dst s) C')) ∧ (b = false → K (E.put o.dst (.val undef)) C)
def inP (j : Nat) (p : PF) : Bool := (preds ops j).contains p.i
/-- 'pure' reads what doesn't change (ro); 'free' reads no memory; 'new' makes something; 'main' does anything to C; 'take' first takes what is new and comes before it; from 'open_' on nothing is only read. -/
def DP : List HA → List (Nat × DK) → List PF → Env → List HA → Prop
  | ro, [], PA, E, C => takeQ ops PA E C (fun E' C' => Q E' (C' ++ ro))
  | ro, (j, .pure) :: rem, PA, E, C => ∃ o, ops[j]? = some o ∧ ∃ b, GuardIs ops o (restr ops o E) b ∧
      (b = true → ∃ s, (∀ F, OpS w0 P o (restr ops o E) (ro ++ F) (fun s' M' => s' = s ∧ M' = ro ++ F)) ∧ DP ro rem PA (E.put o.dst s) C) ∧ (b = false → DP ro rem PA (E.put o.dst (.val undef)) C)
  | ro, (j, .free) :: rem, PA, E, C => ∃ o, ops[j]? = some o ∧ ∃ b, GuardIs ops o (restr ops o E) b ∧
      (b = true → ∃ s, (∀ F, OpS w0 P o (restr ops o E) F (fun s' M' => s' = s ∧ M' = F)) ∧ DP ro rem PA (E.put o.dst s) C) ∧ (b = false → DP ro rem PA (E.put o.dst (.val undef)) C)
  | ro, (j, .new) :: rem, PA, E, C => ∃ o, ops[j]? = some o ∧ o.guard = none ∧ ∃ p : PF, p.i = j ∧ (∀ F, OpS w0 P o (restr ops o E) F (fun s' M' => ∃ g, s' = p.sv g ∧ M' = p.A g :: F)) ∧ DP ro rem (p :: PA) (E.del o.dst) C
  | ro, (j, .main) :: rem, PA, E, C => ∃ o, ops[j]? = some o ∧ DMain w0 P ops ro o E C (fun E' C' => DP ro rem PA E' C')
  | ro, (j, .open_) :: rem, PA, E, C => ∃ o, ops[j]? = some o ∧ DMain w0 P ops [] o E (C ++ ro) (fun E' C' => DP [] rem PA E' C')
  | ro, (j, .take) :: rem, PA, E, C => ∃ o, ops[j]? = some o ∧ takeQ ops (PA.filter (inP ops j)) E C (fun E1 C1 => DMain w0 P ops ro o E1 C1 (fun E' C' => DP ro rem (PA.filter fun p => !inP ops j p) E' C'))
end
/-! ### Why one walk serves -/
def EnvIs (ops : Array Oper) (E0 : Env) (V : Nat → Option SVal) (done : List Nat) (E : Env) : Prop := ∀ d s, E.get d = some s → (∃ i, i ∈ done ∧ dstOf ops i = some d ∧ V i = some s) ∨ ((∀ i, i ∈ done → dstOf ops i ≠ some d) ∧ E0.get d = some s)
def Vset (V : Nat → Option SVal) (j : Nat) (s : SVal) : Nat → Option SVal := fun i => if i = j then some s else V i
theorem EnvIs.vset {ops : Array Oper} {E0 : Env} {V : Nat → Option SVal} {done : List Nat} {E : Env} (h : EnvIs ops E0 V done E) {j : Nat} (hj : j ∉ done) (s : SVal) : EnvIs ops E0 (Vset V j s) done E := fun d s' hs => by
  rcases h d s' hs with ⟨i, hi, h1, h2⟩ | h1
  · refine .inl ⟨i, hi, h1, ?_⟩
    have : i ≠ j := fun e => hj (e ▸ hi)
    simp [Vset, this, h2]
  · exact .inr h1
theorem get_put_some {E : Env} {d k : Nat} {s : SVal} : (E.put (some d) s).get k = if d = k then some s else E.get k := by
  simp only [Env.put, Env.get]
  cases hb : Nat.beq d k with
  | true => simp [Nat.eq_of_beq_eq_true hb]
  | false => simp [Nat.ne_of_beq_eq_false hb]
theorem EnvIs.put {ops : Array Oper} {E0 : Env} {V : Nat → Option SVal} {done : List Nat} {E : Env} (h : EnvIs ops E0 V done E) {j : Nat} (hj : j ∉ done) (s : SVal) : EnvIs ops E0 (Vset V j s) (done ++ [j]) (E.put (dstOf ops j) s) := fun d s' hs => by
  cases hd : dstOf ops j with
  | none =>
    rw [hd] at hs
    rcases (h.vset hj s) d s' hs with ⟨i, hi, h1, h2⟩ | ⟨h1, h2⟩
    · exact .inl ⟨i, List.mem_append_left _ hi, h1, h2⟩
    · refine .inr ⟨fun i hi => ?_, h2⟩
      rcases List.mem_append.1 hi with hi | hi
      · exact h1 i hi
      · simp at hi; subst hi; rw [hd]; simp
  | some q =>
    rw [hd, get_put_some] at hs
    split at hs
    · rename_i e; subst e
      injection hs with hs; subst hs
      exact .inl ⟨j, by simp, hd, by simp [Vset]⟩
    · rename_i e
      rcases (h.vset hj s) d s' hs with ⟨i, hi, h1, h2⟩ | ⟨h1, h2⟩
      · exact .inl ⟨i, List.mem_append_left _ hi, h1, h2⟩
      · refine .inr ⟨fun i hi => ?_, h2⟩
        rcases List.mem_append.1 hi with hi | hi
        · exact h1 i hi
        · simp at hi; subst hi; rw [hd]; simpa using e
theorem EnvIs.del {ops : Array Oper} {E0 : Env} {V : Nat → Option SVal} {done : List Nat} {E : Env} (h : EnvIs ops E0 V done E) (j : Nat) : EnvIs ops E0 V (done ++ [j]) (E.del (dstOf ops j)) := fun d s' hs => by
  cases hd : dstOf ops j with
  | none =>
    rw [hd] at hs
    rcases h d s' hs with ⟨i, hi, h1, h2⟩ | ⟨h1, h2⟩
    · exact .inl ⟨i, List.mem_append_left _ hi, h1, h2⟩
    · refine .inr ⟨fun i hi => ?_, h2⟩
      rcases List.mem_append.1 hi with hi | hi
      · exact h1 i hi
      · simp at hi; subst hi; rw [hd]; simp
  | some q =>
    rw [hd] at hs
    simp only [Env.del] at hs
    rw [Env.get_filter (fun p => !(Nat.beq p q))] at hs
    split at hs
    · rename_i e
      have e : d ≠ q := by
        intro e2; subst e2; simp at e
      rcases h d s' hs with ⟨i, hi, h1, h2⟩ | ⟨h1, h2⟩
      · exact .inl ⟨i, List.mem_append_left _ hi, h1, h2⟩
      · refine .inr ⟨fun i hi => ?_, h2⟩
        rcases List.mem_append.1 hi with hi | hi
        · exact h1 i hi
        · simp at hi; subst hi; rw [hd]; simpa using fun e2 => e e2.symm
    · cases hs
/-- What is known of the frame: what has run, what was there. -/
def ActIs (ops : Array Oper) (E0 : Env) (V : Nat → Option SVal) (ex : Nat → Prop) (φ : Hp) (a : Act) : Prop :=
  (∀ i, ex i → ∀ d s, dstOf ops i = some d → V i = some s → Rep φ s (a.tmps.getD d undef)) ∧ ∀ d s, (∀ i, ex i → dstOf ops i ≠ some d) → E0.get d = some s → Rep φ s (a.tmps.getD d undef)
theorem ActIs.mono {ops : Array Oper} {E0 : Env} {V : Nat → Option SVal} {ex : Nat → Prop} {φ φ' : Hp} {a : Act} (hl : φ.le φ') (h : ActIs ops E0 V ex φ a) : ActIs ops E0 V ex φ' a := ⟨fun i hi d s h1 h2 => (h.1 i hi d s h1 h2).mono hl, fun d s h1 h2 => (h.2 d s h1 h2).mono hl⟩
theorem indep_spec {ops : Array Oper} (h : indep ops = true) {i j : Nat} (hi : i < ops.size) (hj : j < ops.size) (hne : i ≠ j) {d : Tmp} (hd : dstOf ops i = some d) : dstOf ops j ≠ some d ∧ (d ∈ sees ops j → i ∈ preds ops j ∨ j ∈ preds ops i) := by
  simp only [indep, List.all_eq_true, List.mem_range] at h
  have h1 := h i hi
  rw [hd] at h1
  simp only [List.all_eq_true, List.mem_range] at h1
  have h2 := h1 j hj
  simp only [Bool.or_eq_true, beq_iff_eq, hne, false_or, Bool.and_eq_true, bne_iff_ne, Bool.not_eq_true'] at h2
  refine ⟨h2.1, fun hs => ?_⟩
  rcases h2.2 with (h3 | h3) | h3
  · simp at h3; exact absurd hs h3
  · exact .inl (by simpa using h3)
  · exact .inr (by simpa using h3)
theorem dst_lt {ops : Array Oper} {i : Nat} {d : Tmp} (h : dstOf ops i = some d) : i < ops.size := by
  unfold dstOf at h
  cases ho : ops[i]? with
  | none => rw [ho] at h; cases h
  | some o => exact (Array.getElem?_eq_some_iff.1 ho).1
/-- The operation's own slots read as the walk says. -/
theorem env_ready {ops : Array Oper} (hind : indep ops = true) {E0 : Env} {V : Nat → Option SVal} {ex : Nat → Prop} {φ : Hp} {a : Act} (hA : ActIs ops E0 V ex φ a) {bef : List Nat} {E : Env} (hE : EnvIs ops E0 V bef E) {j : Nat} {o : Oper} (ho : ops[j]? = some o)
    (hpr : ∀ i, i ∈ preds ops j → ex i) (hnj : ¬ ex j) (hcl : ∀ i, ex i → ∀ q, q ∈ preds ops i → ex q) (hbp : ∀ i, i ∈ preds ops j → i ∈ bef) (hbf : ∀ i, i ∈ bef → j ∉ preds ops i) (hnb : j ∉ bef) (hsz : ∀ i, ex i → i < ops.size) : EnvRep φ (restr ops o E) a := by
  intro d s hs
  rw [restr, Env.get_filter (fun p => (o.looksAt ops).contains p)] at hs
  split at hs
  · rename_i hc
    have hsee : d ∈ sees ops j := by simp only [sees, ho]; simpa using hc
    have hj : j < ops.size := (Array.getElem?_eq_some_iff.1 ho).1
    rcases hE d s hs with ⟨i, hi, h1, h2⟩ | ⟨h1, h2⟩
    · have hne : i ≠ j := fun e => hnb (e ▸ hi)
      rcases (indep_spec hind (dst_lt h1) hj hne h1).2 hsee with h3 | h3
      · exact hA.1 i (hpr i h3) d s h1 h2
      · exact absurd h3 (hbf i hi)
    · refine hA.2 d s (fun i hi hd => ?_) h2
      have hne : i ≠ j := fun e => hnj (e ▸ hi)
      rcases (indep_spec hind (hsz i hi) hj hne hd).2 hsee with h3 | h3
      · exact h1 i (hbp i h3) hd
      · exact hnj (hcl i hi j h3)
  · cases hs
theorem guard_wanted {ops : Array Oper} {o : Oper} {E : Env} {b : Bool} {φ : Hp} {a : Act} {n : Nat} (h : GuardIs ops o E b) (he : EnvRep φ E a) (hn : ∀ j d, dstOf ops j = some d → d < a.tmps.size) : Region.wanted o (yielded ops a.tmps) = b := by
  unfold GuardIs at h
  unfold Region.wanted
  cases hg : o.guard with
  | none => rw [hg] at h; exact h.symm
  | some q =>
    obtain ⟨g, want⟩ := q
    rw [hg] at h
    obtain ⟨dj, h1, h⟩ := h
    have hlt := hn g dj h1
    have hy : ∀ u, E.get dj = some (.val u) → a.tmps[dj]? = some u := fun u h2 => by
      have hv := (he dj _ h2).val_eq
      rw [Array.getElem?_eq_getElem hlt]
      rw [Array.getD_eq_getD_getElem?, Array.getElem?_eq_getElem hlt] at hv
      simpa using hv
    unfold dstOf at h1
    rcases h with ⟨v, h2, h3⟩ | ⟨h2, h3⟩
    · have := hy _ h2
      have hy : yielded ops a.tmps g = some v := by simp [yielded, h1, this]
      simp [hy, h3]
    · have := hy _ h2
      have hy : yielded ops a.tmps g = none := by simp [yielded, h1, this, undef]
      simp [hy, h3]
inductive NewH (ops : Array Oper) (ex : Nat → Prop) : List PF → List HA → (Hp → Act → Prop) → Prop where
  | nil : NewH ops ex [] [] (fun _ _ => True)
  | yes (p : PF) (g : p.G) {ps : List PF} {Hn : List HA} {T : Hp → Act → Prop} (h : ex p.i) (t : NewH ops ex ps Hn T) : NewH ops ex (p :: ps) (p.A g :: Hn) (fun φ a => (∀ d, dstOf ops p.i = some d → Rep φ (p.sv g) (a.tmps.getD d undef)) ∧ T φ a)
  | no (p : PF) {ps : List PF} {Hn : List HA} {T : Hp → Act → Prop} (h : ¬ ex p.i) (t : NewH ops ex ps Hn T) : NewH ops ex (p :: ps) Hn T
theorem NewH.mono {ops : Array Oper} {ex : Nat → Prop} {ps : List PF} {Hn : List HA} {T : Hp → Act → Prop} (h : NewH ops ex ps Hn T) {φ φ' : Hp} (hl : φ.le φ') {a : Act} (hT : T φ a) : T φ' a := by
  induction h with
  | nil => trivial
  | yes p g h t ih => exact ⟨fun d hd => (hT.1 d hd).mono hl, ih hT.2⟩
  | no p h t ih => exact ih hT
/-- Another operation has run. -/
theorem NewH.other {ops : Array Oper} (hind : indep ops = true) {ex : Nat → Prop} {j : Nat} (hj : j < ops.size) (hnj : ¬ ex j) {ps : List PF} {Hn : List HA} {T : Hp → Act → Prop} (h : NewH ops ex ps Hn T) (hps : ∀ p, p ∈ ps → p.i ≠ j) :
    ∃ T', NewH ops (fun i => ex i ∨ i = j) ps Hn T' ∧ ∀ φ a v, T φ a → T' φ (a.put (dstOf ops j) v) := by
  induction h with
  | nil => exact ⟨_, .nil, fun _ _ _ _ => trivial⟩
  | yes p g h t ih =>
    obtain ⟨T', h1, h2⟩ := ih (fun q hq => hps q (List.mem_cons_of_mem _ hq))
    refine ⟨_, .yes p g (.inl h) h1, fun φ a v hT => ⟨fun d hd => ?_, h2 φ a v hT.2⟩⟩
    have hne : p.i ≠ j := hps p (List.mem_cons_self ..)
    have h3 := (indep_spec hind (dst_lt hd) hj hne hd).1
    have h4 := hT.1 d hd
    cases hdj : dstOf ops j with
    | none => exact h4
    | some q =>
      have : q ≠ d := fun e => h3 (by rw [hdj, e])
      simpa [Act.put, Array.getD_eq_getD_getElem?, Array.getElem?_setIfInBounds, this] using h4
  | no p h t ih =>
    obtain ⟨T', h1, h2⟩ := ih (fun q hq => hps q (List.mem_cons_of_mem _ hq))
    exact ⟨T', .no p (by rintro (h3 | h3); exact h h3; exact hps p (List.mem_cons_self ..) h3) h1, h2⟩
theorem ActIs.run {ops : Array Oper} (hind : indep ops = true) {E0 : Env} {V : Nat → Option SVal} {ex : Nat → Prop} {φ : Hp} {a : Act} (hA : ActIs ops E0 V ex φ a) {j : Nat} (hj : j < ops.size) (hnj : ¬ ex j) (hsz : ∀ i, ex i → i < ops.size) {v : Value}
    (hv : ∀ s, V j = some s → Rep φ s v) (hn : ∀ d, dstOf ops j = some d → d < a.tmps.size) : ActIs ops E0 V (fun i => ex i ∨ i = j) φ (a.put (dstOf ops j) v) := by
  have far : ∀ d, dstOf ops j ≠ some d → (a.put (dstOf ops j) v).tmps.getD d undef = a.tmps.getD d undef := by
    intro d hd
    cases hdj : dstOf ops j with
    | none => rfl
    | some q =>
      have : q ≠ d := fun e => hd (by rw [hdj, e])
      simp [Act.put, Array.getD_eq_getD_getElem?, Array.getElem?_setIfInBounds, this]
  refine ⟨fun i hi d s h1 h2 => ?_, fun d s h1 h2 => ?_⟩
  · rcases hi with hi | rfl
    · have hne : i ≠ j := fun e => hnj (e ▸ hi)
      rw [far d (indep_spec hind (hsz i hi) hj hne h1).1]
      exact hA.1 i hi d s h1 h2
    · rw [h1]
      have := hn d h1
      simpa [Act.put, Array.getD_eq_getD_getElem?, Array.getElem?_setIfInBounds, this] using hv s h2
  · rw [far d (h1 j (.inr rfl))]
    exact hA.2 d s (fun i hi => h1 i (.inl hi)) h2
end Go.Proofs.YtabojfgmbfnoiaaGreatDoor
end
section
/- Regions that draw their order: the theorem. -/
set_option linter.unusedVariables false
set_option linter.unusedSimpArgs false
namespace Go.Proofs.YtabojfgmbfnoiaaGreatDoor
theorem EnvIs.vnone {ops : Array Oper} {E0 : Env} {V : Nat → Option SVal} {done : List Nat} {E : Env} (h : EnvIs ops E0 V done E) {j : Nat} (hj : V j = none) (s : SVal) : EnvIs ops E0 (Vset V j s) done E := fun d s' hs => by
  rcases h d s' hs with ⟨i, hi, h1, h2⟩ | h1
  · refine .inl ⟨i, hi, h1, ?_⟩
    have : i ≠ j := fun e => by subst e; rw [hj] at h2; cases h2
    simp [Vset, this, h2]
  · exact .inr h1
theorem EnvIs.putIn {ops : Array Oper} (hind : indep ops = true) {E0 : Env} {V : Nat → Option SVal} {done : List Nat} {E : Env} (h : EnvIs ops E0 V done E) {j : Nat} (hj : j ∈ done) (hV : V j = none) (s : SVal) : EnvIs ops E0 (Vset V j s) done (E.put (dstOf ops j) s) := fun d s' hs => by
  cases hd : dstOf ops j with
  | none => rw [hd] at hs; exact (h.vnone hV s) d s' hs
  | some q =>
    rw [hd, get_put_some] at hs
    split at hs
    · rename_i e; subst e
      injection hs with hs; subst hs
      exact .inl ⟨j, hj, hd, by simp [Vset]⟩
    · exact (h.vnone hV s) d s' hs
theorem ActIs.vset {ops : Array Oper} {E0 : Env} {V : Nat → Option SVal} {ex : Nat → Prop} {φ : Hp} {a : Act} (h : ActIs ops E0 V ex φ a) {j : Nat} {s : SVal} (hj : ¬ ex j ∨ ∀ d, dstOf ops j = some d → Rep φ s (a.tmps.getD d undef)) : ActIs ops E0 (Vset V j s) ex φ a :=
  ⟨fun i hi d s' h1 h2 => by
    by_cases e : i = j
    · subst e
      simp [Vset] at h2; subst h2
      rcases hj with hj | hj
      · exact absurd hi hj
      · exact hj d h1
    · simp [Vset, e] at h2; exact h.1 i hi d s' h1 h2, h.2⟩
theorem NewH.hit {ops : Array Oper} (hind : indep ops = true) {ex : Nat → Prop} {j : Nat} (hj : j < ops.size) (hnj : ¬ ex j) {ps : List PF} {Hn : List HA} {T : Hp → Act → Prop} (h : NewH ops ex ps Hn T) (hnd : (ps.map (·.i)).Nodup) {p : PF} (hp : p ∈ ps) (hpi : p.i = j) (g : p.G) :
    ∃ Hn' T', NewH ops (fun i => ex i ∨ i = j) ps Hn' T' ∧ (p.A g :: Hn).Perm Hn' ∧ ∀ φ a v, T φ a → (∀ d, dstOf ops j = some d → Rep φ (p.sv g) ((a.put (dstOf ops j) v).tmps.getD d undef)) → T' φ (a.put (dstOf ops j) v) := by
  induction h with
  | nil => cases hp
  | @yes q g' ps Hn T h t ih =>
    have hq : q.i ≠ j := fun e => hnj (e ▸ h)
    rcases List.mem_cons.1 hp with e | hp
    · subst e; exact absurd hpi hq
    · obtain ⟨Hn', T', h1, h2, h3⟩ := ih (List.nodup_cons.1 hnd).2 hp
      refine ⟨_, _, .yes q g' (.inl h) h1, (List.Perm.swap _ _ _).trans (.cons _ h2), fun φ a v hT hv => ⟨fun d hd => ?_, h3 φ a v hT.2 hv⟩⟩
      have h3 := (indep_spec hind (dst_lt hd) hj hq hd).1
      have h4 := hT.1 d hd
      cases hdj : dstOf ops j with
      | none => exact h4
      | some q =>
        have : q ≠ d := fun e => h3 (by rw [hdj, e])
        simpa [Act.put, Array.getD_eq_getD_getElem?, Array.getElem?_setIfInBounds, this] using h4
  | @no q ps Hn T h t ih =>
    rcases List.mem_cons.1 hp with e | hp
    · subst e
      have hne : ∀ r, r ∈ ps → r.i ≠ j := fun r hr e => (List.nodup_cons.1 hnd).1 (List.mem_map.2 ⟨r, hr, e.trans hpi.symm⟩)
      obtain ⟨T', h1, h2⟩ := NewH.other hind hj hnj t hne
      exact ⟨_, _, .yes p g (.inr hpi) h1, .refl _, fun φ a v hT hv => ⟨fun d hd => hv d (by rw [← hpi]; exact hd), h2 φ a v hT⟩⟩
    · have hq : q.i ≠ j := fun e => (List.nodup_cons.1 hnd).1 (List.mem_map.2 ⟨p, hp, hpi.trans e.symm⟩)
      obtain ⟨Hn', T', h1, h2, h3⟩ := ih (List.nodup_cons.1 hnd).2 hp
      exact ⟨Hn', T', .no q (by rintro (h5 | h5); exact h h5; exact hq h5) h1, h2, h3⟩
/-- All that is new is there: it is taken. -/
theorem take_spec {ops : Array Oper} (hind : indep ops = true) {E0 : Env} {ex : Nat → Prop} {done : List Nat} {ps : List PF} {Hn : List HA} {T : Hp → Act → Prop} (h : NewH ops ex ps Hn T) (hall : ∀ p, p ∈ ps → ex p.i) (hdone : ∀ p, p ∈ ps → p.i ∈ done) (hnd : (ps.map (·.i)).Nodup) {K : Env → List HA → Prop} :
    ∀ {V : Nat → Option SVal} {E : Env} {C : List HA}, (∀ p, p ∈ ps → V p.i = none) → EnvIs ops E0 V done E → takeQ ops ps E C K → ∃ E' C' V', K E' C' ∧ EnvIs ops E0 V' done E' ∧ (Hn ++ C).Perm C' ∧ (∀ φ a, ActIs ops E0 V ex φ a → T φ a → ActIs ops E0 V' ex φ a) ∧ (∀ bef F, EnvIs ops E0 V bef F → EnvIs ops E0 V' bef F) ∧
      (∀ i s, V i = some s → V' i = some s) ∧ (∀ i, V' i ≠ none → V i ≠ none ∨ ∃ p, p ∈ ps ∧ p.i = i) := by
  induction h with
  | nil => intro V E C hV hE hq; exact ⟨E, C, V, hq, hE, .refl _, fun φ a h _ => h, fun _ _ h => h, fun _ _ h => h, fun _ h => .inl h⟩
  | @yes p g ps Hn T h t ih =>
    intro V E C hV hE hq
    have hVp := hV p (List.mem_cons_self ..)
    have hne : ∀ q, q ∈ ps → q.i ≠ p.i := fun q hq e => (List.nodup_cons.1 hnd).1 (List.mem_map.2 ⟨q, hq, e⟩)
    obtain ⟨E', C', V', h1, h2, h3, h4, h5, h6, h7⟩ := ih (fun q hq => hall q (List.mem_cons_of_mem _ hq)) (fun q hq => hdone q (List.mem_cons_of_mem _ hq)) (List.nodup_cons.1 hnd).2
      (V := Vset V p.i (p.sv g)) (fun q hq => by simp [Vset, hne q hq]; exact hV q (List.mem_cons_of_mem _ hq)) (hE.putIn hind (hdone p (List.mem_cons_self ..)) hVp (p.sv g)) (hq g)
    refine ⟨E', C', V', h1, h2, ?_, fun φ a hA hT => h4 φ a (hA.vset (.inr hT.1)) hT.2, fun bef F hF => h5 bef F (hF.vnone hVp _), fun i s hs => h6 i s ?_, fun i hi => ?_⟩
    · exact (List.perm_middle.symm).trans h3
    · have : i ≠ p.i := fun e => by subst e; rw [hVp] at hs; cases hs
      simp [Vset, this, hs]
    · rcases h7 i hi with h8 | ⟨q, hq, e⟩
      · by_cases e : i = p.i
        · exact .inr ⟨p, List.mem_cons_self .., e.symm⟩
        · simp [Vset, e] at h8; exact .inl h8
      · exact .inr ⟨q, List.mem_cons_of_mem _ hq, e⟩
  | @no p ps Hn T h t ih => exact absurd (hall p (List.mem_cons_self ..)) h
theorem NewH.split {ops : Array Oper} {ex : Nat → Prop} {ps : List PF} {Hn : List HA} {T : Hp → Act → Prop} (h : NewH ops ex ps Hn T) (f : PF → Bool) :
    ∃ Hn1 T1 Hn2 T2, NewH ops ex (ps.filter f) Hn1 T1 ∧ NewH ops ex (ps.filter fun p => !f p) Hn2 T2 ∧ Hn.Perm (Hn1 ++ Hn2) ∧ ∀ φ a, T φ a → T1 φ a ∧ T2 φ a := by
  induction h with
  | nil => exact ⟨_, _, _, _, .nil, .nil, .refl _, fun _ _ _ => ⟨trivial, trivial⟩⟩
  | @yes p g ps Hn T h t ih =>
    obtain ⟨Hn1, T1, Hn2, T2, h1, h2, h3, h4⟩ := ih
    by_cases hf : f p = true
    · refine ⟨p.A g :: Hn1, fun φ a => (∀ d, dstOf ops p.i = some d → Rep φ (p.sv g) (a.tmps.getD d undef)) ∧ T1 φ a, Hn2, T2, ?_, ?_, (List.Perm.cons (p.A g) h3), fun φ a hT => ⟨⟨hT.1, (h4 φ a hT.2).1⟩, (h4 φ a hT.2).2⟩⟩
      · rw [List.filter_cons, if_pos hf]; exact .yes p g h h1
      · rw [List.filter_cons, if_neg (by simp [hf])]; exact h2
    · refine ⟨Hn1, T1, p.A g :: Hn2, fun φ a => (∀ d, dstOf ops p.i = some d → Rep φ (p.sv g) (a.tmps.getD d undef)) ∧ T2 φ a, ?_, ?_, (List.Perm.cons (p.A g) h3).trans List.perm_middle.symm, fun φ a hT => ⟨(h4 φ a hT.2).1, ⟨hT.1, (h4 φ a hT.2).2⟩⟩⟩
      · rw [List.filter_cons, if_neg hf]; exact h1
      · rw [List.filter_cons, if_pos (by simp [hf])]; exact .yes p g h h2
  | @no p ps Hn T h t ih =>
    obtain ⟨Hn1, T1, Hn2, T2, h1, h2, h3, h4⟩ := ih
    by_cases hf : f p = true
    · refine ⟨Hn1, T1, Hn2, T2, ?_, ?_, h3, h4⟩
      · rw [List.filter_cons, if_pos hf]; exact .no p h h1
      · rw [List.filter_cons, if_neg (by simp [hf])]; exact h2
    · refine ⟨Hn1, T1, Hn2, T2, ?_, ?_, h3, h4⟩
      · rw [List.filter_cons, if_neg hf]; exact h1
      · rw [List.filter_cons, if_pos (by simp [hf])]; exact .no p h h2
section
variable (Γ : Cx) (ops : Array Oper) (Q : Env → List HA → Prop) (E0 : Env)
def PureF (ro : List HA) (V : Nat → Option SVal) (j : Nat) : Prop := ∃ o E b bef, ops[j]? = some o ∧ EnvIs ops E0 V bef E ∧ (∀ i, i ∈ preds ops j → i ∈ bef) ∧ (∀ i, i ∈ bef → j ∉ preds ops i) ∧ j ∉ bef ∧ GuardIs ops o (restr ops o E) b ∧
  (b = true → ∃ s, V j = some s ∧ ∀ F, OpS Γ.w0 Γ.P o (restr ops o E) (ro ++ F) (fun s' M' => s' = s ∧ M' = ro ++ F)) ∧ (b = false → V j = some (.val undef))
def NewF (V : Nat → Option SVal) (PA : List PF) (j : Nat) : Prop := ∃ o E bef p, ops[j]? = some o ∧ EnvIs ops E0 V bef E ∧ (∀ i, i ∈ preds ops j → i ∈ bef) ∧ (∀ i, i ∈ bef → j ∉ preds ops i) ∧ j ∉ bef ∧ o.guard = none ∧ p ∈ PA ∧ p.i = j ∧
  ∀ F, OpS Γ.w0 Γ.P o (restr ops o E) F (fun s' M' => ∃ g, s' = p.sv g ∧ M' = p.A g :: F)
structure InvS (ro : List HA) (ex : Nat → Prop) (a : Act) (w : World) (pre rem : List (Nat × DK)) (PA : List PF) (E : Env) (C : List HA) (V : Nat → Option SVal) (Hn : List HA) (T : Hp → Act → Prop) : Prop where
  ok : okGo ops pre rem = true
  dp : DP Γ.w0 Γ.P ops Q ro rem PA E C
  env : EnvIs ops E0 V (pre.map (·.1)) E
  main : ∀ q, q ∈ pre → isMain q.2 = true → ex q.1
  rest : ∀ q, q ∈ rem → ¬ ex q.1
  pf : ∀ q, q ∈ pre → ¬ ex q.1 → q.2 = .pure → PureF Γ ops E0 ro V q.1
  ff : ∀ q, q ∈ pre → ¬ ex q.1 → q.2 = .free → ∀ ro', PureF Γ ops E0 ro' V q.1
  nf : ∀ q, q ∈ pre → ¬ ex q.1 → q.2 = .new → NewF Γ ops E0 V PA q.1
  pa : ∀ p, p ∈ PA → (p.i, DK.new) ∈ pre ∧ V p.i = none
  nd : (PA.map (·.i)).Nodup
  pc : ∀ i, i ∈ pre.map (·.1) → ∀ q, q ∈ preds ops i → q ∈ pre.map (·.1)
  cl : ∀ i, ex i → ∀ q, q ∈ preds ops i → ex q
  sz : ∀ i, ex i → i < ops.size
  newh : NewH ops ex PA Hn T
  size : a.tmps.size = Γ.n
  defers : a.defers = []
  holds : Holds Γ.w0 (Hn ++ (C ++ ro)) w (fun φ => ActIs ops E0 V ex φ a ∧ T φ a ∧ Γ.X φ)
  vd : ∀ i, V i ≠ none → i ∈ pre.map (·.1)
  all : ∀ i, i < ops.size → i ∈ (pre ++ rem).map (·.1)
  lt : ∀ q, q ∈ pre ++ rem → q.1 < ops.size
end
section
variable {Γ : Cx} {ops : Array Oper} {ro : List HA} {Q : Env → List HA → Prop} {E0 : Env} {ex : Nat → Prop} {a : Act} {w : World} {pre rem : List (Nat × DK)} {PA : List PF} {E : Env} {C : List HA} {V : Nat → Option SVal} {Hn : List HA} {T : Hp → Act → Prop}
theorem okGo_cons {j : Nat} {k : DK} (h : okGo ops pre ((j, k) :: rem) = true) : (∀ i, i ∈ preds ops j → i ∈ pre.map (·.1)) ∧ (isMain k = true → ∀ q, q ∈ rem → ∃ i, i ∈ preds ops q.1 ∧ (i = j ∨ i ∈ rem.map (·.1))) ∧ (k = .open_ → ∀ q, q ∈ pre → q.2 = .pure → q.1 ∈ preds ops j) ∧
    j ∉ pre.map (·.1) ∧ okGo ops (pre ++ [(j, k)]) rem = true := by
  simp only [okGo, Bool.and_eq_true] at h
  obtain ⟨⟨⟨⟨h1, h2⟩, h3⟩, h4⟩, h5⟩ := h
  refine ⟨fun i hi => by simpa using List.all_eq_true.1 h1 i hi, fun hk q hq => ?_, fun hk q hq hn => ?_, by simpa using h4, h5⟩
  · rw [hk] at h2
    simp only [Bool.not_true, Bool.false_or, List.all_eq_true] at h2
    obtain ⟨i, hi, h6⟩ := List.any_eq_true.1 (h2 q hq)
    exact ⟨i, hi, by simpa using h6⟩
  · subst hk
    simp only [bne_self_eq_false, Bool.false_or, List.all_eq_true] at h3
    have := h3 q hq
    rw [hn] at this
    simpa using this
theorem PureF.vset {V : Nat → Option SVal} {j : Nat} (h : PureF Γ ops E0 ro V j) {i : Nat} (hV : V i = none) (s : SVal) : PureF Γ ops E0 ro (Vset V i s) j := by
  obtain ⟨o, E, b, bef, h1, h2, h3, h4, h5, h6, h7, h8⟩ := h
  have hne : ∀ s', V j = some s' → Vset V i s j = some s' := fun s' hs => by
    have : j ≠ i := fun e => by subst e; rw [hV] at hs; cases hs
    simp [Vset, this, hs]
  exact ⟨o, E, b, bef, h1, h2.vnone hV s, h3, h4, h5, h6, fun hb => let ⟨s', h9, h10⟩ := h7 hb; ⟨s', hne _ h9, h10⟩, fun hb => hne _ (h8 hb)⟩
theorem NewF.vset {V : Nat → Option SVal} {j : Nat} (h : NewF Γ ops E0 V PA j) {i : Nat} (hV : V i = none) (s : SVal) : NewF Γ ops E0 (Vset V i s) PA j := by
  obtain ⟨o, E, bef, p, h1, h2, h3⟩ := h
  exact ⟨o, E, bef, p, h1, h2.vnone hV s, h3⟩
theorem NewF.more {V : Nat → Option SVal} {j : Nat} (h : NewF Γ ops E0 V PA j) (p : PF) : NewF Γ ops E0 V (p :: PA) j := by
  obtain ⟨o, E, bef, q, h1, h2, h3, h4, h5, h6, h7, h8⟩ := h
  exact ⟨o, E, bef, q, h1, h2, h3, h4, h5, h6, List.mem_cons_of_mem _ h7, h8⟩
/-- A pure one is passed. -/
theorem InvS.passP {j : Nat} {k : DK} {o : Oper} {b : Bool} {s : SVal} (h : InvS Γ ops Q E0 ro ex a w pre ((j, k) :: rem) PA E C V Hn T) (hk : k = .pure ∨ k = .free) (ho : ops[j]? = some o) (hg : GuardIs ops o (restr ops o E) b)
    (hdp : DP Γ.w0 Γ.P ops Q ro rem PA (E.put o.dst s) C) (h1 : b = true → k = .pure → ∀ F, OpS Γ.w0 Γ.P o (restr ops o E) (ro ++ F) (fun s' M' => s' = s ∧ M' = ro ++ F)) (h1' : b = true → k = .free → ∀ F, OpS Γ.w0 Γ.P o (restr ops o E) F (fun s' M' => s' = s ∧ M' = F)) (h2 : b = false → s = .val undef) :
    InvS Γ ops Q E0 ro ex a w (pre ++ [(j, k)]) rem PA (E.put o.dst s) C (Vset V j s) Hn T := by
  obtain ⟨ok1, ok2, ok3, ok4, ok5⟩ := okGo_cons h.ok
  have hVj : V j = none := by
    cases hv : V j with
    | none => rfl
    | some s => exact absurd (h.vd j (by rw [hv]; simp)) ok4
  have hdo : o.dst = dstOf ops j := by simp [dstOf, ho]
  have hex : ¬ ex j := h.rest (j, k) (List.mem_cons_self ..)
  have hpre : ∀ i, i ∈ pre.map (·.1) → j ∉ preds ops i := fun i hi hj => ok4 (h.pc i hi j hj)
  refine ⟨ok5, hdp, ?_, fun q hq hk' => ?_, fun q hq => h.rest q (List.mem_cons_of_mem _ hq), fun q hq hx hk' => ?_, fun q hq hx hk' ro' => ?_, fun q hq hx hk' => ?_, fun p hp => ?_, h.nd, fun i hi q hq => ?_, h.cl, h.sz, h.newh, h.size, h.defers, h.holds.imp fun φ hx => ⟨hx.1.vset (.inl hex), hx.2⟩, fun i hi => ?_, fun i hi => ?_, fun q hq => ?_⟩
  · rw [List.map_append, hdo]; exact h.env.put ok4 s
  · rcases List.mem_append.1 hq with hq | hq
    · exact h.main q hq hk'
    · simp at hq; subst hq; rcases hk with rfl | rfl <;> cases hk'
  · rcases List.mem_append.1 hq with hq | hq
    · exact (h.pf q hq hx hk').vset hVj s
    · simp at hq; subst hq
      exact ⟨o, E, b, pre.map (·.1), ho, h.env.vnone hVj s, ok1, hpre, ok4, hg, fun hb => ⟨s, by simp [Vset], h1 hb hk'⟩, fun hb => by simp [Vset, h2 hb]⟩
  · rcases List.mem_append.1 hq with hq | hq
    · exact (h.ff q hq hx hk' ro').vset hVj s
    · simp at hq; subst hq
      exact ⟨o, E, b, pre.map (·.1), ho, h.env.vnone hVj s, ok1, hpre, ok4, hg, fun hb => ⟨s, by simp [Vset], fun F => h1' hb hk' (ro' ++ F)⟩, fun hb => by simp [Vset, h2 hb]⟩
  · rcases List.mem_append.1 hq with hq | hq
    · exact (h.nf q hq hx hk').vset hVj s
    · simp at hq; subst hq; rcases hk with rfl | rfl <;> cases hk'
  · obtain ⟨h3, h4⟩ := h.pa p hp
    refine ⟨List.mem_append_left _ h3, ?_⟩
    have : p.i ≠ j := fun e => ok4 (by rw [← e]; exact List.mem_map.2 ⟨_, h3, rfl⟩)
    simp [Vset, this, h4]
  · rw [List.map_append] at hi ⊢
    rcases List.mem_append.1 hi with hi | hi
    · exact List.mem_append_left _ (h.pc i hi q hq)
    · simp at hi; subst hi; exact List.mem_append_left _ (ok1 q hq)
  · rw [List.map_append]
    by_cases e : i = j
    · subst e; simp
    · simp [Vset, e] at hi
      exact List.mem_append_left _ (h.vd i hi)
  · have := h.all i hi; simpa using this
  · exact h.lt q (by simpa using hq)
/-- The walk goes on over floats: nothing runs. -/
theorem InvS.adv : ∀ (rem : List (Nat × DK)) {pre : List (Nat × DK)} {PA : List PF} {E : Env} {V : Nat → Option SVal} {Hn : List HA} {T : Hp → Act → Prop}, InvS Γ ops Q E0 ro ex a w pre rem PA E C V Hn T →
    ∃ pre' rem' PA' E' V' Hn' T', InvS Γ ops Q E0 ro ex a w pre' rem' PA' E' C V' Hn' T' ∧ (rem' = [] ∨ ∃ j k t, rem' = (j, k) :: t ∧ isMain k = true) ∧ pre' ++ rem' = pre ++ rem
  | [], pre, PA, E, V, Hn, T, h => ⟨_, _, _, _, _, _, _, h, .inl rfl, rfl⟩
  | (j, .main) :: rem, pre, PA, E, V, Hn, T, h => ⟨_, _, _, _, _, _, _, h, .inr ⟨_, _, _, rfl, rfl⟩, rfl⟩
  | (j, .take) :: rem, pre, PA, E, V, Hn, T, h => ⟨_, _, _, _, _, _, _, h, .inr ⟨_, _, _, rfl, rfl⟩, rfl⟩
  | (j, .open_) :: rem, pre, PA, E, V, Hn, T, h => ⟨_, _, _, _, _, _, _, h, .inr ⟨_, _, _, rfl, rfl⟩, rfl⟩
  | (j, .pure) :: rem, pre, PA, E, V, Hn, T, h => by
    obtain ⟨o, ho, b, hg, hb1, hb2⟩ := h.dp
    cases b with
    | true =>
      obtain ⟨s, h1, h2⟩ := hb1 rfl
      obtain ⟨p1, r1, PA1, E1, V1, Hn1, T1, g1, g2, g3⟩ := InvS.adv rem (h.passP (.inl rfl) ho hg h2 (fun _ _ => h1) (fun _ hk => by cases hk) (fun hb => by cases hb))
      exact ⟨p1, r1, PA1, E1, V1, Hn1, T1, g1, g2, by rw [g3]; simp⟩
    | false =>
      obtain ⟨p1, r1, PA1, E1, V1, Hn1, T1, g1, g2, g3⟩ := InvS.adv rem (h.passP (.inl rfl) ho hg (hb2 rfl) (fun hb => by cases hb) (fun hb => by cases hb) (fun _ => rfl))
      exact ⟨p1, r1, PA1, E1, V1, Hn1, T1, g1, g2, by rw [g3]; simp⟩
  | (j, .free) :: rem, pre, PA, E, V, Hn, T, h => by
    obtain ⟨o, ho, b, hg, hb1, hb2⟩ := h.dp
    cases b with
    | true =>
      obtain ⟨s, h1, h2⟩ := hb1 rfl
      obtain ⟨p1, r1, PA1, E1, V1, Hn1, T1, g1, g2, g3⟩ := InvS.adv rem (h.passP (.inr rfl) ho hg h2 (fun _ hk => by cases hk) (fun _ _ => h1) (fun hb => by cases hb))
      exact ⟨p1, r1, PA1, E1, V1, Hn1, T1, g1, g2, by rw [g3]; simp⟩
    | false =>
      obtain ⟨p1, r1, PA1, E1, V1, Hn1, T1, g1, g2, g3⟩ := InvS.adv rem (h.passP (.inr rfl) ho hg (hb2 rfl) (fun hb => by cases hb) (fun hb => by cases hb) (fun _ => rfl))
      exact ⟨p1, r1, PA1, E1, V1, Hn1, T1, g1, g2, by rw [g3]; simp⟩
  | (j, .new) :: rem, pre, PA, E, V, Hn, T, h => by
    obtain ⟨ok1, ok2, ok3, ok4, ok5⟩ := okGo_cons h.ok
    obtain ⟨o, ho, hg, p, hpi, h1, hdp⟩ := h.dp
    have hVj : V j = none := by
      cases hv : V j with
      | none => rfl
      | some s => exact absurd (h.vd j (by rw [hv]; simp)) ok4
    have hdo : o.dst = dstOf ops j := by simp [dstOf, ho]
    have hex : ¬ ex j := h.rest (j, .new) (List.mem_cons_self ..)
    have hpre : ∀ i, i ∈ pre.map (·.1) → j ∉ preds ops i := fun i hi hj => ok4 (h.pc i hi j hj)
    suffices hs : InvS Γ ops Q E0 ro ex a w (pre ++ [(j, .new)]) rem (p :: PA) (E.del o.dst) C V Hn T by
      obtain ⟨p1, r1, PA1, E1, V1, Hn1, T1, g1, g2, g3⟩ := InvS.adv rem hs
      exact ⟨p1, r1, PA1, E1, V1, Hn1, T1, g1, g2, by rw [g3]; simp⟩
    refine ⟨ok5, hdp, ?_, fun q hq hk => ?_, fun q hq => h.rest q (List.mem_cons_of_mem _ hq), fun q hq hx hk => ?_, fun q hq hx hk ro' => ?_, fun q hq hx hk => ?_, fun q hq => ?_, ?_, fun i hi q hq => ?_, h.cl, h.sz, .no p (by rw [hpi]; exact hex) h.newh, h.size, h.defers, h.holds, fun i hi => ?_, fun i hi => ?_, fun q hq => ?_⟩
    · rw [List.map_append, hdo]; exact h.env.del j
    · rcases List.mem_append.1 hq with hq | hq
      · exact h.main q hq hk
      · simp at hq; subst hq; cases hk
    · rcases List.mem_append.1 hq with hq | hq
      · exact h.pf q hq hx hk
      · simp at hq; subst hq; cases hk
    · rcases List.mem_append.1 hq with hq | hq
      · exact h.ff q hq hx hk ro'
      · simp at hq; subst hq; cases hk
    · rcases List.mem_append.1 hq with hq | hq
      · exact (h.nf q hq hx hk).more p
      · simp at hq; subst hq
        exact ⟨o, E, pre.map (·.1), p, ho, h.env, ok1, hpre, ok4, hg, List.mem_cons_self .., hpi, h1⟩
    · rcases List.mem_cons.1 hq with rfl | hq
      · exact ⟨by rw [hpi]; simp, by rw [hpi]; exact hVj⟩
      · obtain ⟨h3, h4⟩ := h.pa q hq; exact ⟨List.mem_append_left _ h3, h4⟩
    · rw [List.map_cons, List.nodup_cons]
      refine ⟨fun hm => ?_, h.nd⟩
      obtain ⟨q, hq, e⟩ := List.mem_map.1 hm
      exact ok4 (by rw [← hpi, ← e]; exact List.mem_map.2 ⟨_, (h.pa q hq).1, rfl⟩)
    · rw [List.map_append] at hi ⊢
      rcases List.mem_append.1 hi with hi | hi
      · exact List.mem_append_left _ (h.pc i hi q hq)
      · simp at hi; subst hi; exact List.mem_append_left _ (ok1 q hq)
    · rw [List.map_append]; exact List.mem_append_left _ (h.vd i hi)
    · have := h.all i hi; simpa using this
    · exact h.lt q (by simpa using hq)
end
end Go.Proofs.YtabojfgmbfnoiaaGreatDoor
end
section
/- Regions that draw their order: every order. -/
set_option linter.unusedVariables false
set_option linter.unusedSimpArgs false
namespace Go.Proofs.YtabojfgmbfnoiaaGreatDoor
section
variable {Γ : Cx} {ops : Array Oper} {ro : List HA} {Q : Env → List HA → Prop} {E0 : Env} {ex : Nat → Prop} {a : Act} {w : World} {pre rem : List (Nat × DK)} {PA : List PF} {E : Env} {C : List HA} {V : Nat → Option SVal} {Hn : List HA} {T : Hp → Act → Prop}
theorem act_put_size (a : Act) (d : Option Tmp) (v : Value) : (a.put d v).tmps.size = a.tmps.size := by cases d <;> simp [Act.put]
theorem act_put_defers (a : Act) (d : Option Tmp) (v : Value) : (a.put d v).defers = a.defers := by cases d <;> simp [Act.put]
theorem act_put_get {a : Act} {d : Tmp} (h : d < a.tmps.size) (v : Value) : (a.put (some d) v).tmps.getD d undef = v := by simp [Act.put, Array.getD_eq_getD_getElem?, Array.getElem?_setIfInBounds, h]
theorem wpOp_of {i : Nat} {o : Oper} (ho : ops[i]? = some o) {K : Act → World → Prop} {QF : Exit → Act → World → Prop} {b : Bool} (hw : Region.wanted o (yielded ops a.tmps) = b) (h1 : b = true → o.wp Γ.P a w K QF) (h2 : b = false → K (a.put o.dst undef) w) : wpOp Γ.P ops QF i K a w := by
  simp only [wpOp, ho, hw]
  cases b with
  | true => exact .inl (h1 rfl)
  | false => exact h2 rfl
theorem perm_top {A B C : List HA} : (A ++ (B ++ C)).Perm (C ++ (A ++ B)) := by
  rw [← List.append_assoc]; exact List.perm_append_comm
theorem perm_top' {A B C : List HA} : (C ++ (A ++ B)).Perm (A ++ (B ++ C)) := perm_top.symm
/-- After a pure one that the walk has passed. -/
theorem InvS.doPure (hind : indep ops = true) (h : InvS Γ ops Q E0 ro ex a w pre rem PA E C V Hn T) {j : Nat} {k : DK} (hj : (j, k) ∈ pre) (hk : k = .pure ∨ k = .free) (hx : ¬ ex j) (hpr : ∀ i, i ∈ preds ops j → ex i) (hdn : ∀ j d, dstOf ops j = some d → d < Γ.n) (hnp : ∀ p, p ∈ PA → p.i ≠ j) (hnr : ∀ q, q ∈ rem → q.1 ≠ j)
    {K : Act → World → Prop} {QF : Exit → Act → World → Prop} (hK : ∀ a' w' T', InvS Γ ops Q E0 ro (fun i => ex i ∨ i = j) a' w' pre rem PA E C V Hn T' → K a' w') : wpOp Γ.P ops QF j K a w := by
  have hpf : PureF Γ ops E0 ro V j := by
    rcases hk with hk | hk
    · exact h.pf _ hj hx hk
    · exact h.ff _ hj hx hk ro
  obtain ⟨o, E1, b, bef, ho, hE1, h3, h4, h5, hg, h7, h8⟩ := hpf
  have hjs : j < ops.size := h.lt _ (List.mem_append_left _ hj)
  have hdo : o.dst = dstOf ops j := by simp [dstOf, ho]
  have hdl : ∀ j d, dstOf ops j = some d → d < a.tmps.size := fun j d e => by rw [h.size]; exact hdn j d e
  have hrep : ∀ φ, ActIs ops E0 V ex φ a → EnvRep φ (restr ops o E1) a := fun φ hA => env_ready hind hA hE1 ho hpr hx h.cl h3 h4 h5 h.sz
  obtain ⟨T', hT1, hT2⟩ := NewH.other hind hjs hx h.newh hnp
  have done : ∀ v w', Holds Γ.w0 (Hn ++ (C ++ ro)) w' (fun φ => (∀ s, V j = some s → Rep φ s v) ∧ ActIs ops E0 V ex φ a ∧ T φ a ∧ Γ.X φ) → InvS Γ ops Q E0 ro (fun i => ex i ∨ i = j) (a.put o.dst v) w' pre rem PA E C V Hn T' := by
    intro v w' hh
    rw [hdo]
    refine ⟨h.ok, h.dp, h.env, fun q hq hk => .inl (h.main q hq hk), fun q hq => ?_, fun q hq hx' hk => h.pf q hq (fun e => hx' (.inl e)) hk, fun q hq hx' hk => h.ff q hq (fun e => hx' (.inl e)) hk, fun q hq hx' hk => h.nf q hq (fun e => hx' (.inl e)) hk, h.pa, h.nd, h.pc, fun i hi q hq => ?_, fun i hi => ?_, hT1, by rw [act_put_size]; exact h.size, by rw [act_put_defers]; exact h.defers, hh.imp fun φ hx' => ⟨hx'.2.1.run hind hjs hx h.sz hx'.1 (hdl j), hT2 φ a v hx'.2.2.1, hx'.2.2.2⟩, h.vd, h.all, h.lt⟩
    · rintro (e | e)
      · exact h.rest q hq e
      · exact hnr q hq e
    · rcases hi with hi | rfl
      · exact .inl (h.cl i hi q hq)
      · exact .inl (hpr q hq)
    · rcases hi with hi | rfl
      · exact h.sz i hi
      · exact hjs
  have hwant : Region.wanted o (yielded ops a.tmps) = b := by
    obtain ⟨φ, hs, g, s, hx', _⟩ := h.holds
    exact guard_wanted (n := 0) hg (hrep φ hx') hdl
  refine wpOp_of ho hwant (fun hb => ?_) (fun hb => ?_)
  · obtain ⟨s, hV, hop⟩ := h7 hb
    refine Oper.wp_mono ?_ (hop (Hn ++ C) (fun φ => ActIs ops E0 V ex φ a ∧ T φ a ∧ Γ.X φ) (fun φ φ' hl hx' => ⟨hx'.1.mono hl, h.newh.mono hl hx'.2.1, Γ.mono _ _ hl hx'.2.2⟩) a w ((h.holds.imp fun φ hx' => ⟨hrep φ hx'.1, hx'⟩).perm perm_top) QF)
    rintro a' w' ⟨v, s', M', rfl, ⟨rfl, rfl⟩, hh⟩
    exact hK _ _ _ (done v w' ((hh.perm perm_top').imp fun φ hx' => ⟨fun s2 e => by rw [hV] at e; injection e with e; subst e; exact hx'.1, hx'.2⟩))
  · exact hK _ _ _ (done undef w (h.holds.imp fun φ hx' => ⟨fun s2 e => by rw [h8 hb] at e; injection e with e; subst e; exact .val _, hx'⟩))
theorem InvS.doNew (hind : indep ops = true) (h : InvS Γ ops Q E0 ro ex a w pre rem PA E C V Hn T) {j : Nat} (hj : (j, DK.new) ∈ pre) (hx : ¬ ex j) (hpr : ∀ i, i ∈ preds ops j → ex i) (hdn : ∀ j d, dstOf ops j = some d → d < Γ.n) (hnr : ∀ q, q ∈ rem → q.1 ≠ j)
    {K : Act → World → Prop} {QF : Exit → Act → World → Prop} (hK : ∀ a' w' Hn' T', InvS Γ ops Q E0 ro (fun i => ex i ∨ i = j) a' w' pre rem PA E C V Hn' T' → K a' w') : wpOp Γ.P ops QF j K a w := by
  obtain ⟨o, E1, bef, p, ho, hE1, h3, h4, h5, hg, hp, hpi, hop⟩ := h.nf _ hj hx rfl
  have hjs : j < ops.size := h.lt _ (List.mem_append_left _ hj)
  have hdo : o.dst = dstOf ops j := by simp [dstOf, ho]
  have hdl : ∀ j d, dstOf ops j = some d → d < a.tmps.size := fun j d e => by rw [h.size]; exact hdn j d e
  have hrep : ∀ φ, ActIs ops E0 V ex φ a → EnvRep φ (restr ops o E1) a := fun φ hA => env_ready hind hA hE1 ho hpr hx h.cl h3 h4 h5 h.sz
  have hwant : Region.wanted o (yielded ops a.tmps) = true := by simp [Region.wanted, hg]
  refine wpOp_of ho hwant (fun hb => ?_) (fun hb => by cases hb)
  refine Oper.wp_mono ?_ (hop (Hn ++ (C ++ ro)) (fun φ => ActIs ops E0 V ex φ a ∧ T φ a ∧ Γ.X φ) (fun φ φ' hl hx' => ⟨hx'.1.mono hl, h.newh.mono hl hx'.2.1, Γ.mono _ _ hl hx'.2.2⟩) a w (h.holds.imp fun φ hx' => ⟨hrep φ hx'.1, hx'⟩) QF)
  rintro a' w' ⟨v, s', M', rfl, ⟨g, rfl, rfl⟩, hh⟩
  obtain ⟨Hn', T', hT1, hT2, hT3⟩ := NewH.hit hind hjs hx h.newh h.nd hp hpi g
  refine hK _ _ Hn' T' ?_
  have hVj : V j = none := by have := (h.pa p hp).2; rw [hpi] at this; exact this
  rw [hdo]
  refine ⟨h.ok, h.dp, h.env, fun q hq hk => .inl (h.main q hq hk), fun q hq => ?_, fun q hq hx' hk => h.pf q hq (fun e => hx' (.inl e)) hk, fun q hq hx' hk => h.ff q hq (fun e => hx' (.inl e)) hk, fun q hq hx' hk => h.nf q hq (fun e => hx' (.inl e)) hk, h.pa, h.nd, h.pc, fun i hi q hq => ?_, fun i hi => ?_, hT1, by rw [act_put_size]; exact h.size, by rw [act_put_defers]; exact h.defers,
    (hh.perm ?_).imp fun φ hx' => ⟨hx'.2.1.run hind hjs hx h.sz (fun s e => by rw [hVj] at e; cases e) (hdl j), hT3 φ a v hx'.2.2.1 (fun d hd => by rw [hd, act_put_get (hdl j d hd)]; exact hx'.1), hx'.2.2.2⟩, h.vd, h.all, h.lt⟩
  · rintro (e | e)
    · exact h.rest q hq e
    · exact hnr q hq e
  · rcases hi with hi | rfl
    · exact .inl (h.cl i hi q hq)
    · exact .inl (hpr q hq)
  · rcases hi with hi | rfl
    · exact h.sz i hi
    · exact hjs
  · rw [← List.cons_append]
    exact hT2.append_right _
/-- The head of the walk. -/
theorem InvS.doMain (hind : indep ops = true) {k : DK} {j : Nat} (hk : isMain k = true) {C0 ro0 : List HA} (h : InvS Γ ops Q E0 ro0 ex a w pre ((j, k) :: rem) PA E C0 V Hn T) (hsame : C0 ++ ro0 = C ++ ro) (hpr0 : ro0 = ro ∨ ∀ q, q ∈ pre → q.2 = .pure → ex q.1) {o : Oper} (ho : ops[j]? = some o) (hd : DMain Γ.w0 Γ.P ops ro o E C (fun E' C' => DP Γ.w0 Γ.P ops Q ro rem PA E' C')) (hpr : ∀ i, i ∈ preds ops j → ex i) (hdn : ∀ j d, dstOf ops j = some d → d < Γ.n) (hnr : ∀ q, q ∈ rem → q.1 ≠ j)
    {K : Act → World → Prop} {QF : Exit → Act → World → Prop} (hK : ∀ a' w' E' C' V' T', InvS Γ ops Q E0 ro (fun i => ex i ∨ i = j) a' w' (pre ++ [(j, k)]) rem PA E' C' V' Hn T' → K a' w') : wpOp Γ.P ops QF j K a w := by
  obtain ⟨ok1, ok2, ok3, ok4, ok5⟩ := okGo_cons h.ok
  have hH : Holds Γ.w0 (Hn ++ (C ++ ro)) w (fun φ => ActIs ops E0 V ex φ a ∧ T φ a ∧ Γ.X φ) := by rw [← hsame]; exact h.holds
  have hx : ¬ ex j := h.rest _ (List.mem_cons_self ..)
  have hjs : j < ops.size := h.lt _ (List.mem_append_right _ (List.mem_cons_self ..))
  have hdo : o.dst = dstOf ops j := by simp [dstOf, ho]
  have hdl : ∀ j d, dstOf ops j = some d → d < a.tmps.size := fun j d e => by rw [h.size]; exact hdn j d e
  have hpre : ∀ i, i ∈ pre.map (·.1) → j ∉ preds ops i := fun i hi hj => ok4 (h.pc i hi j hj)
  have hrep : ∀ φ, ActIs ops E0 V ex φ a → EnvRep φ (restr ops o E) a := fun φ hA => env_ready hind hA h.env ho hpr hx h.cl ok1 hpre ok4 h.sz
  have hVj : V j = none := by
    cases hv : V j with
    | none => rfl
    | some s => exact absurd (h.vd j (by rw [hv]; simp)) ok4
  obtain ⟨T', hT1, hT2⟩ := NewH.other hind hjs hx h.newh (fun p hp e => ok4 (by rw [← e]; exact List.mem_map.2 ⟨_, (h.pa p hp).1, rfl⟩))
  obtain ⟨b, hg, hb1, hb2⟩ := hd
  have done : ∀ s C' v w', DP Γ.w0 Γ.P ops Q ro rem PA (E.put o.dst s) C' → Holds Γ.w0 (Hn ++ (C' ++ ro)) w' (fun φ => Rep φ s v ∧ ActIs ops E0 V ex φ a ∧ T φ a ∧ Γ.X φ) → InvS Γ ops Q E0 ro (fun i => ex i ∨ i = j) (a.put o.dst v) w' (pre ++ [(j, k)]) rem PA (E.put o.dst s) C' (Vset V j s) Hn T' := by
    intro s C' v w' hdp hh
    rw [hdo] at hdp ⊢
    refine ⟨ok5, hdp, ?_, fun q hq hk' => ?_, fun q hq => ?_, fun q hq hx' hk' => ?_, fun q hq hx' hk' ro' => ?_, fun q hq hx' hk' => ?_, fun p hp => ?_, h.nd, fun i hi q hq => ?_, fun i hi q hq => ?_, fun i hi => ?_, hT1, by rw [act_put_size]; exact h.size, by rw [act_put_defers]; exact h.defers, ?_, fun i hi => ?_, fun i hi => ?_, fun q hq => ?_⟩
    · rw [List.map_append]; exact h.env.put ok4 s
    · rcases List.mem_append.1 hq with hq | hq
      · exact .inl (h.main q hq hk')
      · simp at hq; subst hq; exact .inr rfl
    · rintro (e | e)
      · exact h.rest q (List.mem_cons_of_mem _ hq) e
      · exact hnr q hq e
    · rcases List.mem_append.1 hq with hq | hq
      · rcases hpr0 with e | e
        · rw [← e]; exact (h.pf q hq (fun e => hx' (.inl e)) hk').vset hVj s
        · exact absurd (.inl (e q hq hk')) hx'
      · simp at hq; subst hq; exact absurd (.inr rfl) hx'
    · rcases List.mem_append.1 hq with hq | hq
      · exact (h.ff q hq (fun e => hx' (.inl e)) hk' ro').vset hVj s
      · simp at hq; subst hq; exact absurd (.inr rfl) hx'
    · rcases List.mem_append.1 hq with hq | hq
      · exact (h.nf q hq (fun e => hx' (.inl e)) hk').vset hVj s
      · simp at hq; subst hq; exact absurd (.inr rfl) hx'
    · obtain ⟨h3, h4⟩ := h.pa p hp
      refine ⟨List.mem_append_left _ h3, ?_⟩
      have : p.i ≠ j := fun e => ok4 (by rw [← e]; exact List.mem_map.2 ⟨_, h3, rfl⟩)
      simp [Vset, this, h4]
    · rw [List.map_append] at hi ⊢
      rcases List.mem_append.1 hi with hi | hi
      · exact List.mem_append_left _ (h.pc i hi q hq)
      · simp at hi; subst hi; exact List.mem_append_left _ (ok1 q hq)
    · rcases hi with hi | rfl
      · exact .inl (h.cl i hi q hq)
      · exact .inl (hpr q hq)
    · rcases hi with hi | rfl
      · exact h.sz i hi
      · exact hjs
    · refine hh.imp fun φ hx' => ⟨(hx'.2.1.vset (.inl hx)).run hind hjs hx h.sz (fun s' e => ?_) (hdl j), hT2 φ a v hx'.2.2.1, hx'.2.2.2⟩
      simp [Vset] at e; subst e; exact hx'.1
    · rw [List.map_append]
      by_cases e : i = j
      · subst e; simp
      · simp [Vset, e] at hi
        exact List.mem_append_left _ (h.vd i hi)
    · have := h.all i hi; simpa using this
    · exact h.lt q (by simpa using hq)
  have hwant : Region.wanted o (yielded ops a.tmps) = b := by
    obtain ⟨φ, hs, g, s, hx', _⟩ := h.holds
    exact guard_wanted (n := 0) hg (hrep φ hx') hdl
  have pp : ∀ C : List HA, (Hn ++ (C ++ ro)).Perm (C ++ (ro ++ Hn)) := fun C => by rw [← List.append_assoc C]; exact List.perm_append_comm
  refine wpOp_of ho hwant (fun hb => ?_) (fun hb => ?_)
  · refine Oper.wp_mono ?_ (hb1 hb Hn (fun φ => ActIs ops E0 V ex φ a ∧ T φ a ∧ Γ.X φ) (fun φ φ' hl hx' => ⟨hx'.1.mono hl, h.newh.mono hl hx'.2.1, Γ.mono _ _ hl hx'.2.2⟩) a w ((hH.imp fun φ hx' => ⟨hrep φ hx'.1, hx'⟩).perm (pp C)) QF)
    rintro a' w' ⟨v, s', M', rfl, ⟨C', rfl, hdp⟩, hh⟩
    exact hK _ _ _ _ _ _ (done s' C' v w' hdp (hh.perm (pp C').symm))
  · exact hK _ _ _ _ _ _ (done _ C undef w (hb2 hb) (hH.imp fun φ hx' => ⟨.val _, hx'⟩))
/-- What is new is taken. -/
theorem InvS.doTake (hind : indep ops = true) (f : Nat → Bool) (h : InvS Γ ops Q E0 ro ex a w pre rem PA E C V Hn T) (hall : ∀ p, p ∈ PA → f p.i = true → ex p.i) {K : Env → List HA → Prop} (hq : takeQ ops (PA.filter fun p => f p.i) E C K) :
    ∃ E' C' V' Hn' T', K E' C' ∧ ((DP Γ.w0 Γ.P ops Q ro rem (PA.filter fun p => !f p.i) E' C') → InvS Γ ops Q E0 ro ex a w pre rem (PA.filter fun p => !f p.i) E' C' V' Hn' T') := by
  obtain ⟨Hn1, T1, Hn2, T2, s1, s2, s3, s4⟩ := h.newh.split (fun p => f p.i)
  obtain ⟨E', C', V', h1, h2, h3, h4, h5, h6, h7⟩ := take_spec hind (done := pre.map (·.1)) s1 (fun p hp => hall p (List.mem_filter.1 hp).1 (by simpa using (List.mem_filter.1 hp).2)) (fun p hp => List.mem_map.2 ⟨_, (h.pa p (List.mem_filter.1 hp).1).1, rfl⟩)
    (h.nd.sublist ((List.filter_sublist).map _)) (fun p hp => (h.pa p (List.mem_filter.1 hp).1).2) h.env hq
  refine ⟨E', C', V', Hn2, T2, h1, fun hdp => ⟨h.ok, hdp, h2, h.main, h.rest, fun q hq' hx hk => ?_, fun q hq' hx hk ro' => ?_, fun q hq' hx hk => ?_, fun p hp => ?_, h.nd.sublist ((List.filter_sublist).map _), h.pc, h.cl, h.sz, s2, h.size, h.defers, ?_, fun i hi => ?_, h.all, h.lt⟩⟩
  · obtain ⟨o, E1, b, bef, g1, g2, g3, g4, g5, g6, g7, g8⟩ := h.pf q hq' hx hk
    exact ⟨o, E1, b, bef, g1, h5 _ _ g2, g3, g4, g5, g6, fun hb => let ⟨s, e, r⟩ := g7 hb; ⟨s, h6 _ _ e, r⟩, fun hb => h6 _ _ (g8 hb)⟩
  · obtain ⟨o, E1, b, bef, g1, g2, g3, g4, g5, g6, g7, g8⟩ := h.ff q hq' hx hk ro'
    exact ⟨o, E1, b, bef, g1, h5 _ _ g2, g3, g4, g5, g6, fun hb => let ⟨s, e, r⟩ := g7 hb; ⟨s, h6 _ _ e, r⟩, fun hb => h6 _ _ (g8 hb)⟩
  · obtain ⟨o, E1, bef, p, g1, g2, g3, g4, g5, g6, g7, g8, g9⟩ := h.nf q hq' hx hk
    refine ⟨o, E1, bef, p, g1, h5 _ _ g2, g3, g4, g5, g6, List.mem_filter.2 ⟨g7, ?_⟩, g8, g9⟩
    cases hf : f p.i with
    | false => rfl
    | true => exact absurd (g8 ▸ hall p g7 hf) hx
  · obtain ⟨g1, g2⟩ := List.mem_filter.1 hp
    refine ⟨(h.pa p g1).1, ?_⟩
    cases hv : V' p.i with
    | none => rfl
    | some s =>
      rcases h7 p.i (by rw [hv]; simp) with h8 | ⟨p', hp', e⟩
      · exact absurd (h.pa p g1).2 h8
      · have := (List.mem_filter.1 hp').2
        rw [e] at this
        simp [this] at g2
  · refine (h.holds.perm (H' := Hn2 ++ (C' ++ ro)) ?_).imp fun φ hx => ⟨h4 φ a hx.1 (s4 φ a hx.2.1).1, (s4 φ a hx.2.1).2, hx.2.2⟩
    refine ((s3.trans List.perm_append_comm).append_right _).trans ?_
    rw [List.append_assoc]
    refine List.Perm.append_left _ ?_
    rw [← List.append_assoc]
    exact h3.append_right _
  · rcases h7 i hi with h8 | ⟨p, hp, e⟩
    · exact h.vd i h8
    · rw [← e]; exact List.mem_map.2 ⟨_, (h.pa p (List.mem_filter.1 hp).1).1, rfl⟩
end
theorem okGo_first {ops : Array Oper} {ex : Nat → Prop} : ∀ {rem pre : List (Nat × DK)}, okGo ops pre rem = true → (∀ q, q ∈ pre → ex q.1) → (∃ q, q ∈ rem ∧ ¬ ex q.1) → ∃ j, j ∈ rem.map (·.1) ∧ ¬ ex j ∧ ∀ i, i ∈ preds ops j → ex i
  | [], pre, h, hp, ⟨q, hq, _⟩ => by cases hq
  | (j, k) :: rem, pre, h, hp, hq => by
    obtain ⟨ok1, ok2, ok3, ok4, ok5⟩ := okGo_cons h
    by_cases hj : ex j
    · obtain ⟨q, hq, hx⟩ := hq
      have hq : q ∈ rem := by
        rcases List.mem_cons.1 hq with rfl | hq
        · exact absurd hj hx
        · exact hq
      obtain ⟨i, h1, h2⟩ := okGo_first ok5 (fun q hq => by
        rcases List.mem_append.1 hq with hq | hq
        · exact hp q hq
        · simp at hq; subst hq; exact hj) ⟨q, hq, hx⟩
      exact ⟨i, List.mem_cons_of_mem _ h1, h2⟩
    · refine ⟨j, by simp, hj, fun i hi => ?_⟩
      obtain ⟨q, hq, e⟩ := List.mem_map.1 (ok1 i hi)
      rw [← e]; exact hp q hq
theorem okGo_nodup {ops : Array Oper} : ∀ {rem pre : List (Nat × DK)}, okGo ops pre rem = true → (pre.map (·.1)).Nodup → ((pre ++ rem).map (·.1)).Nodup
  | [], pre, h, hn => by simpa using hn
  | (j, k) :: rem, pre, h, hn => by
    obtain ⟨ok1, ok2, ok3, ok4, ok5⟩ := okGo_cons h
    have := okGo_nodup ok5 (by
      rw [List.map_append, List.nodup_append]
      refine ⟨hn, by simp, fun x hx y hy e => ?_⟩
      simp at hy; subst hy; subst e; exact ok4 hx)
    simpa using this
theorem nodup_fst {l : List (Nat × DK)} (h : (l.map (·.1)).Nodup) {i : Nat} {k k' : DK} (h1 : (i, k) ∈ l) (h2 : (i, k') ∈ l) : k = k' := by
  induction l with
  | nil => cases h1
  | cons q l ih =>
    rw [List.map_cons, List.nodup_cons] at h
    rcases List.mem_cons.1 h1 with e1 | h1' <;> rcases List.mem_cons.1 h2 with e2 | h2'
    · rw [← e1] at e2; injection e2 with _ e2; exact e2.symm
    · exact absurd (List.mem_map.2 ⟨_, h2', by rw [← e1]⟩) h.1
    · exact absurd (List.mem_map.2 ⟨_, h1', by rw [← e2]⟩) h.1
    · exact ih h.2 h1' h2'
def left (ops : Array Oper) (listed : Array Bool) : Nat := (List.range ops.size).countP fun i => !listed.getD i false
theorem countP_lt {p q : Nat → Bool} {j : Nat} : ∀ {l : List Nat}, (∀ i, q i = true → p i = true) → j ∈ l → p j = true → q j = false → l.countP q < l.countP p
  | [], h, hj, _, _ => by cases hj
  | x :: l, h, hj, hp, hq => by
    have hle : l.countP q ≤ l.countP p := List.countP_mono_left (fun i _ => h i)
    simp only [List.countP_cons]
    rcases List.mem_cons.1 hj with rfl | hj
    · simp [hp, hq]; omega
    · have := countP_lt h hj hp hq
      by_cases hx : q x = true
      · simp [hx, h x hx]; omega
      · simp [hx]; split <;> omega
section
variable {Γ : Cx} {ops : Array Oper} {Q : Env → List HA → Prop} {E0 : Env}
theorem draw_main (hm : Γ.P.follows .mixedOrders = true) {order : List (Nat × DK)} (hok : okGo ops [] order = true) (hall : ∀ i, i < ops.size → i ∈ order.map (·.1)) (hind : indep ops = true) (hdn : ∀ j d, dstOf ops j = some d → d < Γ.n) {QF : Exit → Act → World → Prop}
    (hQ : ∀ a w E' M', Q E' M' → Γ.Den E' M' a w → QF .normal a w) :
    ∀ (fuel : Nat) (listed : Array Bool) (a : Act) (w : World) (ro : List HA) (pre rem : List (Nat × DK)) (PA : List PF) (E : Env) (C : List HA) (V : Nat → Option SVal) (Hn : List HA) (T : Hp → Act → Prop), pre ++ rem = order → listed.size = ops.size → left ops listed ≤ fuel →
      InvS Γ ops Q E0 ro (fun i => listed.getD i false = true) a w pre rem PA E C V Hn T → (rem = [] ∨ ∃ j k t, rem = (j, k) :: t ∧ isMain k = true) → wpAny Γ.P .any ops QF fuel listed a w := by
  have final : ∀ (listed : Array Bool) (a : Act) (w : World) (ro : List HA) (pre rem : List (Nat × DK)) (PA : List PF) (E : Env) (C : List HA) (V : Nat → Option SVal) (Hn : List HA) (T : Hp → Act → Prop), pre ++ rem = order → listed.size = ops.size →
      InvS Γ ops Q E0 ro (fun i => listed.getD i false = true) a w pre rem PA E C V Hn T → Region.ready .any ops listed = [] → QF .normal a w := by
    intro listed a w ro pre rem PA E C V Hn T hpr hsz h hr
    have hdone : ∀ q, q ∈ order → listed.getD q.1 false = true := by
      intro q hq
      refine Classical.byContradiction fun hx => ?_
      obtain ⟨j, h1, h2, h3⟩ := okGo_first (ex := fun i => listed.getD i false = true) hok (fun q hq => by cases hq) ⟨q, hq, hx⟩
      obtain ⟨q', hq', e⟩ := List.mem_map.1 h1
      have hjs : j < ops.size := by rw [← e]; exact h.lt q' (by rw [hpr]; exact hq')
      have : j ∈ Region.ready .any ops listed := by
        rw [mem_ready]
        refine ⟨?_, ops[j], by simp [hjs], fun ed he hb => h3 _ ?_⟩
        · have hjl : j < listed.size := by omega
          simp only [Array.getD_eq_getD_getElem?, Array.getElem?_eq_getElem hjl, Option.getD_some] at h2 ⊢
          simpa using h2
        · have : ops[j]? = some ops[j] := by simp [hjs]
          simp only [preds, this]
          exact List.mem_map.2 ⟨ed, List.mem_filter.2 ⟨by simpa using he, hb⟩, rfl⟩
      rw [hr] at this; cases this
    have hrem : rem = [] := by
      cases rem with
      | nil => rfl
      | cons q t => exact absurd (hdone q (by rw [← hpr]; simp)) (h.rest q (List.mem_cons_self ..))
    subst hrem
    obtain ⟨E', C', V', Hn', T', h1, h2⟩ := h.doTake hind (fun _ => true) (fun p hp _ => hdone _ (by rw [← hpr]; simpa using (h.pa p hp).1)) (K := fun E' C' => Q E' (C' ++ ro)) (by rw [List.filter_eq_self.2 (fun _ _ => rfl)]; exact h.dp)
    have hnil : PA.filter (fun p => !(fun (_ : Nat) => true) p.i) = [] := by simp
    rw [hnil] at h2
    have h3 := h2 h1
    have hHn : Hn' = [] := by
      cases h3.newh; rfl
    subst hHn
    refine hQ a w E' _ h1 ⟨h3.size, h3.defers, h3.holds.imp fun φ hx => ⟨fun d s hs => ?_, hx.2.2⟩⟩
    rcases h3.env d s hs with ⟨i, hi, e1, e2⟩ | ⟨e1, e2⟩
    · obtain ⟨q, hq, e⟩ := List.mem_map.1 hi
      exact hx.1.1 i (by rw [← e]; exact hdone q (by rw [← hpr]; simpa using hq)) d s e1 e2
    · exact hx.1.2 d s (fun i hi => e1 i (by
        have := hall i (h3.sz i hi)
        rw [← hpr] at this; simpa using this)) e2
  intro fuel
  induction fuel with
  | zero =>
    intro listed a w ro pre rem PA E C V Hn T hpr hsz hle h hh
    have hr : Region.ready .any ops listed = [] := by
      refine List.eq_nil_iff_forall_not_mem.2 fun j hj => ?_
      obtain ⟨h0, o, ho, _⟩ := mem_ready.1 hj
      have hjs : j < ops.size := (Array.getElem?_eq_some_iff.1 ho).1
      have hjl : j < listed.size := by omega
      have h0 : listed.getD j false = false := by
        simp only [Array.getD_eq_getD_getElem?, Array.getElem?_eq_getElem hjl, Option.getD_some] at h0 ⊢; exact h0
      have : 0 < left ops listed := by
        unfold left
        exact List.countP_pos_iff.2 ⟨j, List.mem_range.2 hjs, by rw [h0]; rfl⟩
      omega
    exact ⟨hr, final _ _ _ _ _ _ _ _ _ _ _ _ hpr hsz h hr⟩
  | succ fuel ih =>
    intro listed a w ro pre rem PA E C V Hn T hpr hsz hle h hh
    refine ⟨final _ _ _ _ _ _ _ _ _ _ _ _ hpr hsz h, fun j hj => ?_⟩
    obtain ⟨h0, o, ho, hed⟩ := mem_ready.1 hj
    have hjs : j < ops.size := (Array.getElem?_eq_some_iff.1 ho).1
    have hjl : j < listed.size := by omega
    have h0 : listed.getD j false = false := by
      simp only [Array.getD_eq_getD_getElem?, Array.getElem?_eq_getElem hjl, Option.getD_some] at h0 ⊢; exact h0
    have hx : ¬ (listed.getD j false = true) := by rw [h0]; simp
    have hpred : ∀ i, i ∈ preds ops j → listed.getD i false = true := by
      intro i hi
      simp only [preds, ho] at hi
      obtain ⟨e, he, rfl⟩ := List.mem_map.1 hi
      obtain ⟨h1, h2⟩ := List.mem_filter.1 he
      exact hed e (by simpa using h1) h2
    have hset : ∀ i, ((listed.setIfInBounds j true).getD i false = true) ↔ (listed.getD i false = true ∨ i = j) := by
      intro i
      by_cases e : j = i
      · subst e; simp [Array.getD_eq_getD_getElem?, Array.getElem?_setIfInBounds, hjl]
      · rw [getD_set_ne false e]
        exact ⟨.inl, fun h => h.resolve_right (fun e2 => e e2.symm)⟩
    have hsetf : (fun i => (listed.setIfInBounds j true).getD i false = true) = fun i => (listed.getD i false = true ∨ i = j) := funext fun i => propext (hset i)
    have hleft : left ops (listed.setIfInBounds j true) ≤ fuel := by
      have : left ops (listed.setIfInBounds j true) < left ops listed := by
        unfold left
        refine countP_lt (j := j) (fun i hi => ?_) (List.mem_range.2 hjs) (by rw [h0]; rfl) (by rw [(hset j).2 (.inr rfl)]; rfl)
        cases hv : listed.getD i false with
        | false => rfl
        | true => rw [(hset i).2 (.inl hv)] at hi; cases hi
      omega
    have hnd : ((pre ++ rem).map (·.1)).Nodup := by rw [hpr]; exact okGo_nodup (pre := []) hok (by simp)
    rw [List.map_append, List.nodup_append] at hnd
    have hmem : j ∈ pre.map (·.1) ∨ j ∈ rem.map (·.1) := by
      have := hall j hjs
      rw [← hpr, List.map_append] at this
      exact List.mem_append.1 this
    rcases hmem with hmem | hmem
    · obtain ⟨⟨j', k⟩, hq, e⟩ := List.mem_map.1 hmem
      simp only at e; subst e
      have hnr : ∀ q, q ∈ rem → q.1 ≠ j' := fun q hq' e => hnd.2.2 j' hmem q.1 (List.mem_map.2 ⟨q, hq', rfl⟩) e.symm
      cases k with
      | pure =>
        refine h.doPure hind hq (.inl rfl) hx hpred hdn (fun p hp e => ?_) hnr (fun a' w' T' h' => ih _ _ _ _ _ _ _ _ _ _ _ _ hpr (by simpa using hsz) hleft (by rw [hsetf]; exact h') hh)
        have h1 := (h.pa p hp).1
        rw [e] at h1
        have := hnd.1
        exact absurd (nodup_fst this h1 hq) (by simp)
      | free =>
        refine h.doPure hind hq (.inr rfl) hx hpred hdn (fun p hp e => ?_) hnr (fun a' w' T' h' => ih _ _ _ _ _ _ _ _ _ _ _ _ hpr (by simpa using hsz) hleft (by rw [hsetf]; exact h') hh)
        have h1 := (h.pa p hp).1
        rw [e] at h1
        have := hnd.1
        exact absurd (nodup_fst this h1 hq) (by simp)
      | new => exact h.doNew hind hq hx hpred hdn hnr (fun a' w' Hn' T' h' => ih _ _ _ _ _ _ _ _ _ _ _ _ hpr (by simpa using hsz) hleft (by rw [hsetf]; exact h') hh)
      | main => exact absurd (h.main _ hq rfl) hx
      | take => exact absurd (h.main _ hq rfl) hx
      | open_ => exact absurd (h.main _ hq rfl) hx
    · rcases hh with rfl | ⟨j1, k1, t, rfl, hk1⟩
      · cases hmem
      · obtain ⟨ok1, ok2, ok3, ok4, ok5⟩ := okGo_cons h.ok
        have hj1 : j = j1 := by
          refine Classical.byContradiction fun hne => ?_
          have hmt : j ∈ t.map (·.1) := by
            rw [List.map_cons] at hmem
            rcases List.mem_cons.1 hmem with e | e
            · exact absurd e hne
            · exact e
          obtain ⟨q, hq, e⟩ := List.mem_map.1 hmt
          obtain ⟨i, hi, hc⟩ := ok2 hk1 q hq
          rw [e] at hi
          have hxi := hpred i hi
          rcases hc with rfl | hc
          · exact h.rest _ (List.mem_cons_self ..) hxi
          · obtain ⟨q', hq', e'⟩ := List.mem_map.1 hc
            exact h.rest q' (List.mem_cons_of_mem _ hq') (by rw [e']; exact hxi)
        subst hj1
        have hnr : ∀ q, q ∈ t → q.1 ≠ j := fun q hq e => by
          have := hnd.2.1
          rw [List.map_cons, List.nodup_cons] at this
          exact this.1 (List.mem_map.2 ⟨q, hq, e⟩)
        have fin : ∀ {ro0 ro : List HA} {PA : List PF} {E : Env} {C0 C : List HA} {V : Nat → Option SVal} {Hn : List HA} {T : Hp → Act → Prop}, InvS Γ ops Q E0 ro0 (fun i => listed.getD i false = true) a w pre ((j, k1) :: t) PA E C0 V Hn T → C0 ++ ro0 = C ++ ro → (ro0 = ro ∨ ∀ q, q ∈ pre → q.2 = .pure → listed.getD q.1 false = true) →
            DMain Γ.w0 Γ.P ops ro o E C (fun E' C' => DP Γ.w0 Γ.P ops Q ro t PA E' C') → wpOp Γ.P ops QF j (wpAny Γ.P .any ops QF fuel (listed.setIfInBounds j true)) a w := by
          intro ro0 ro PA E C0 C V Hn T h hs0 hp0 hdm
          refine h.doMain hind hk1 hs0 hp0 ho hdm hpred hdn hnr (fun a' w' E' C' V' T' h' => ?_)
          obtain ⟨pre2, rem2, PA2, E2, V2, Hn2, T2, h2, h3, h4⟩ := InvS.adv t h'
          exact ih _ _ _ _ pre2 rem2 _ _ _ _ _ _ (by rw [h4]; simpa using hpr) (by simpa using hsz) hleft (by rw [hsetf]; exact h2) h3
        cases k1 with
        | pure => cases hk1
        | free => cases hk1
        | new => cases hk1
        | main =>
          obtain ⟨o', ho', hd'⟩ := h.dp
          rw [ho] at ho'; injection ho' with ho'; subst ho'
          exact fin h rfl (.inl rfl) hd'
        | open_ =>
          obtain ⟨o', ho', hd'⟩ := h.dp
          rw [ho] at ho'; injection ho' with ho'; subst ho'
          exact fin h (by simp) (.inr fun q hq hk => hpred _ (ok3 rfl q hq hk)) hd'
        | take =>
          obtain ⟨o', ho', hd'⟩ := h.dp
          rw [ho] at ho'; injection ho' with ho'; subst ho'
          obtain ⟨E', C', V', Hn', T', h1, h2⟩ := h.doTake hind (fun i => (preds ops j).contains i) (fun p hp hf => hpred _ (by simpa using hf)) hd'
          have e1 : (PA.filter fun p => !(preds ops j).contains p.i).filter (inP ops j) = [] := by
            rw [List.filter_filter]
            exact List.filter_eq_nil_iff.2 fun p _ => by simp [inP]
          have e2 : (PA.filter fun p => !(preds ops j).contains p.i).filter (fun p => !inP ops j p) = PA.filter fun p => !(preds ops j).contains p.i := by
            rw [List.filter_filter]
            exact List.filter_congr fun p _ => by simp [inP]
          exact fin (h2 ⟨o, ho, by rw [e1, e2]; exact h1⟩) rfl (.inl rfl) h1
end
end Go.Proofs.YtabojfgmbfnoiaaGreatDoor
end
section
/- Regions that draw their order: how a walk is written. -/
set_option linter.unusedVariables false
set_option linter.unusedSimpArgs false
namespace Go.Proofs.YtabojfgmbfnoiaaGreatDoor
def pickT : List Bool → List HA → List HA
  | true :: m, x :: l => x :: pickT m l
  | false :: m, x :: l => pickT m l
  | _, _ => []
def pickF : List Bool → List HA → List HA
  | true :: m, x :: l => pickF m l
  | false :: m, x :: l => x :: pickF m l
  | _, l => l
theorem pick_perm : ∀ (m : List Bool) (l : List HA), l.Perm (pickT m l ++ pickF m l)
  | [], l => by simp [pickT, pickF]
  | true :: m, [] => by simp [pickT, pickF]
  | false :: m, [] => by simp [pickT, pickF]
  | true :: m, x :: l => by simpa [pickT, pickF] using pick_perm m l
  | false :: m, x :: l => by
    simp only [pickT, pickF]
    exact (List.Perm.cons x (pick_perm m l)).trans List.perm_middle.symm
def dstsOk (n : Nat) : List Oper → Bool
  | [] => true
  | ⟨some d, _, _, _, _, _⟩ :: l => Nat.blt d n && dstsOk n l
  | _ :: l => dstsOk n l
theorem dstsOk.at {n : Nat} : ∀ {l : List Oper}, dstsOk n l = true → ∀ j d, dstOf l.toArray j = some d → d < n
  | [], h, j, d, hd => by simp [dstOf] at hd
  | ⟨some e, a1, a2, a3, a4, a5⟩ :: l, h, 0, d, hd => by
    simp [dstOf] at hd; subst hd
    simp only [dstsOk, Bool.and_eq_true] at h
    exact lt_of_blt h.1
  | ⟨none, a1, a2, a3, a4, a5⟩ :: l, h, 0, d, hd => by simp [dstOf] at hd
  | ⟨some e, a1, a2, a3, a4, a5⟩ :: l, h, j + 1, d, hd => by
    simp only [dstsOk, Bool.and_eq_true] at h
    exact dstsOk.at h.2 j d (by simpa [dstOf] using hd)
  | ⟨none, a1, a2, a3, a4, a5⟩ :: l, h, j + 1, d, hd => dstsOk.at (l := l) (by simpa [dstsOk] using h) j d (by simpa [dstOf] using hd)
section
variable {Γ : Cx} {E : Env} {M : List HA} {Q : Post}
theorem C_draw {id : Nat} {l : List Oper} (order : List (Nat × DK)) (mask : List Bool) (hm : Γ.P.follows .mixedOrders = true) (hok : okDraw l.toArray order = true) (hn : dstsOk Γ.n l = true)
    (h : DP Γ.w0 Γ.P l.toArray (fun E' M' => Q .normal E' M') (pickF mask M) order [] E (pickT mask M)) : WP Γ (.region id l.toArray true) E M Q := by
  intro a w hd
  simp only [okDraw, Bool.and_eq_true] at hok
  obtain ⟨⟨⟨h1, h2⟩, h3⟩, h4⟩ := hok
  refine wp_region_any hm ?_
  have h2' : ∀ i, i < l.toArray.size → i ∈ order.map (·.1) := fun i hi => by simpa using List.all_eq_true.1 h2 i (List.mem_range.2 hi)
  have hsz : (List.range l.toArray.size).countP (fun i => !(Array.replicate l.toArray.size false).getD i false) ≤ l.toArray.size :=
    Nat.le_trans List.countP_le_length (by simp)
  have hex : ∀ i, ¬ ((Array.replicate l.toArray.size false).getD i false = true) := fun i => by
    simp [Array.getD_eq_getD_getElem?, Array.getElem?_replicate]
    split <;> rfl
  have inv : InvS Γ l.toArray (fun E' M' => Q .normal E' M') E (pickF mask M) (fun i => (Array.replicate l.toArray.size false).getD i false = true) a { w with drawn := w.drawn + 1 } [] order [] E (pickT mask M) (fun _ => none) [] (fun _ _ => True) :=
    { ok := h1, dp := h
      env := fun d s hs => .inr ⟨fun i hi => (by cases hi), hs⟩
      main := fun q hq => (by cases hq)
      rest := fun q hq => hex q.1
      pf := fun q hq => (by cases hq)
      ff := fun q hq => (by cases hq)
      nf := fun q hq => (by cases hq)
      pa := fun p hp => (by cases hp)
      nd := List.nodup_nil
      pc := fun i hi => (by cases hi)
      cl := fun i hi => absurd hi (hex i)
      sz := fun i hi => absurd hi (hex i)
      newh := .nil
      size := hd.1
      defers := hd.2.1
      holds := ((hd.2.2.drew).perm (H' := [] ++ (pickT mask M ++ pickF mask M)) (by rw [List.nil_append]; exact pick_perm mask M)).imp fun φ hx => ⟨⟨fun i hi => absurd hi (hex i), fun d s _ hs => hx.1 d s hs⟩, trivial, hx.2⟩
      vd := fun i hi => absurd rfl hi
      all := fun i hi => by simpa using h2' i hi
      lt := fun q hq => lt_of_blt (List.all_eq_true.1 h3 q (by simpa using hq)) }
  obtain ⟨pre2, rem2, PA2, E2, V2, Hn2, T2, g2, g3, g4⟩ := inv.adv
  exact draw_main hm (order := order) (Q := fun E' M' => Q .normal E' M') (E0 := E) h1 h2' h4 (dstsOk.at hn) (fun a w E' M' hq hd => ⟨E', M', hq, hd⟩) _ _ _ _ _ pre2 rem2 _ _ _ _ _ _ (by rw [g4]; simp) (by simp) hsz g2 g3
end
/-! ### The steps of such a walk -/
/-- M' is C' on R. -/
class OnTop (R M' : List HA) (C' : outParam (List HA)) : Prop where
  e : M' = C' ++ R
instance (R : List HA) : OnTop R R [] := ⟨rfl⟩
instance (x : HA) (R M' C' : List HA) [h : OnTop R M' C'] : OnTop R (x :: M') (x :: C') := ⟨by rw [h.e]; rfl⟩
section
variable {w0 : World} {P : Program} {ops : Array Oper} {ro : List HA} {Q : Env → List HA → Prop} {rem : List (Nat × DK)} {PA : List PF} {E : Env} {C : List HA} {j : Nat} {o : Oper}
theorem D_nil (h : Q E (C ++ ro)) : DP w0 P ops Q ro [] [] E C := h
theorem D_pure (ho : ops[j]? = some o) (hg : o.guard = none) {s : SVal} (h : ∀ F, OpS w0 P o (restr ops o E) (ro ++ F) (fun s' M' => s' = s ∧ M' = ro ++ F)) (k : DP w0 P ops Q ro rem PA (E.put o.dst s) C) : DP w0 P ops Q ro ((j, .pure) :: rem) PA E C :=
  ⟨o, ho, true, by simp [GuardIs, hg], fun _ => ⟨s, h, k⟩, fun h => by cases h⟩
theorem D_free (ho : ops[j]? = some o) (hg : o.guard = none) {s : SVal} (h : ∀ F, OpS w0 P o (restr ops o E) F (fun s' M' => s' = s ∧ M' = F)) (k : DP w0 P ops Q ro rem PA (E.put o.dst s) C) : DP w0 P ops Q ro ((j, .free) :: rem) PA E C :=
  ⟨o, ho, true, by simp [GuardIs, hg], fun _ => ⟨s, h, k⟩, fun h => by cases h⟩
theorem guardIs_mk {g : Nat} {want : Bool} (hg : o.guard = some (g, want)) {dj : Tmp} {v : Bool} (hdj : dstOf ops g = some dj) (hv : (restr ops o E).get dj = some (sB v)) : GuardIs ops o (restr ops o E) (v == want) := by
  simp only [GuardIs, hg]; exact ⟨dj, hdj, .inl ⟨v, hv, rfl⟩⟩
theorem guardIs_un {g : Nat} {want : Bool} (hg : o.guard = some (g, want)) {dj : Tmp} (hdj : dstOf ops g = some dj) (hv : (restr ops o E).get dj = some (.val undef)) : GuardIs ops o (restr ops o E) false := by
  unfold GuardIs; rw [hg]; exact ⟨dj, hdj, .inr ⟨hv, rfl⟩⟩
/-- A guarded one that runs. -/
theorem D_pureT (ho : ops[j]? = some o) {g : Nat} {want : Bool} (hg : o.guard = some (g, want)) {dj : Tmp} {v : Bool} (hdj : dstOf ops g = some dj) (hv : (restr ops o E).get dj = some (sB v)) (hw : v = want) {s : SVal}
    (h : ∀ F, OpS w0 P o (restr ops o E) (ro ++ F) (fun s' M' => s' = s ∧ M' = ro ++ F)) (k : DP w0 P ops Q ro rem PA (E.put o.dst s) C) : DP w0 P ops Q ro ((j, .pure) :: rem) PA E C :=
  ⟨o, ho, v == want, guardIs_mk hg hdj hv, fun _ => ⟨s, h, k⟩, fun h => by simp [hw] at h⟩
theorem D_freeT (ho : ops[j]? = some o) {g : Nat} {want : Bool} (hg : o.guard = some (g, want)) {dj : Tmp} {v : Bool} (hdj : dstOf ops g = some dj) (hv : (restr ops o E).get dj = some (sB v)) (hw : v = want) {s : SVal}
    (h : ∀ F, OpS w0 P o (restr ops o E) F (fun s' M' => s' = s ∧ M' = F)) (k : DP w0 P ops Q ro rem PA (E.put o.dst s) C) : DP w0 P ops Q ro ((j, .free) :: rem) PA E C :=
  ⟨o, ho, v == want, guardIs_mk hg hdj hv, fun _ => ⟨s, h, k⟩, fun h => by simp [hw] at h⟩
/-- A guarded one that doesn't. -/
theorem D_pureN (ho : ops[j]? = some o) (hg : GuardIs ops o (restr ops o E) false) (k : DP w0 P ops Q ro rem PA (E.put o.dst (.val undef)) C) : DP w0 P ops Q ro ((j, .pure) :: rem) PA E C :=
  ⟨o, ho, false, hg, fun h => (by cases h), fun _ => k⟩
theorem D_freeN (ho : ops[j]? = some o) (hg : GuardIs ops o (restr ops o E) false) (k : DP w0 P ops Q ro rem PA (E.put o.dst (.val undef)) C) : DP w0 P ops Q ro ((j, .free) :: rem) PA E C :=
  ⟨o, ho, false, hg, fun h => (by cases h), fun _ => k⟩
theorem D_mainN (ho : ops[j]? = some o) (hg : GuardIs ops o (restr ops o E) false) (k : DP w0 P ops Q ro rem PA (E.put o.dst (.val undef)) C) : DP w0 P ops Q ro ((j, .main) :: rem) PA E C :=
  ⟨o, ho, false, hg, fun h => (by cases h), fun _ => k⟩
theorem guardIs_no {g : Nat} {want : Bool} (hg : o.guard = some (g, want)) {dj : Tmp} {v : Bool} (hdj : dstOf ops g = some dj) (hv : (restr ops o E).get dj = some (sB v)) (hw : v = !want) : GuardIs ops o (restr ops o E) false := by
  have := guardIs_mk hg hdj hv
  subst hw
  rwa [show ((!want) == want) = false by cases want <;> rfl] at this
theorem D_new (ho : ops[j]? = some o) (hg : o.guard = none) (p : PF) (hp : p.i = j) (h : ∀ F, OpS w0 P o (restr ops o E) F (fun s' M' => ∃ g, s' = p.sv g ∧ M' = p.A g :: F)) (k : DP w0 P ops Q ro rem (p :: PA) (E.del o.dst) C) : DP w0 P ops Q ro ((j, .new) :: rem) PA E C :=
  ⟨o, ho, hg, p, hp, h, k⟩
theorem D_mainX {K : Env → List HA → Prop} (hg : o.guard = none) (h : ∀ F, OpS w0 P o (restr ops o E) (C ++ (ro ++ F)) (fun s M' => ∃ C', M' = C' ++ (ro ++ F) ∧ K (E.put o.dst s) C')) : DMain w0 P ops ro o E C K :=
  ⟨true, by simp [GuardIs, hg], fun _ => h, fun h => by cases h⟩
theorem D_mainT {K : Env → List HA → Prop} {g : Nat} {want : Bool} (hg : o.guard = some (g, want)) {dj : Tmp} {v : Bool} (hdj : dstOf ops g = some dj) (hv : (restr ops o E).get dj = some (sB v)) (hw : v = want)
    (h : ∀ F, OpS w0 P o (restr ops o E) (C ++ (ro ++ F)) (fun s M' => ∃ C', M' = C' ++ (ro ++ F) ∧ K (E.put o.dst s) C')) : DMain w0 P ops ro o E C K :=
  ⟨v == want, guardIs_mk hg hdj hv, fun _ => h, fun h => by simp [hw] at h⟩
theorem D_main (ho : ops[j]? = some o) (h : DMain w0 P ops ro o E C (fun E' C' => DP w0 P ops Q ro rem PA E' C')) : DP w0 P ops Q ro ((j, .main) :: rem) PA E C := ⟨o, ho, h⟩
theorem D_open (ho : ops[j]? = some o) (h : DMain w0 P ops [] o E (C ++ ro) (fun E' C' => DP w0 P ops Q [] rem PA E' C')) : DP w0 P ops Q ro ((j, .open_) :: rem) PA E C := ⟨o, ho, h⟩
theorem D_take (PA1 PA2 : List PF) (h1 : PA.filter (inP ops j) = PA1) (h2 : (PA.filter fun p => !inP ops j p) = PA2) (ho : ops[j]? = some o) (h : takeQ ops PA1 E C (fun E1 C1 => DMain w0 P ops ro o E1 C1 (fun E' C' => DP w0 P ops Q ro rem PA2 E' C'))) : DP w0 P ops Q ro ((j, .take) :: rem) PA E C :=
  ⟨o, ho, by rw [h1, h2]; exact h⟩
theorem D_end {K : Env → List HA → Prop} {R M' C' : List HA} {E' : Env} [h : OnTop R M' C'] (k : K E' C') : ∃ C', M' = C' ++ R ∧ K E' C' := ⟨C', h.e, k⟩
end
end Go.Proofs.YtabojfgmbfnoiaaGreatDoor
end
section
/- Plain functions that mirror the code, and the turns of a walk along them. -/
set_option linter.unusedVariables false
set_option linter.unusedSimpArgs false
namespace Go.Proofs.YtabojfgmbfnoiaaGreatDoor
/-! ### Plain side -/
def ck (e : Int) : Option Int := if -9223372036854775808 ≤ e ∧ e ≤ 9223372036854775807 then some e else none
theorem ck_e {e x : Int} (h : ck e = some x) : x = e ∧ (-9223372036854775808 ≤ e ∧ e ≤ 9223372036854775807) := by
  unfold ck at h
  split at h
  · injection h with h; exact ⟨h.symm, by assumption⟩
  · cases h
theorem ck_eq {e : Int} (h : -9223372036854775808 ≤ e ∧ e ≤ 9223372036854775807) : ck e = some e := if_pos h
def idx {α : Type} (xs : List α) (i : Int) : Option α := if 0 ≤ i then xs[i.toNat]? else none
theorem idx_e {α : Type} {xs : List α} {i : Int} {z : α} (h : idx xs i = some z) : 0 ≤ i ∧ xs[i.toNat]? = some z := by
  unfold idx at h
  split at h
  · exact ⟨by assumption, h⟩
  · cases h
theorem idx_lt {α : Type} {xs : List α} {i : Int} {z : α} (h : idx xs i = some z) : 0 ≤ i ∧ i < xs.length := by
  obtain ⟨h1, h2⟩ := idx_e h
  obtain ⟨h3, _⟩ := List.getElem?_eq_some_iff.1 h2
  exact ⟨h1, by omega⟩
def sidx (s : ByteArray) (i : Int) : Option UInt8 := if 0 ≤ i then s.data[i.toNat]? else none
theorem sidx_e {s : ByteArray} {i : Int} {z : UInt8} (h : sidx s i = some z) : 0 ≤ i ∧ s.data[i.toNat]? = some z := by
  unfold sidx at h
  split at h
  · exact ⟨by assumption, h⟩
  · cases h
theorem bind_e {α β : Type} {o : Option α} {k : α → Option β} {r : β} (h : o.bind k = some r) : ∃ x, o = some x ∧ k x = some r := by
  cases o with
  | none => cases h
  | some x => exact ⟨x, rfl, h⟩
theorem req_e {c : Prop} [Decidable c] {β : Type} {k : Option β} {r : β} (h : (if c then k else none) = some r) : c ∧ k = some r := by
  split at h
  · exact ⟨by assumption, h⟩
  · cases h
theorem brn_t {b : Bool} {β : Type} {x y : Option β} {r : β} (h : (bif b then x else y) = some r) (hb : b = true) : x = some r := by subst hb; exact h
theorem brn_f {b : Bool} {β : Type} {x y : Option β} {r : β} (h : (bif b then x else y) = some r) (hb : b = false) : y = some r := by subst hb; exact h
/-! ### Turns -/
def selx : List Nat → Nat → List HA → List HA
  | [], d, l => l.drop d
  | i :: is, d, l => match l[i]? with
    | some A => A :: selx is d (l.eraseIdx i)
    | none => selx is d l
theorem sel_good {w0 w : World} : ∀ (is : List Nat) (d : Nat) (H : List HA) (φ : Hp) (pre hs : List Hp), Good w0 φ (pre ++ hs) w → Sat φ H hs → ∃ hs', Good w0 φ (pre ++ hs') w ∧ Sat φ (selx is d H) hs'
  | [], d, H, φ, pre, hs, g, s => by
    induction d generalizing H hs with
    | zero => exact ⟨hs, g, by simpa [selx] using s⟩
    | succ d ih =>
      cases H with
      | nil =>
        refine ⟨hs, g, by simpa [selx] using s⟩
      | cons A H =>
        obtain ⟨q, hs0, rfl, a, t⟩ := s.cons_inv
        have g' : Good w0 φ (pre ++ hs0) w := by
          refine ⟨g.os, g.tape, g.output, g.size, g.base, fun x hx => g.agree x ?_, ?_⟩
          · rcases List.mem_cons.1 hx with rfl | hx
            · exact List.mem_cons_self ..
            · refine List.mem_cons_of_mem _ ?_
              rcases List.mem_append.1 hx with hx | hx
              · exact List.mem_append_left _ hx
              · exact List.mem_append_right _ (List.mem_cons_of_mem _ hx)
          · have h1 : (φ :: (pre ++ hs0)).Sublist (φ :: (pre ++ q :: hs0)) := .cons_cons _ (List.Sublist.append (List.Sublist.refl _) (.cons _ (List.Sublist.refl _)))
            exact g.disj.sublist h1
        obtain ⟨hs', g2, s2⟩ := ih H hs0 g' t
        exact ⟨hs', g2, by simpa [selx] using s2⟩
  | i :: is, d, H, φ, pre, hs, g, s => by
    unfold selx
    cases hi : H[i]? with
    | none => exact sel_good is d H φ pre hs g s
    | some A =>
      obtain ⟨hs1, p1, s1⟩ := Sat.perm (perm_front hi) s
      obtain ⟨q, hs0, rfl, a, t⟩ := s1.cons_inv
      have g1 : Good w0 φ ((pre ++ [q]) ++ hs0) w := by
        refine g.perm ?_
        rw [List.append_assoc]
        exact p1.append_left pre
      obtain ⟨hs', g2, s2⟩ := sel_good is d (H.eraseIdx i) φ (pre ++ [q]) hs0 g1 t
      exact ⟨q :: hs', by simpa using g2, .cons a s2⟩
theorem Holds.sel {w0 w : World} {X : Hp → Prop} {H : List HA} (is : List Nat) (d : Nat) (h : Holds w0 H w X) : Holds w0 (selx is d H) w X := by
  obtain ⟨φ, hs, g, s, x⟩ := h
  obtain ⟨hs', g', s'⟩ := sel_good is d H φ [] hs g s
  exact ⟨φ, hs', g', s', x⟩
theorem sel_perm : ∀ (is : List Nat) (H : List HA), H.Perm (selx is 0 H)
  | [], H => by simp [selx]
  | i :: is, H => by
    unfold selx
    cases hi : H[i]? with
    | none => exact sel_perm is H
    | some A => exact (perm_front hi).trans (.cons _ (sel_perm is _))
theorem own_nil_holds {w0 w : World} {H : List HA} {X : Hp → Prop} (ety : TypeId) (k : EK) (h : Holds w0 H w X) : Holds w0 (ownA (.slice none 0 0) ety k [] :: H) w X := by
  obtain ⟨φ, hs, g, hS, hx⟩ := h
  refine ⟨φ, Hp.emp :: hs, ⟨g.os, g.tape, g.output, g.size, g.base, fun q hq k o hk => ?_, ?_⟩, .cons (.inl ⟨rfl, rfl, rfl⟩) hS, hx⟩
  · rcases List.mem_cons.1 hq with rfl | hq
    · exact g.agree _ (List.mem_cons_self ..) k o hk
    rcases List.mem_cons.1 hq with rfl | hq
    · simp [Hp.emp] at hk
    · exact g.agree _ (List.mem_cons_of_mem _ hq) k o hk
  · have := g.disj
    rw [List.pairwise_cons] at this
    rw [List.pairwise_cons, List.pairwise_cons]
    refine ⟨fun q hq => ?_, fun q _ k => .inl rfl, this.2⟩
    rcases List.mem_cons.1 hq with rfl | hq
    · exact fun k => .inr rfl
    · exact this.1 q hq
def Le2 (E : Env) (M : List HA) (E' : Env) (M' : List HA) : Prop := (∃ is d, selx is d M = M') ∧ ∀ k s, E'.get k = some s → E.get k = some s
theorem Env.le_refl (E : Env) : ∀ k s, E.get k = some s → E.get k = some s := fun _ _ h => h
theorem Le2.mk {E E' : Env} {M M' : List HA} (is : List Nat) (d : Nat) (hh : selx is d M = M') (he : Env.le E E') : Le2 E M E' M' := ⟨⟨is, d, hh⟩, fun k s h => he.get k s h⟩
/-- Of one state another one follows. -/
def Turn (Γ : Cx) (E : Env) (M : List HA) (E' : Env) (M' : List HA) : Prop := ∀ a w, Γ.Den E M a w → Γ.Den E' M' a w
section
variable {Γ : Cx} {E E' : Env} {M M' : List HA} {Q : Post}
theorem Cx.Den.le2 {a : Act} {w : World} (h : Γ.Den E M a w) (hl : Le2 E M E' M') : Γ.Den E' M' a w := by
  obtain ⟨⟨is, d, rfl⟩, he⟩ := hl
  exact ⟨h.1, h.2.1, (h.2.2.imp fun φ hx => ⟨fun k s hk => hx.1 k s (he k s hk), hx.2⟩).sel is d⟩
theorem C_turn {c : Code} (t : Turn Γ E M E' M') (h : WP Γ c E' M' Q) : WP Γ c E M Q := fun a w hd => h a w (t a w hd)
theorem W_turn {ops : Array Oper} {rest : List Oper} {Q : Env → List HA → Prop} (t : Turn Γ E M E' M') (h : WPL Γ ops rest E' M' Q) : WPL Γ ops rest E M Q := fun a w hd => h a w (t a w hd)
theorem T_le (h : Le2 E M E' M') : Turn Γ E M E' M' := fun a w hd => hd.le2 h
/-- An empty row is owned for nothing. -/
theorem T_nil (ety : TypeId) (k : EK) : Turn Γ E M E (ownA (.slice none 0 0) ety k [] :: M) := fun a w hd => ⟨hd.1, hd.2.1, own_nil_holds ety k hd.2.2⟩
theorem Turn.refl : Turn Γ E M E M := fun _ _ h => h
theorem Turn.trans {E2 : Env} {M2 : List HA} (t : Turn Γ E M E' M') (u : Turn Γ E' M' E2 M2) : Turn Γ E M E2 M2 := fun a w h => u a w (t a w h)
theorem C_cut {ι : Type} {x y : Code} (SE : ι → Env) (SM : ι → List HA) (I : ι → Prop) (h : WP Γ x E M (thenQ (fun E' M' => ∃ i, I i ∧ Turn Γ E' M' (SE i) (SM i)) Q)) (k : ∀ i, I i → WP Γ y (SE i) (SM i) Q) : WP Γ (.seq x y) E M Q :=
  C_seq (C_mono h fun e E' M' hq => by
    cases e with
    | normal =>
      obtain ⟨i, hi, hl⟩ := hq
      exact fun a w hd => k i hi a w (hl a w hd)
    | _ => exact hq)
theorem jmp {ι : Type} {I : ι → Prop} {SE : ι → Env} {SM : ι → List HA} (i : ι) (h : I i) (l : Turn Γ E M (SE i) (SM i)) : ∃ i, I i ∧ Turn Γ E M (SE i) (SM i) := ⟨i, h, l⟩
theorem C_loop2 {ι : Type} {c : Code} (SE : ι → Env) (SM : ι → List HA) (I : ι → Prop) (μ : ι → Nat) (i0 : ι) (hi0 : I i0) (h0 : Turn Γ E M (SE i0) (SM i0))
    (round : ∀ i, I i → WP Γ c (SE i) (SM i) (thenQ (fun E' M' => ∃ j, I j ∧ Turn Γ E' M' (SE j) (SM j) ∧ μ j < μ i) Q)) : WP Γ (.loop c) E M Q := by
  intro a w hd b k cs
  have key : ∀ n i a w, I i → μ i = n → Γ.Den (SE i) (SM i) a w →
      ∃ e a' w', (∃ E' M', Q e E' M' ∧ Γ.Den E' M' a' w') ∧ Arrives Γ.P (lone (b.at a (.code c :: .inLoop c :: k)) cs w) b k cs e a' w' := by
    intro n
    induction n using Nat.strongRecOn with
    | _ n ih =>
      intro i a w hi hn hI
      obtain ⟨e, a₁, w₁, ⟨E', M', hq, hd'⟩, harr⟩ := round i hi a w hI b (.inLoop c :: k) cs
      cases e with
      | normal =>
        obtain ⟨j, hj, hl, hlt⟩ := hq
        obtain ⟨e₂, a₂, w₂, hq₂, harr₂⟩ := ih (μ j) (hn ▸ hlt) j a₁ w₁ hj rfl (hl a₁ w₁ hd')
        exact ⟨e₂, a₂, w₂, hq₂, .of_steps (Steps.trans harr (.one step_inLoop)) harr₂⟩
      | exit id => exact ⟨_, a₁, w₁, ⟨E', M', hq, hd'⟩, .pass (x := .inLoop c) rfl (fun _ _ => .inl (by simp)) harr⟩
      | goto l => exact ⟨_, a₁, w₁, ⟨E', M', hq, hd'⟩, .pass (x := .inLoop c) rfl (fun _ _ => .inl (by simp)) harr⟩
      | ret => exact ⟨_, a₁, w₁, ⟨E', M', hq, hd'⟩, .pass (x := .inLoop c) rfl (fun _ _ => .inl (by simp)) harr⟩
      | panic ch => exact ⟨_, a₁, w₁, ⟨E', M', hq, hd'⟩, .pass (x := .inLoop c) rfl (fun _ _ => .inl (by simp)) harr⟩
      | outgrown => exact ⟨_, a₁, w₁, ⟨E', M', hq, hd'⟩, .pass (x := .inLoop c) rfl (fun _ _ => .inl (by simp)) harr⟩
  obtain ⟨e, a', w', hq, harr⟩ := key _ i0 a w hi0 rfl (h0 a w hd)
  exact ⟨e, a', w', hq, .of_steps (.one step_loop) harr⟩
/-- A loop along its plain function L. -/
theorem C_loopF {κ β : Type} {c : Code} (SE : κ → Env) (SM : κ → List HA) (L : Nat → κ → Option β) (r : β) (n0 : Nat) (d0 : κ) (h0 : L n0 d0 = some r) (hl : Turn Γ E M (SE d0) (SM d0)) (hz : ∀ d, L 0 d = none)
    (round : ∀ n d, L (n + 1) d = some r → WP Γ c (SE d) (SM d) (thenQ (fun E' M' => ∃ d', L n d' = some r ∧ Turn Γ E' M' (SE d') (SM d')) Q)) : WP Γ (.loop c) E M Q :=
  C_loop2 (ι := Nat × κ) (fun i => SE i.2) (fun i => SM i.2) (fun i => L i.1 i.2 = some r) (fun i => i.1) (n0, d0) h0 hl (fun ⟨n, d⟩ hi => by
    cases n with
    | zero => simp only [hz] at hi; cases hi
    | succ n =>
      refine C_mono (round n d hi) ?_
      intro e E' M' hq
      cases e
      case normal =>
        obtain ⟨d', h1, h2⟩ := hq
        exact ⟨(n, d'), h1, h2, Nat.lt_succ_self n⟩
      all_goals exact hq)
theorem jmpL {κ β : Type} {L : κ → Option β} {r : β} {SE : κ → Env} {SM : κ → List HA} (d : κ) (h : L d = some r) (l : Turn Γ E M (SE d) (SM d)) : ∃ d', L d' = some r ∧ Turn Γ E M (SE d') (SM d') := ⟨d, h, l⟩
theorem W_re {ops : Array Oper} {rest : List Oper} {Q : Env → List HA → Prop} {d : Tmp} {s s' : SVal} (e : s' = s) (h : WPL Γ ops rest ((d, s') :: E) M Q) : WPL Γ ops rest ((d, s) :: E) M Q := e ▸ h
theorem D_re {w0 : World} {P : Program} {ops : Array Oper} {ro : List HA} {Q : Env → List HA → Prop} {rem : List (Nat × DK)} {PA : List PF} {C : List HA} {d : Tmp} {s s' : SVal} (e : s' = s) (h : DP w0 P ops Q ro rem PA ((d, s') :: E) C) : DP w0 P ops Q ro rem PA (E.put (some d) s) C := e ▸ h
end
/-! ### Functions along their plain ones -/
def RetQ2 (Γ : Cx) (rs : List ResultVar) (R : SVal → List HA → Prop) (F : List HA) : Post := fun e E M =>
  (e = .normal ∨ e = .ret) ∧ ∃ ss H' E2 M2 is d, Turn Γ E M E2 M2 ∧ ResOk Γ.P E2 M2 rs ss ∧ selx is d M2 = H' ++ F ∧ R (resOf ss) H'
theorem fn_intro2 {w0 : World} {P : Program} {f : FuncId} {fn : Func} {c : Code} {args : List SVal} {H : List HA} {R : SVal → List HA → Prop} (n : Nat) (rs : List ResultVar) (hf : P.funcs[f]? = some fn) (hb : fn.body = some c) (hnt : fn.ntmps = n) (hrs : fn.results = rs.toArray) (hn : Nat.ble args.length n = true)
    (h : ∀ (X : Hp → Prop) (hX : Mono X) (F : List HA), WP ⟨w0, P, X, hX, n⟩ c (argEnv 0 args) (H ++ F) (RetQ2 ⟨w0, P, X, hX, n⟩ rs R F)) : Fn w0 P f args H R := by
  subst hnt
  intro X hX F vs w hh
  have hn' : args.length ≤ fn.ntmps := Nat.le_of_ble_eq_true hn
  have hl : vs.size = args.length := by
    obtain ⟨φ, hs, g, hS, hr, _⟩ := hh
    have := hr.1; rwa [Array.length_toList] at this
  refine calls_of_wp hf hb (wp_mono (h X hX F { tmps := vs ++ Array.replicate (fn.ntmps - vs.size) undef, defers := [] } w ⟨by simp; omega, rfl, hh.imp fun φ hx => ⟨fun k s hk => ?_, hx.2⟩⟩) ?_)
  · obtain ⟨j, e, hj⟩ := argEnv_get args 0 k s hk
    obtain ⟨v, hv, hr⟩ := hx.1.get hj
    have hk' : k = j := by omega
    subst hk'
    have hv' : vs[k]? = some v := by simpa using hv
    have hlt := (Array.getElem?_eq_some_iff.1 hv').1
    have : (vs ++ Array.replicate (fn.ntmps - vs.size) undef)[k]? = some v := by rw [Array.getElem?_append_left hlt]; exact hv'
    rw [Array.getD_eq_getD_getElem?, this]
    exact hr
  · rintro e a w' ⟨E1, M1, ⟨hee, ss, H', E', M', is, d, htn, hres, hheap, hR⟩, hd0⟩
    have hd := htn a w' hd0
    obtain ⟨hd1, hd2, φ, hs, g, hS, he, hx⟩ := hd
    obtain ⟨us, hrep, hrun⟩ := hres.run g hS he
    have hrun2 : ∃ v, (results fn a.tmps).run P w' = .ok v w' ∧ Rep φ (resOf ss) v := by
      unfold results
      rw [hrs, List.mapM_toArray]
      simp only [Sem.run_bind, Sem.run_map]
      rw [hrun _ (fun _ => rfl) (fun _ _ => rfl)]
      simp only [Result.andThen_ok, Sem.run_pure]
      refine ⟨_, rfl, ?_⟩
      have hlen := hrep.1
      by_cases h1 : us.length = 1
      · obtain ⟨u, rfl⟩ := List.length_eq_one_iff.1 h1
        obtain ⟨s, rfl⟩ := List.length_eq_one_iff.1 (hlen.symm.trans h1)
        have := hrep.2 0 (by simp) (by simp)
        simpa [resOf] using this
      · rw [dif_neg (by simpa using h1)]
        have hne : resOf ss = .tup ss := by
          match ss, hlen with
          | [], _ => rfl
          | [s], hlen => exact absurd (by simpa using hlen) h1
          | _ :: _ :: _, _ => rfl
        rw [hne]
        exact RepL.tup (by simpa using hrep)
    obtain ⟨v, hv, hrv⟩ := hrun2
    have fin : bodyPost P fn (fun e w'' => ∃ v s H', e = .returned v ∧ R s H' ∧ Holds w0 (H' ++ F) w'' (fun φ => Rep φ s v ∧ X φ)) .ret a w' := ⟨hd2, v, hv, v, _, H', rfl, hR, by rw [← hheap]; exact Holds.sel is d ⟨φ, hs, g, hS, hrv, hx⟩⟩
    rcases hee with rfl | rfl <;> exact fin
/-- What a function gives back. -/
theorem ret_ok {Γ : Cx} {rs : List ResultVar} {R : SVal → List HA → Prop} {F : List HA} {E E2 : Env} {M M2 : List HA} (t : Turn Γ E M E2 M2) (is : List Nat) (d : Nat) (ss : List SVal) (H' : List HA) (h1 : ResOk Γ.P E2 M2 rs ss) (h2 : selx is d M2 = H' ++ F) (h3 : R (resOf ss) H') : RetQ2 Γ rs R F .ret E M := ⟨.inr rfl, ss, H', E2, M2, is, d, t, h1, h2, h3⟩
theorem ret_ok' {Γ : Cx} {rs : List ResultVar} {R : SVal → List HA → Prop} {F : List HA} {E E2 : Env} {M M2 : List HA} (t : Turn Γ E M E2 M2) (is : List Nat) (d : Nat) (ss : List SVal) (H' : List HA) (h1 : ResOk Γ.P E2 M2 rs ss) (h2 : selx is d M2 = H' ++ F) (h3 : R (resOf ss) H') : RetQ2 Γ rs R F .normal E M := ⟨.inl rfl, ss, H', E2, M2, is, d, t, h1, h2, h3⟩
/-! ### Parts in rows -/
section
variable {A : HA} {b : Nat} {v : Value} {ty ety : TypeId} {cs : List SVal} {k : EK} {xs : List k.T} {l R H' : List HA} {C : HA → List HA}
instance [h : BoxAt b (l ++ R) ty cs] : BoxAt b ((A :: l) ++ R) ty cs := ⟨let ⟨i, e⟩ := h.i; ⟨i + 1, by simpa using e⟩⟩
instance : BoxAt b ((boxA b ty cs :: l) ++ R) ty cs := ⟨⟨0, rfl⟩⟩
instance [h : BoxAt b R ty cs] : BoxAt b ([] ++ R) ty cs := h
instance [h : OwnAt v (l ++ R) ety k xs] : OwnAt v ((A :: l) ++ R) ety k xs := ⟨let ⟨i, e⟩ := h.i; ⟨i + 1, by simpa using e⟩⟩
instance : OwnAt v ((ownA v ety k xs :: l) ++ R) ety k xs := ⟨⟨0, rfl⟩⟩
instance [h : OwnAt v R ety k xs] : OwnAt v ([] ++ R) ety k xs := h
instance [h : BoxCtx b (l ++ R) ty cs C] : BoxCtx b ((A :: l) ++ R) ty cs (fun B => A :: C B) := ⟨.there _ h.u⟩
instance : BoxCtx b ((boxA b ty cs :: l) ++ R) ty cs (fun B => B :: (l ++ R)) := ⟨.here _ _⟩
instance [h : BoxCtx b R ty cs C] : BoxCtx b ([] ++ R) ty cs C := h
instance [h : OwnCtx v (l ++ R) ety k xs C] : OwnCtx v ((A :: l) ++ R) ety k xs (fun B => A :: C B) := ⟨.there _ h.u⟩
instance : OwnCtx v ((ownA v ety k xs :: l) ++ R) ety k xs (fun B => B :: (l ++ R)) := ⟨.here _ _⟩
instance [h : OwnCtx v R ety k xs C] : OwnCtx v ([] ++ R) ety k xs C := h
instance [h : BoxDel b (l ++ R) ty cs H'] : BoxDel b ((A :: l) ++ R) ty cs (A :: H') := ⟨.there _ h.u⟩
instance : BoxDel b ((boxA b ty cs :: l) ++ R) ty cs (l ++ R) := ⟨.here _⟩
instance [h : BoxDel b R ty cs H'] : BoxDel b ([] ++ R) ty cs H' := h
instance [h : OwnDel v (l ++ R) ety k xs H'] : OwnDel v ((A :: l) ++ R) ety k xs (A :: H') := ⟨.there _ h.u⟩
instance : OwnDel v ((ownA v ety k xs :: l) ++ R) ety k xs (l ++ R) := ⟨.here _⟩
instance [h : OwnDel v R ety k xs H'] : OwnDel v ([] ++ R) ety k xs H' := h
instance [h : OnTop R (l ++ R) H'] : OnTop R ((A :: l) ++ R) (A :: H') := ⟨by rw [List.cons_append, h.e]; rfl⟩
instance : OnTop R ([] ++ R) [] := ⟨rfl⟩
end
end Go.Proofs.YtabojfgmbfnoiaaGreatDoor
end
section
/- Values that say less; rows frozen inside values; guards that were never reckoned. -/
set_option linter.unusedVariables false
set_option linter.unusedSimpArgs false
namespace Go.Proofs.YtabojfgmbfnoiaaGreatDoor
def RepImp (s s' : SVal) : Prop := ∀ φ v, Rep φ s v → Rep φ s' v
theorem RepImp.refl (s : SVal) : RepImp s s := fun _ _ h => h
theorem RepImp.nil (k : EK) : RepImp (.val (.slice none 0 0)) (.isl k []) := fun φ v h => by
  rw [h.val_eq]
  exact .isl k [] none 0 (Nat.le_refl _) (by simp [maxLen]) (fun h => by simp at h) (fun _ _ => undef) (fun ad e => by cases e) (fun i hi => by simp at hi)
def RepImpL (cs cs' : List SVal) : Prop := ∀ φ vs, RepL φ cs vs → RepL φ cs' vs
theorem RepImpL.nil : RepImpL [] [] := fun _ _ h => h
theorem RepImpL.cons {s s' : SVal} {cs cs' : List SVal} (h : RepImp s s') (t : RepImpL cs cs') : RepImpL (s :: cs) (s' :: cs') := fun φ vs hr => by
  cases vs with
  | nil => have := hr.1; simp at this
  | cons v vs =>
    have h1 : Rep φ s v := hr.2 0 (by simp) (by simp)
    have h2 : RepL φ cs vs := ⟨by have := hr.1; simpa using this, fun i i1 i2 => hr.2 (i + 1) (by simpa using i1) (by simpa using i2)⟩
    have h3 := t φ vs h2
    refine ⟨by simp [h3.1], fun i i1 i2 => ?_⟩
    cases i with
    | zero => exact h φ v h1
    | succ i => exact h3.2 i (by simpa using i1) (by simpa using i2)
theorem RepImp.agg {cs cs' : List SVal} (h : RepImpL cs cs') : RepImp (.agg cs) (.agg cs') := fun φ v hr => by
  obtain ⟨vs, rfl, r⟩ := RepL.of_agg hr
  exact (h φ _ r).agg
theorem RepImp.tup {cs cs' : List SVal} (h : RepImpL cs cs') : RepImp (.tup cs) (.tup cs') := fun φ v hr => by
  obtain ⟨vs, rfl, r⟩ := RepL.of_tup hr
  exact (h φ _ r).tup
section
variable {w0 : World} {P : Program} {o : Oper} {E : Env} {M : List HA} {K : SVal → List HA → Prop}
end
theorem Fn.args {w0 : World} {P : Program} {f : FuncId} {args args' : List SVal} {H : List HA} {R : SVal → List HA → Prop} (hi : RepImpL args' args) (h : Fn w0 P f args H R) : Fn w0 P f args' H R := fun X hX F vs w hh =>
  h X hX F vs w (hh.imp fun φ hx => ⟨hi φ _ hx.1, hx.2⟩)
/-- What a row's slice turns a value into, once the row is frozen. -/
def Thaw (v : Value) (k : EK) (xs : List k.T) (s s' : SVal) : Prop := ∀ φ, Rep φ (.isl k xs) v → ∀ u, Rep φ s u → Rep φ s' u
def ThawL (v : Value) (k : EK) (xs : List k.T) (cs cs' : List SVal) : Prop := ∀ φ, Rep φ (.isl k xs) v → ∀ vs, RepL φ cs vs → RepL φ cs' vs
section
variable {v : Value} {k : EK} {xs : List k.T}
theorem Thaw.here : Thaw v k xs (.val v) (.isl k xs) := fun φ h u hu => by rw [hu.val_eq]; exact h
theorem Thaw.same (s : SVal) : Thaw v k xs s s := fun _ _ _ h => h
theorem ThawL.nil : ThawL v k xs [] [] := fun _ _ _ h => h
theorem ThawL.cons {s s' : SVal} {cs cs' : List SVal} (h : Thaw v k xs s s') (t : ThawL v k xs cs cs') : ThawL v k xs (s :: cs) (s' :: cs') := fun φ hv vs hr => by
  cases vs with
  | nil => have := hr.1; simp at this
  | cons u vs =>
    have h1 : Rep φ s u := hr.2 0 (by simp) (by simp)
    have h2 : RepL φ cs vs := ⟨by have := hr.1; simpa using this, fun i i1 i2 => hr.2 (i + 1) (by simpa using i1) (by simpa using i2)⟩
    have h3 := t φ hv vs h2
    refine ⟨by simp [h3.1], fun i i1 i2 => ?_⟩
    cases i with
    | zero => exact h φ hv u h1
    | succ i => exact h3.2 i (by simpa using i1) (by simpa using i2)
theorem Thaw.agg {cs cs' : List SVal} (h : ThawL v k xs cs cs') : Thaw v k xs (.agg cs) (.agg cs') := fun φ hv u hr => by
  obtain ⟨vs, rfl, r⟩ := RepL.of_agg hr
  exact (h φ hv _ r).agg
theorem Thaw.tup {cs cs' : List SVal} (h : ThawL v k xs cs cs') : Thaw v k xs (.tup cs) (.tup cs') := fun φ hv u hr => by
  obtain ⟨vs, rfl, r⟩ := RepL.of_tup hr
  exact (h φ hv _ r).tup
/-- A row is frozen as it is handed over. -/
theorem Fn.thaw {w0 : World} {P : Program} {f : FuncId} {args args' : List SVal} {H : List HA} {R : SVal → List HA → Prop} {ety : TypeId} (hi : ThawL v k xs args args') (h : Fn w0 P f args' H R) : Fn w0 P f args (ownA v ety k xs :: H) R := fun X hX F vs w hh => by
  have h1 := freeze_own (v := v) (ety := ety) (k := k) (xs := xs) (H' := H ++ F) (X := fun φ => RepL φ args vs.toList ∧ X φ) (fun φ φ' hl hx => ⟨hx.1.mono hl, hX _ _ hl hx.2⟩) (hd := ⟨Del.here _⟩) hh
  exact h X hX F vs w (h1.imp fun φ hx => ⟨hi φ hx.1 _ hx.2.1, hx.2.2⟩)
inductive ThawE (v : Value) (k : EK) (xs : List k.T) (E : Env) : Env → Prop where
  | nil : ThawE v k xs E []
  | cons (d : Tmp) {s s' : SVal} {U : Env} (h : E.get d = some s) (t : Thaw v k xs s s') (r : ThawE v k xs E U) : ThawE v k xs E ((d, s') :: U)
theorem ThawE.get {E U : Env} (h : ThawE v k xs E U) (q : Nat) (s' : SVal) (hq : (U ++ E).get q = some s') : ∃ s, E.get q = some s ∧ Thaw v k xs s s' := by
  induction h with
  | nil => exact ⟨s', hq, .same _⟩
  | @cons d s s2 U h t r ih =>
    simp only [List.cons_append, Env.get] at hq
    cases hb : Nat.beq d q with
    | true =>
      rw [hb] at hq
      injection hq with hq; subst hq
      have : d = q := Nat.eq_of_beq_eq_true hb
      subst this
      exact ⟨s, h, t⟩
    | false => rw [hb] at hq; exact ih hq
end
/-- A row no longer changes: wherever its slice stands, it reads as a list from here on. -/
theorem T_freezeL {Γ : Cx} {E : Env} {M : List HA} (v : Value) {ety : TypeId} {k : EK} {xs : List k.T} {H' : List HA} [hd : OwnDel v M ety k xs H'] {U : Env} (hU : ThawE v k xs E U) : Turn Γ E M (U ++ E) H' := fun a w hD => ⟨hD.1, hD.2.1, by
  have h1 := freeze_own (v := v) (X := fun φ => EnvRep φ E a ∧ Γ.X φ) (fun φ φ' hl hx => ⟨hx.1.mono hl, Γ.mono _ _ hl hx.2⟩) hD.2.2
  refine h1.imp fun φ hx => ⟨fun q s' hq => ?_, hx.2.2⟩
  obtain ⟨s, hs, t⟩ := hU.get q s' hq
  exact t φ hx.1 _ (hx.2.1 q s hs)⟩
theorem T_imp {Γ : Cx} {E : Env} {M : List HA} (d : Tmp) {s s' : SVal} (h : E.get d = some s) (hi : RepImp s s') : Turn Γ E M ((d, s') :: E) M := fun a w hD => ⟨hD.1, hD.2.1, hD.2.2.imp fun φ hx => ⟨fun q s2 hq => by
  have hq : (bif Nat.beq d q then some s' else Env.get E q) = some s2 := hq
  cases hb : Nat.beq d q with
  | true =>
    rw [hb] at hq
    injection hq with hq; subst hq
    have : d = q := Nat.eq_of_beq_eq_true hb
    subst this
    exact hi φ _ (hx.1 d s h)
  | false => rw [hb] at hq; exact hx.1 q s2 hq, hx.2⟩⟩
theorem Sat.mem {φ : Hp} {A : HA} : ∀ {H : List HA} {hs : List Hp}, Sat φ H hs → A ∈ H → ∃ h, h ∈ hs ∧ A.p φ h
  | [], [], _, h => by cases h
  | B :: H, q :: hs, s, h => by
    rcases List.mem_cons.1 h with rfl | h
    · exact ⟨q, List.mem_cons_self .., s.1⟩
    · obtain ⟨q', h1, h2⟩ := Sat.mem s.2 h
      exact ⟨q', List.mem_cons_of_mem _ h1, h2⟩
/-- A row's slice: where it lies, how long it is, how long it may grow. -/
abbrev Hnd := Option Addr × Nat × Nat
abbrev sl (q : Hnd) : Value := .slice q.1 q.2.1 q.2.2
theorem O_sl {w0 : World} {P : Program} {o : Oper} {E : Env} {M : List HA} {K : SVal → List HA → Prop} {e : TypeId} {k : EK} {ys : List k.T} {C' : Value → List HA} (hm : ∀ v, ownA v e k ys ∈ C' v) (h : OpS w0 P o E M (fun s M' => ∃ v, s = .val v ∧ M' = C' v)) (hk : ∀ q : Hnd, K (.val (sl q)) (C' (sl q))) : OpS w0 P o E M K := fun X hX a w hd Q =>
  Oper.wp_mono (fun a' w' ⟨v, s, H', e, ⟨v', e1, e2⟩, r⟩ => by
    subst e1; subst e2
    obtain ⟨φ, hs, g, hS, hx⟩ := r
    obtain ⟨q, _, hp⟩ := hS.mem (hm v')
    have : ∃ q : Hnd, v' = sl q := by
      rcases hp with ⟨e, _⟩ | ⟨b, cap, cur, e, _⟩
      · exact ⟨(none, 0, 0), e⟩
      · exact ⟨(some ⟨b, 0, none⟩, ys.length, cap), e⟩
    obtain ⟨q, rfl⟩ := this
    exact ⟨v, _, _, e, hk q, φ, hs, g, hS, hx⟩) (h X hX a w hd Q)
theorem InCtx.mem {A : HA} {H : List HA} {C : HA → List HA} (h : InCtx A H C) (B : HA) : B ∈ C B := by
  obtain ⟨R, p, q⟩ := h
  exact (q B).mem_iff.1 (List.mem_cons_self ..)
section
variable {w0 : World} {P : Program} {E : Env} {M : List HA} {K : SVal → List HA → Prop} {dst : Option Tmp} {ty : TypeId} {pos : String} {af : Array Edge} {gd : Option (Nat × Bool)}
theorem A_isl {t e : TypeId} {by_ : Nat} {x y : Operand} {v : Value} {k : EK} {xs ys : List k.T} {C : HA → List HA} (ht : elemB P t e k.size by_ = true) (hb0 : Nat.blt 0 by_ = true) (hk : k ≠ .val) (hx : look E x = some (.val v)) (hy : look E y = some (.isl k ys)) [hc : OwnCtx v M e k xs C]
    (hb : (xs.length + ys.length) * by_ ≤ 140737488355328) (h : ∀ q, K (.val (sl q)) (C (ownA (sl q) e k (xs ++ ys)))) : OpS w0 P ⟨dst, .call ⟨.builtin .append, #[x, y], #[t, t]⟩, ty, pos, af, gd⟩ E M K :=
  O_sl (e := e) (k := k) (ys := xs ++ ys) (C' := fun v => C (ownA v e k (xs ++ ys))) (fun v => hc.u.mem _) (O_append_isl ht hb0 hk hx hy hb fun v' => ⟨v', rfl, rfl⟩) h
theorem A_own {t e te2 : TypeId} {by_ : Nat} {x y : Operand} {v v2 : Value} {k : EK} {xs ys : List k.T} {H2 : List HA} {C : HA → List HA} (ht : elemB P t e k.size by_ = true) (hb0 : Nat.blt 0 by_ = true) (h1 : (ys.flatMap k.view).all SVal.one = true) (hx : look E x = some (.val v)) (hy : look E y = some (.val v2))
    [hd : OwnDel v2 M te2 k ys H2] [hc : OwnCtx v H2 e k xs C]
    (hb : (xs.length + ys.length) * by_ ≤ 140737488355328) (h : ∀ q, K (.val (sl q)) (C (ownA (sl q) e k (xs ++ ys)))) : OpS w0 P ⟨dst, .call ⟨.builtin .append, #[x, y], #[t, t]⟩, ty, pos, af, gd⟩ E M K :=
  O_sl (e := e) (k := k) (ys := xs ++ ys) (C' := fun v => C (ownA v e k (xs ++ ys))) (fun v => hc.u.mem _) (O_append_own ht hb0 h1 hx hy hb fun v' => ⟨v', rfl, rfl⟩) h
theorem A_build {t : TypeId} (e : TypeId) {len : Nat} (by_ : Nat) {parts : Array (Nat × Operand)} (k : EK) (xs : List k.T) {ss : List (Nat × SVal)} {vs : List Value} (ht : elemB P t e k.size by_ = true) (hz : zeroIs P e vs) (hp : parts.toList.map (fun p => (p.1, look E p.2)) = ss.map (fun p => (p.1, some p.2)))
    (hw : ss.all (fun p => p.2.whole) = true) (hl : xs.length = len) (hlen : Nat.blt len 64 = true) (hl0 : Nat.blt 0 len = true)
    (hf : fillS ((List.range len).map fun i => (i * k.size, k.size)) ((List.range (len * k.size)).map fun i => SVal.val (vs.toArray[i % vs.toArray.size]!)) ss = some (xs.flatMap k.view))
    (h : ∀ q, K (.val (sl q)) (ownA (sl q) e k xs :: M)) : OpS w0 P ⟨dst, .buildSlice t len parts, ty, pos, af, gd⟩ E M K :=
  O_sl (e := e) (k := k) (ys := xs) (C' := fun v => ownA v e k xs :: M) (fun v => List.mem_cons_self ..) (O_buildSlice e by_ k xs ht hz hp hw hl hlen hl0 hf fun v' => ⟨v', rfl, rfl⟩) h
theorem A_build2 {t : TypeId} (e : TypeId) {len : Nat} (by_ : Nat) {parts : Array (Nat × Operand)} (k : EK) (xs : List k.T) {ss : List (Nat × SVal)} {cs0 : List SVal} {vs : List Value} (ht : elemB P t e k.size by_ = true) (hz : zeroIs P e vs) (hp : parts.toList.map (fun p => (p.1, look E p.2)) = ss.map (fun p => (p.1, some p.2)))
    (hw : ss.all (fun p => p.2.whole) = true) (hl : xs.length = len) (hlen : Nat.blt len 64 = true) (hl0 : Nat.blt 0 len = true)
    (hf : fillS ((List.range len).map fun i => (i * k.size, k.size)) ((List.range (len * k.size)).map fun i => SVal.val (vs.toArray[i % vs.toArray.size]!)) ss = some cs0) (hi0 : RepImpL cs0 (xs.flatMap k.view))
    (h : ∀ q, K (.val (sl q)) (ownA (sl q) e k xs :: M)) : OpS w0 P ⟨dst, .buildSlice t len parts, ty, pos, af, gd⟩ E M K :=
  O_sl (e := e) (k := k) (ys := xs) (C' := fun v => ownA v e k xs :: M) (fun v => List.mem_cons_self ..) (O_buildSlice' e by_ k xs ht hz hp hw hl hlen hl0 hf hi0 fun v' => ⟨v', rfl, rfl⟩) h
/-- Stores, what they leave being written out. -/
theorem S_one {t T : TypeId} {x y : Operand} {b off : Nat} {s : SVal} {cs : List SVal} (cs' : List SVal) {C : HA → List HA} (ht : ((P.info? t).map (·.size)) = some 1) (hx : look E x = some (sP b off)) (hy : look E y = some s) (h1 : s.one = true)
    [hc : BoxCtx b M T cs C] (ho : Nat.blt off cs.length = true) (he : cs.set off s = cs') (h : K (.val undef) (C (boxA b T cs'))) : OpS w0 P ⟨dst, .store t x y, ty, pos, af, gd⟩ E M K := O_store ht hx hy h1 ho (he ▸ h)
theorem S_any {t T : TypeId} {x y : Operand} {b off n : Nat} {s : SVal} {cs : List SVal} (cs' : List SVal) {C : HA → List HA} (ht : ((P.info? t).map (·.size)) = some n) (hx : look E x = some (sP b off)) (hy : look E y = some s) (h1 : s.whole = true) (hn : s.cells.length = n)
    [hc : BoxCtx b M T cs C] (ho : off + n ≤ cs.length) (he : lset cs off s.cells = cs') (h : K (.val undef) (C (boxA b T cs'))) : OpS w0 P ⟨dst, .store t x y, ty, pos, af, gd⟩ E M K := O_store_any ht hx hy h1 hn ho (he ▸ h)
end
theorem no_tf {b : Bool} (h : b = true) (h' : b = false) : False := by rw [h] at h'; cases h'
theorem ne_f {b : Bool} (h : b = false) : b ≠ true := fun h' => no_tf h' h
theorem ne_t {b : Bool} (h : b = true) : b ≠ false := fun h' => no_tf h h'
/-- A row in a box's cells is frozen. -/
theorem T_freezeB {Γ : Cx} {E : Env} {M : List HA} (v : Value) {ety : TypeId} {k : EK} {xs : List k.T} {H' : List HA} [hd : OwnDel v M ety k xs H'] {U : Env} (hU : ThawE v k xs E U) {b : Nat} {ty : TypeId} {cs cs' : List SVal} {C : HA → List HA} [hc : BoxCtx b H' ty cs C] (hi : ThawL v k xs cs cs') : Turn Γ E M (U ++ E) (C (boxA b ty cs')) := fun a w hD => ⟨hD.1, hD.2.1, by
  have h1 := freeze_own (v := v) (X := fun φ => EnvRep φ E a ∧ Γ.X φ) (fun φ φ' hl hx => ⟨hx.1.mono hl, Γ.mono _ _ hl hx.2⟩) hD.2.2
  obtain ⟨R, p, q⟩ := hc.u
  obtain ⟨φ, hs, g, hS, hx⟩ := h1.perm p
  obtain ⟨h0, hs0, rfl, ⟨vs, e, r⟩, t⟩ := hS.cons_inv
  refine Holds.perm ⟨φ, _, g, .cons (A := boxA b ty cs') ⟨vs, e, hi φ hx.1 _ r⟩ t, ⟨fun q s' hq => ?_, hx.2.2⟩⟩ (q _)
  obtain ⟨s, hs, t⟩ := hU.get q s' hq
  exact t φ hx.1 _ (hx.2.1 q s hs)⟩
/-- A guard that was never reckoned. -/
theorem W_un {Γ : Cx} {ops : Array Oper} {rest : List Oper} {E : Env} {M : List HA} {Q : Env → List HA → Prop} {o : Oper} {j : Nat} {want : Bool} {oj : Oper} {dj : Tmp} (hg : o.guard = some (j, want)) (hj : ops[j]? = some oj) (hdj : oj.dst = some dj) (hb : E.get dj = some (.val undef)) (hn : ∀ d, o.dst = some d → d < Γ.n) (hjn : Nat.blt dj Γ.n = true)
    (h : WPL Γ ops rest (E.put o.dst (.val undef)) M Q) : WPL Γ ops (o :: rest) E M Q := by
  intro a w hd
  have hv : a.tmps.getD dj undef = undef := by
    obtain ⟨φ, hs, g, s, hx, _⟩ := hd.2.2
    exact (hx dj _ hb).val_eq
  have hlt : dj < a.tmps.size := by rw [hd.1]; exact lt_of_blt hjn
  have hy : yielded ops a.tmps j = none := by
    have : a.tmps[dj]? = some undef := by
      rw [Array.getElem?_eq_getElem hlt]
      rw [Array.getD_eq_getD_getElem?, Array.getElem?_eq_getElem hlt] at hv
      simpa using hv
    simp [yielded, hj, hdj, this, undef]
  have hw : Region.wanted o (yielded ops a.tmps) = false := by simp [Region.wanted, hg, hy]
  refine wpList_step fun K hK => ?_
  rw [hw]
  rw [if_neg (by simp)]
  exact hK _ _ (h _ _ (den_put hd hn (hd.2.2.imp fun φ hx => ⟨.val undef, hx.1, hx.2⟩)))
theorem elim_l {α β γ : Type} {f : α → Option γ} {g : β → Option γ} {i : α} {r : γ} (h : Sum.elim f g (.inl i) = some r) : f i = some r := h
/-- An operand of an operation is looked up where the operation may look. -/
def seesB (ops : Array Oper) (o : Oper) : Operand → Bool
  | .tmp t => (o.looksAt ops).contains t
  | _ => true
theorem lk {ops : Array Oper} {o : Oper} {E : Env} {x : Operand} {s : SVal} (h : look E x = some s) (h2 : seesB ops o x = true) : look (restr ops o E) x = some s := by
  cases x with
  | tmp t =>
    simp only [look] at h ⊢
    simp only [seesB] at h2
    rw [restr, Env.get_filter (fun p => (o.looksAt ops).contains p), if_pos h2]; exact h
  | _ => exact h
theorem lg {ops : Array Oper} {o : Oper} {E : Env} {t : Tmp} {s : SVal} (h : E.get t = some s) (h2 : (o.looksAt ops).contains t = true) : (restr ops o E).get t = some s := by
  rw [restr, Env.get_filter (fun p => (o.looksAt ops).contains p), if_pos h2]; exact h
theorem C_draw2 {Γ : Cx} {E : Env} {M : List HA} {Q : Post} {id : Nat} {l : List Oper} (order : List (Nat × DK)) (mask : List Bool) (C ro : List HA) (hC : pickT mask M = C) (hR : pickF mask M = ro) (hm : Γ.P.follows .mixedOrders = true) (hok : okDraw l.toArray order = true) (hn : dstsOk Γ.n l = true)
    (h : DP Γ.w0 Γ.P l.toArray (fun E' M' => Q .normal E' M') ro order [] E C) : WP Γ (.region id l.toArray true) E M Q := C_draw order mask hm hok hn (by rw [hC, hR]; exact h)
end Go.Proofs.YtabojfgmbfnoiaaGreatDoor
end
section
/- More steps. -/
set_option linter.unusedVariables false
set_option linter.unusedSimpArgs false
namespace Go.Proofs.YtabojfgmbfnoiaaGreatDoor
theorem T_start {Γ : Cx} {E : Env} {M : List HA} (E' : Env) (he : E = E') (M' : List HA) (hm : M = M') : Turn Γ E M E' M' := by subst he; subst hm; exact Turn.refl
instance {R M H' : List HA} [h : OnTop R M H'] : OnTop R ([] ++ M) H' := h
instance {R M H' l : List HA} {A : HA} [h : OnTop R (l ++ M) H'] : OnTop R ((A :: l) ++ M) (A :: H') := ⟨by rw [List.cons_append, h.e]; rfl⟩
instance {R l : List HA} : OnTop R (l ++ R) l := ⟨rfl⟩
theorem thenQ_ret {R : Env → List HA → Prop} {Q : Post} {E : Env} {M : List HA} (h : Q .ret E M) : thenQ R Q .ret E M := h
theorem blockQ_ret {id : Nat} {Q : Post} {E : Env} {M : List HA} (h : Q .ret E M) : blockQ id Q .ret E M := h
section
variable {w0 : World} {P : Program} {ops : Array Oper} {ro : List HA} {Q : Env → List HA → Prop} {rem : List (Nat × DK)} {PA : List PF} {E : Env} {C : List HA} {j : Nat} {o : Oper}
theorem D_nil0 (h : Q E C) : DP w0 P ops Q [] [] [] E C := D_nil (by rw [List.append_nil]; exact h)
theorem D_open2 (C' : List HA) (hC : C ++ ro = C') (ho : ops[j]? = some o) (h : DMain w0 P ops [] o E C' (fun E' C' => DP w0 P ops Q [] rem PA E' C')) : DP w0 P ops Q ro ((j, .open_) :: rem) PA E C := D_open ho (by rw [hC]; exact h)
end
theorem equal_bool {P : Program} {t : TypeId} {m n : Bool} {w : World} (ht : P.underlying t = some .bool) : (Op.equal t (.bool m) (.bool n)).run P w = .ok (m == n) w := by
  show (Op.equalIn (9999 + 1) t _ _).run P w = _
  rw [Op.equalIn]
  simp [run_und ht]
section
variable {w0 : World} {P : Program} {E : Env} {M : List HA} {K : SVal → List HA → Prop} {dst : Option Tmp} {ty : TypeId} {pos : String} {af : Array Edge} {gd : Option (Nat × Bool)}
theorem O_beq {t t2 : TypeId} {x y : Operand} {m n : Bool} (ht : P.underlying t = some .bool) (hx : look E x = some (sB m)) (hy : look E y = some (sB n)) (h : K (sB (m == n)) M) : OpS w0 P ⟨dst, .binOp .eql t x y t2, ty, pos, af, gd⟩ E M K :=
  .read fun φ hs a w g hS he => by
    have e1 := (he.look hx).val_eq
    have e2 := (he.look hy).val_eq
    exact ⟨.bool (m == n), _, by simp only [execOp, e1, e2]; simp [eqGuard, binOp, equal_bool ht], .val _, h⟩
end
section
variable {w0 : World} {P : Program} {E : Env} {M : List HA} {K : SVal → List HA → Prop} {dst : Option Tmp} {ty : TypeId} {pos : String} {af : Array Edge} {gd : Option (Nat × Bool)} {f : FuncId} {args : Array Operand} {ts : Array TypeId} {ss : List SVal} {H F : List HA}
theorem O_call0 {s0 : SVal} {H0 : List HA} (hf : callB P f = true) (ha : args.toList.map (look E) = ss.map some) (hc : Fn w0 P f ss H (fun s H => s = s0 ∧ H = H0)) (hp : M.Perm (H ++ F)) (h : K s0 (H0 ++ F)) : OpS w0 P ⟨dst, .call ⟨.value (.func f), args, ts⟩, ty, pos, af, gd⟩ E M K :=
  O_call hf ha hc hp (by rintro s H' ⟨rfl, rfl⟩; exact h)
theorem O_call1 {α : Type} {s0 : α → SVal} {H0 : α → List HA} (hf : callB P f = true) (ha : args.toList.map (look E) = ss.map some) (hc : Fn w0 P f ss H (fun s H => ∃ a, s = s0 a ∧ H = H0 a)) (hp : M.Perm (H ++ F)) (h : ∀ a, K (s0 a) (H0 a ++ F)) : OpS w0 P ⟨dst, .call ⟨.value (.func f), args, ts⟩, ty, pos, af, gd⟩ E M K :=
  O_call hf ha hc hp (by rintro s H' ⟨a, rfl, rfl⟩; exact h a)
end
theorem conv_ck {e x : Int} (h : ck e = some x) : x = IntKind.i64.wrap e := by
  obtain ⟨rfl, h1, h2⟩ := ck_e h
  exact (wrap_in h1 h2).symm
end Go.Proofs.YtabojfgmbfnoiaaGreatDoor
end
section
/- Reckoning with bits, parts of rows and texts, conversions, new rows. -/
set_option linter.unusedVariables false
set_option linter.unusedSimpArgs false
namespace Go.Proofs.YtabojfgmbfnoiaaGreatDoor
def shrI (k : IntKind) (x y : Int) : Int := x.fdiv (2 ^ (min y.toNat k.bits))
def bitI (op : BinOp) (k : IntKind) (x y : Int) : Int :=
  let a := BitVec.ofInt k.bits x
  let b := BitVec.ofInt k.bits y
  match op with
  | .and => k.wrap (a &&& b).toNat
  | .or => k.wrap (a ||| b).toNat
  | .xor => k.wrap (a ^^^ b).toNat
  | _ => k.wrap (a &&& ~~~b).toNat
def isBit : BinOp → Bool
  | .and | .or | .xor | .andNot => true
  | _ => false
section
variable {w0 : World} {P : Program} {E : Env} {M : List HA} {K : SVal → List HA → Prop} {dst : Option Tmp} {ty : TypeId} {pos : String} {af : Array Edge} {gd : Option (Nat × Bool)} {t t2 : TypeId} {x y : Operand} {k k2 : IntKind} {m n : Int}
theorem O_shr (hx : look E x = some (.val (.int k m))) (hy : look E y = some (.val (.int k2 n))) (h0 : 0 ≤ n) (h : K (.val (.int k (shrI k m n))) M) : OpS w0 P ⟨dst, .binOp .shr t x y t2, ty, pos, af, gd⟩ E M K :=
  .read fun φ hs a w g hS he => by
    have e1 := (he.look hx).val_eq
    have e2 := (he.look hy).val_eq
    have h1 : ¬ n < 0 := by omega
    exact ⟨.int k (shrI k m n), _, by simp [execOp, e1, e2, eqGuard, binOp, Op.shift, h1, shrI], .val _, h⟩
theorem O_bit {op : BinOp} (hb : isBit op = true) (hx : look E x = some (.val (.int k m))) (hy : look E y = some (.val (.int k n))) (h : K (.val (.int k (bitI op k m n))) M) : OpS w0 P ⟨dst, .binOp op t x y t2, ty, pos, af, gd⟩ E M K :=
  .read fun φ hs a w g hS he => by
    have e1 := (he.look hx).val_eq
    have e2 := (he.look hy).val_eq
    refine ⟨.int k (bitI op k m n), _, ?_, .val _, h⟩
    cases op <;> first | (exact absurd hb (by decide)) | (simp [execOp, e1, e2, eqGuard, binOp, Op.intBits, bitI])
theorem O_min {ts : Array TypeId} (hx : look E x = some (.val (.int k m))) (hy : look E y = some (.val (.int k n))) (h : K (.val (.int k (if n < m then n else m))) M) : OpS w0 P ⟨dst, .call ⟨.builtin .min, #[x, y], ts⟩, ty, pos, af, gd⟩ E M K :=
  .read fun φ hs a w g hS he => by
    have e1 := (he.look hx).val_eq
    have e2 := (he.look hy).val_eq
    exact ⟨.int k (if n < m then n else m), _, by simp [execOp, resolve, invoke, builtin, Builtin.min_, Builtin.min2, e1, e2], .val _, h⟩
theorem O_max {ts : Array TypeId} (hx : look E x = some (.val (.int k m))) (hy : look E y = some (.val (.int k n))) (h : K (.val (.int k (if n > m then n else m))) M) : OpS w0 P ⟨dst, .call ⟨.builtin .max, #[x, y], ts⟩, ty, pos, af, gd⟩ E M K :=
  .read fun φ hs a w g hS he => by
    have e1 := (he.look hx).val_eq
    have e2 := (he.look hy).val_eq
    exact ⟨.int k (if n > m then n else m), _, by simp [execOp, resolve, invoke, builtin, Builtin.max_, Builtin.max2, e1, e2], .val _, h⟩
theorem O_cat {s u : ByteArray} (hx : look E x = some (sS s)) (hy : look E y = some (sS u)) (hb : ((s.size + u.size : Nat) : Int) ≤ 9223372036854775807) (h : K (sS (s ++ u)) M) : OpS w0 P ⟨dst, .binOp .add t x y t2, ty, pos, af, gd⟩ E M K :=
  .read fun φ hs a w g hS he => by
    have e1 := (he.look hx).val_eq
    have e2 := (he.look hy).val_eq
    have h1 : ¬ ((s.size + u.size : Nat) : Int) > IntKind.i64.max := by
      have : IntKind.i64.max = 9223372036854775807 := rfl
      omega
    exact ⟨.string (s ++ u), _, by simp only [execOp, e1, e2]; simp [eqGuard, binOp, Op.stringOp]; simpa using hb, .val _, h⟩
theorem run_sb {P : Program} {w : World} {isS : Bool} {len cap : Nat} {k1 k2 : IntKind} (vlo vhi : Option Int) (h0 : 0 ≤ vlo.getD 0) (h1 : vlo.getD 0 ≤ vhi.getD len) (h2 : vhi.getD len ≤ len) (h3 : len ≤ cap) :
    (Instr.sliceBounds isS len cap (vlo.map (Value.int k1)) (vhi.map (Value.int k2)) none).run P w = .ok ((vlo.getD 0).toNat, (vhi.getD len).toNat, cap) w := by
  cases vlo with
  | none =>
    cases vhi with
    | none => simp [Instr.sliceBounds]
    | some v =>
      simp at h0 h1 h2
      have : v ≤ (cap : Int) := by omega
      simp [Instr.sliceBounds, Instr.sliceBound, asIntOf, h1, this]
  | some l =>
    cases vhi with
    | none =>
      simp at h0 h1 h2
      simp [Instr.sliceBounds, Instr.sliceBound, asIntOf, h0, h1]
    | some v =>
      simp at h0 h1 h2
      have a1 : v ≤ (cap : Int) := by omega
      have a2 : 0 ≤ v := by omega
      have a3 : l ≤ (v.toNat : Int) := by omega
      have a4 : ¬ max v 0 < l := by omega
      simp [Instr.sliceBounds, Instr.sliceBound, asIntOf, h0, h1, a1, a2, a3]
      intro h; exact absurd h a4
theorem opt_look {φ : Hp} {a : Act} {k1 : IntKind} (he : EnvRep φ E a) {lo : Option Operand} {vlo : Option Int} (h : lo.map (look E) = vlo.map fun n => some (.val (.int k1 n))) : lo.map a.eval = vlo.map (Value.int k1) := by
  cases lo with
  | none => cases vlo with
    | none => rfl
    | some v => cases h
  | some x => cases vlo with
    | none => cases h
    | some v =>
      simp at h
      have := (he.look h).val_eq
      simp [this]
/-- Part of a list. -/
theorem rep_sub {φ : Hp} {k : EK} {xs : List k.T} {A : Option Addr} {c l h : Nat} (hr : Rep φ (.isl k xs) (.slice A xs.length c)) (h1 : l ≤ h) (h2 : h ≤ xs.length) {A' : Option Addr} (hA' : A' = if c = l then A else A.map (·.add (l * k.size))) :
    Rep φ (.isl k ((xs.drop l).take (h - l))) (.slice A' (h - l) (c - l)) := by
  generalize hv : Value.slice A xs.length c = v at hr
  cases hr with
  | isl k xs A2 c2 hc hm hA u hu hrr =>
    injection hv with e1 e2 e3
    subst e1; subst e3
    have hlen : ((xs.drop l).take (h - l)).length = h - l := by simp; omega
    have key : ∀ (n : Nat), n = h - l → ∀ B, B = A' → Rep φ (.isl k ((xs.drop l).take (h - l))) (.slice B ((xs.drop l).take (h - l)).length (c - l)) → Rep φ (.isl k ((xs.drop l).take (h - l))) (.slice A' n (c - l)) := by
      intro n hn B hB hq; subst hn; subst hB; rw [hlen] at hq; exact hq
    refine key _ rfl A' rfl ?_
    refine .isl k _ A' (c - l) (by rw [hlen]; omega) (by omega) (fun h0 => ?_) (fun i j => u (l + i) j) (fun ad e i hi j hj => ?_) (fun i hi j hj => ?_)
    · rw [hlen] at h0
      obtain ⟨ad, rfl⟩ := hA (by omega)
      rw [hA']; split
      · exact ⟨_, rfl⟩
      · exact ⟨_, rfl⟩
    · rw [hlen] at hi
      have hcl : ¬ c = l := by omega
      rw [hA', if_neg hcl] at e
      obtain ⟨a0, rfl, e4⟩ := Option.map_eq_some_iff.1 e
      subst e4
      have := hu a0 rfl (l + i) (by omega) j hj
      rw [add_add]
      rw [show l * k.size + (i * k.size + j) = (l + i) * k.size + j by rw [Nat.add_mul]; omega]
      exact this
    · have hi' := hi
      rw [hlen] at hi'
      have := hrr (l + i) (by omega) j hj
      simpa using this
theorem O_sub_isl {lo hi : Option Operand} {k : EK} {xs : List k.T} {k1 k2 : IntKind} (vlo vhi : Option Int) (ht : slcB P t k.size = true) (hx : look E x = some (.isl k xs)) (hl : lo.map (look E) = vlo.map fun n => some (.val (.int k1 n))) (hh : hi.map (look E) = vhi.map fun n => some (.val (.int k2 n)))
    (h0 : 0 ≤ vlo.getD 0 ∧ vlo.getD 0 ≤ vhi.getD xs.length ∧ vhi.getD xs.length ≤ xs.length) (h : K (.isl k ((xs.drop (vlo.getD 0).toNat).take ((vhi.getD xs.length).toNat - (vlo.getD 0).toNat))) M) : OpS w0 P ⟨dst, .slice t x lo hi none, ty, pos, af, gd⟩ E M K :=
  .read fun φ hs a w g hS he => by
    have hr := he.look hx
    generalize hev : a.eval x = ev at hr
    have e2 := opt_look he hl
    have e3 := opt_look he hh
    have hr0 := hr
    cases hr with
    | isl k xs A c hc hm hA u hu hrr =>
      obtain ⟨e', i, hu', hi', hz⟩ := slcB.run ht
      refine ⟨_, _, ?_, rep_sub (l := (vlo.getD 0).toNat) (h := (vhi.getD xs.length).toNat) hr0 (by omega) (by omega) rfl, h⟩
      simp only [execOp, hev, e2, e3, Instr.sliceAt, Option.map_none]
      simp [run_und hu', Instr.slice, run_sb vlo vhi h0.1 h0.2.1 h0.2.2 hc, run_size hi', hz]
/-! ### Texts and rows of bytes -/
theorem Holds.allocF {w0 w : World} {H : List HA} {X : Hp → Prop} (hX : Mono X) (h : Holds w0 H w X) (o : Obj) : Holds w0 H { w with heap := w.heap.push o } (fun φ => φ w.heap.size = some o ∧ X φ) := by
  obtain ⟨φ, hs, g, s, x⟩ := h
  have g2 := (g.alloc o)
  have hle : φ.le (φ.or (Hp.one w.heap.size o)) := Hp.le_or _ _
  refine ⟨_, hs, g2.freeze, s.mono hle, ?_, hX _ _ hle x⟩
  have hnone : φ w.heap.size = none := g.fresh (List.mem_cons_self ..)
  simp [Hp.or, hnone, Hp.one]
theorem O_bytes {t1 t2' e : TypeId} {s : ByteArray} (h1 : P.underlying t1 = some .string) (h2 : P.underlying t2' = some (.slice e)) (h3 : P.underlying e = some (.int .u8)) (hx : look E x = some (sS s)) (hm : s.size ≤ 1000000000) (h : K (.isl .u8 s.data.toList) M) :
    OpS w0 P ⟨dst, .convert t1 t2' x, ty, pos, af, gd⟩ E M K :=
  .step fun X hX a w hh => by
    have e1 : a.eval x = .string s := by
      obtain ⟨φ, hs, g, hS, he, hx'⟩ := hh
      exact (he.look hx).val_eq
    have hcap : grownCap w s.size 0 e ≤ maxLen := grownCap_le_maxLen w s.size 0 e (by simp [maxLen]; omega)
    have hge : s.size ≤ grownCap w s.size 0 e := grownCap_ge w s.size 0 e
    have hrun := run_bytes_of_string (P := P) w t1 t2' e s h1 h2 h3
    refine ⟨_, _, _, _, M, by simp only [execOp, e1, Sem.run_bind, hrun, Result.andThen_ok, Sem.run_pure]; rfl, .inl rfl, h, ?_⟩
    have hh2 : Holds w0 M w X := hh.imp fun φ hx' => hx'.2
    have h4 := Holds.allocF hX hh2.drew (.cells (bytesRow s (grownCap w s.size 0 e)) e ((bytesRow s (grownCap w s.size 0 e)).size, (bytesRow s (grownCap w s.size 0 e)).size + 1))
    refine h4.imp fun φ hx' => ⟨?_, hx'.2⟩
    have hlen : s.data.toList.length = s.size := by simp
    have : Rep φ (.isl .u8 s.data.toList) (.slice (some ⟨w.heap.size, 0, none⟩) s.data.toList.length (grownCap w s.size 0 e)) := by
      refine .isl .u8 _ _ _ (by rw [hlen]; exact hge) hcap (fun _ => ⟨_, rfl⟩) (fun i j => .int .u8 ((s.data.toList.getD i 0).toNat : Int)) (fun ad e0 i hi j hj => ?_) (fun i hi j hj => ?_)
      · injection e0 with e0; subst e0
        have hj0 : j = 0 := by simp [EK.size] at hj; exact hj
        subst hj0
        have hi2 : i < s.data.size := by simpa using hi
        rw [add_mk]
        simp only [Hp.cell, EK.size, Nat.mul_one, Nat.zero_add, Nat.add_zero]
        rw [hx'.1]
        simp only [Option.isSome_none, Bool.false_eq_true, if_false]
        unfold bytesRow
        rw [Array.getElem?_append_left (by simpa using hi2)]
        simp [hi2]
        exact ⟨s.data[i], Array.getElem?_eq_getElem hi2, by rw [Array.getElem?_eq_getElem hi2]; rfl⟩
      · have hj0 : j = 0 := by simp [EK.size] at hj; exact hj
        subst hj0
        have hi2 : i < s.data.size := by simpa using hi
        have e9 : s.data[i]?.getD 0 = s.data[i] := by rw [Array.getElem?_eq_getElem hi2]; rfl
        simp [e9]
        exact .val _
    rw [hlen] at this
    exact this
theorem O_string {t1 t2' e : TypeId} {xs : List UInt8} (h1 : P.underlying t1 = some (.slice e)) (h2 : P.underlying t2' = some .string) (h3 : P.underlying e = some (.int .u8)) (hx : look E x = some (.isl .u8 xs)) (h : K (sS ⟨xs.toArray⟩) M) :
    OpS w0 P ⟨dst, .convert t1 t2' x, ty, pos, af, gd⟩ E M K :=
  .read fun φ hs a w g hS he => by
    have hr := he.look hx
    generalize hev : a.eval x = ev at hr
    cases hr with
    | isl k xs A c hc hm hA u hu hrr =>
      have hcell : ∀ ad, A = some ad → ∀ j (hj : j < xs.length), w.cell? (ad.add j) = some (.int .u8 (xs[j].toNat : Int)) := fun ad e0 j hj => by
        have h4 := hu ad e0 j hj 0 (by simp [EK.size])
        have h5 := hrr j hj 0 (by simp [EK.size])
        have h6 := h5.val_eq
        simp [EK.size] at h4
        rw [phi_cell g h4, h6]
      refine ⟨.string ⟨xs.toArray⟩, _, ?_, .val _, h⟩
      cases A with
      | some ad =>
        have := run_convert_bytes_back (P := P) w t1 t2' e ad c xs h1 h3 h2 (hcell ad rfl)
        simp [execOp, hev, this]
      | none =>
        have : xs = [] := by
          cases xs with
          | nil => rfl
          | cons b t => obtain ⟨ad, e⟩ := hA (by simp); cases e
        subst this
        simp [execOp, hev, convert, run_und h1, run_und h2, run_und h3, Conv.bytesToString]
        rfl
theorem O_load_opt_all {t e' : TypeId} {v : Value} {k : EK} {xs : List k.T} {off i : Nat} {z : k.T} (ht : aggB P t k.size = true) (hx : look E x = some (.opt v off)) [OwnAt v M e' k xs] (ho : off = i * k.size) (hz : xs[i]? = some z) (h : K (.agg (k.view z)) M) : OpS w0 P ⟨dst, .load t x, ty, pos, af, gd⟩ E M K :=
  .read fun φ _ a w g hS he => by
    have hr := he.look hx
    generalize hev : a.eval x = ev at hr
    obtain ⟨hlt, rfl⟩ := List.getElem?_eq_some_iff.1 hz
    have hle : i * k.size + k.size ≤ xs.length * k.size := by rw [← Nat.succ_mul]; exact Nat.mul_le_mul_right _ hlt
    cases hr with
    | opt b n c off =>
      rcases own_world (v := .slice (some ⟨b, 0, none⟩) n c) g hS with ⟨e3, e4⟩ | ⟨b', cap, cur, e3, hw, _, _, hcs, r⟩
      · cases e3
      · injection e3 with e5 _ _
        injection e5 with e5
        injection e5 with e5
        subst e5
        have hlen : (xs.flatMap k.view).length = xs.length * k.size := flat_length k xs
        have hl2 := r.1
        rw [hlen] at hl2
        have hrr : RepL φ (k.view xs[i]) ((cur.toList.drop off).take k.size) := by
          have hcl : off + k.size ≤ cur.toList.length := by
            have : (cur.toList.take (xs.length * k.size)).length ≤ cur.toList.length := by rw [List.length_take]; exact Nat.min_le_right _ _
            omega
          refine ⟨by rw [List.length_take, List.length_drop, EK.view_length]; omega, fun j j1 j2 => ?_⟩
          have hj : j < k.size := by rw [EK.view_length] at j1; exact j1
          have h3 := r.2 (i * k.size + j) (by omega) (by omega)
          rw [flat_get k xs i j hlt hj] at h3
          rw [List.getElem_take, List.getElem_drop]
          rw [List.getElem_take] at h3
          simp only [ho]; exact h3
        have hl3 : ((cur.toList.drop off).take k.size).length = k.size := by have := hrr.1; rw [EK.view_length] at this; exact this
        have hrun := run_loadVar_agg (P := P) (w := w) (a := ⟨b, off, none⟩) (vs := (cur.toList.drop off).take k.size) ht hl3 (fun j u hj => by
          obtain ⟨hj1, hj2⟩ := List.getElem?_eq_some_iff.1 hj
          rw [add_mk, cell_at hw, ← Array.getElem?_toList]
          rw [List.getElem_take, List.getElem_drop] at hj2
          rw [← hj2]
          exact List.getElem?_eq_getElem _)
        refine ⟨.agg ((cur.toList.drop off).take k.size).toArray, _, ?_, RepL.agg (by simpa using hrr), h⟩
        simp only [execOp, Instr.loadAt, Instr.sureAddr, hev, Sem.run_bind, Sem.run_pure, Result.andThen_ok, hrun]
end
section
variable {w0 : World} {P : Program} {E : Env} {M : List HA} {K : SVal → List HA → Prop} {dst : Option Tmp} {ty : TypeId} {pos : String} {af : Array Edge} {gd : Option (Nat × Bool)} {f : FuncId} {args : Array Operand} {ts : Array TypeId} {ss : List SVal} {H F : List HA} {x : Operand} {first cap : Array Value}
theorem O_callV0 {s0 : SVal} {H0 : List HA} (hx : look E x = some (.val (.func (.func f) first cap))) (hf : callB P f = true) (ha : args.toList.map (look E) = ss.map some) (hc : Fn w0 P f (first.toList.map SVal.val ++ ss ++ cap.toList.map SVal.val) H (fun s H => s = s0  ∧ H = H0 )) (hp : M.Perm (H ++ F)) (h : K (s0 ) (H0  ++ F)) : OpS w0 P ⟨dst, .call ⟨.value x, args, ts⟩, ty, pos, af, gd⟩ E M K :=
  O_callV hx hf ha hc hp (by rintro s H' ⟨rfl, rfl⟩; exact h )
theorem O_callV1 {α : Type} {s0 : α → SVal} {H0 : α → List HA} (hx : look E x = some (.val (.func (.func f) first cap))) (hf : callB P f = true) (ha : args.toList.map (look E) = ss.map some) (hc : Fn w0 P f (first.toList.map SVal.val ++ ss ++ cap.toList.map SVal.val) H (fun s H => ∃ a, s = s0 a ∧ H = H0 a)) (hp : M.Perm (H ++ F)) (h : ∀ a, K (s0 a) (H0 a ++ F)) : OpS w0 P ⟨dst, .call ⟨.value x, args, ts⟩, ty, pos, af, gd⟩ E M K :=
  O_callV hx hf ha hc hp (by rintro s H' ⟨a, rfl, rfl⟩; exact h a)
end
def scopeQ (Q : Post) : Post
  | .goto _, _, _ => False
  | e, E, M => Q e E M
theorem scopeQ_ret {Q : Post} {E : Env} {M : List HA} (h : Q .ret E M) : scopeQ Q .ret E M := h
theorem C_scope {Γ : Cx} {c : Code} {E : Env} {M : List HA} {Q : Post} (h : WP Γ c E M (scopeQ Q)) : WP Γ (.scope c) E M Q := fun a w hd =>
  wp_scope_straight (wp_mono (h a w hd) (by
    rintro e a' w' ⟨E', M', q, d⟩
    cases e with
    | goto l => exact q.elim
    | _ => exact ⟨E', M', q, d⟩))
end Go.Proofs.YtabojfgmbfnoiaaGreatDoor
end
section
/- New rows. -/
set_option linter.unusedVariables false
set_option linter.unusedSimpArgs false
namespace Go.Proofs.YtabojfgmbfnoiaaGreatDoor
theorem made_get {z : Array Value} {n j : Nat} (hj : j < n) : (madeCells z n).toList[j]'(by simp [madeCells]; exact hj) = z[j % z.size]! := by simp [madeCells]
theorem O_make {w0 : World} {P : Program} {E : Env} {M : List HA} {K : SVal → List HA → Prop} {dst : Option Tmp} {ty : TypeId} {pos : String} {af : Array Edge} {gd : Option (Nat × Bool)} {t e : TypeId} {by_ : Nat} {k : EK} (z0 : k.T) {vs : List Value} {x y : Operand} {k1 k2 : IntKind} {l c : Int} (ht : elemB P t e k.size by_ = true) (hz : zeroIs P e vs) (hv : RepImpL (vs.map SVal.val) (k.view z0)) (hx : look E x = some (.val (.int k1 l))) (hy : look E y = some (.val (.int k2 c)))
    (hb : 0 ≤ l ∧ l ≤ c ∧ (by_ : Int) * c ≤ 281474976710656 ∧ c ≤ 1000000000) (h : ∀ q : Hnd, K (.val (sl q)) (ownA (sl q) e k (List.replicate l.toNat z0) :: M)) : OpS w0 P ⟨dst, .makeSlice t x y, ty, pos, af, gd⟩ E M K :=
  .step fun X hX a w hh => by
    obtain ⟨i, z, hu, hi, hz1, hz2, hz3, hz4⟩ := elemB.run ht
    obtain ⟨i', z', hi', hz', hvs⟩ := hz
    have ei : i' = i := Option.some.inj (hi'.symm.trans hi)
    subst ei
    have ez : z' = z := Option.some.inj (hz'.symm.trans hz3)
    subst ez
    have e1 : a.eval x = .int k1 l := by
      obtain ⟨φ, hs, g, hS, he, hx'⟩ := hh
      exact (he.look hx).val_eq
    have e2 : a.eval y = .int k2 c := by
      obtain ⟨φ, hs, g, hS, he, hx'⟩ := hh
      exact (he.look hy).val_eq
    have hrun := run_make (P := P) w t e i' z' hu hi hz3 k1 k2 l c hb.1 hb.2.1 (by rw [hz2]; exact hb.2.2.1) (by omega)
    have hk : 0 < k.size := EK.size_pos k
    have hzs : z'.cells.size = k.size := hz4
    refine ⟨_, _, _, .val (sl (some ⟨w.heap.size, 0, none⟩, l.toNat, c.toNat)), _, by simp only [execOp, e1, e2, Sem.run_bind, hrun, Result.andThen_ok, Sem.run_pure]; rfl, .inl rfl, h (some ⟨w.heap.size, 0, none⟩, l.toNat, c.toNat), ?_⟩
    have h2 : Holds w0 M w X := hh.imp fun φ hx' => hx'.2
    refine (h2.alloc (.cells (madeCells z'.cells (c.toNat * i'.size)) e) (ownA (sl (some ⟨w.heap.size, 0, none⟩, l.toNat, c.toNat)) e k (List.replicate l.toNat z0)) (fun φ hx' => .inr ⟨w.heap.size, c.toNat, madeCells z'.cells (c.toNat * i'.size), by simp, rfl, by simp; omega, by simp [maxLen]; omega, by rw [size_madeCells, hz1], ?_⟩)).imp fun φ hx' => ⟨.val _, hx'⟩
    have hzr : RepL φ (k.view z0) vs := hv φ vs (repVals φ vs)
    have hvl : vs.length = k.size := by have := hzr.1; rw [EK.view_length] at this; exact this
    have hlc : l.toNat * k.size ≤ c.toNat * i'.size := by rw [hz1]; exact Nat.mul_le_mul_right _ (by omega)
    refine ⟨?_, fun j j1 j2 => ?_⟩
    · rw [flat_length, List.length_take, List.length_replicate, Array.length_toList, size_madeCells]
      omega
    · have hj : j < l.toNat * k.size := by rw [flat_length, List.length_replicate] at j1; exact j1
      have hr : j % k.size < k.size := Nat.mod_lt _ hk
      have hq : j / k.size < l.toNat := by rw [Nat.div_lt_iff_lt_mul hk]; exact hj
      have hje : j = j / k.size * k.size + j % k.size := by rw [Nat.mul_comm]; exact (Nat.div_add_mod j k.size).symm
      have hg := flat_get k (List.replicate l.toNat z0) (j / k.size) (j % k.size) (by rw [List.length_replicate]; exact hq) hr (by rw [← hje]; exact j1)
      have hget : ((List.replicate l.toNat z0).flatMap k.view)[j] = (k.view z0)[j % k.size]'(by rw [EK.view_length]; exact hr) := by
        have : ∀ (j' : Nat) (h' : j' < ((List.replicate l.toNat z0).flatMap k.view).length), j' = j → ((List.replicate l.toNat z0).flatMap k.view)[j'] = ((List.replicate l.toNat z0).flatMap k.view)[j] := by intro j' h' e; subst e; rfl
        rw [← this _ (by rw [← hje]; exact j1) hje.symm, hg]
        simp
      rw [hget, List.getElem_take]
      have hm := made_get (z := z'.cells) (n := c.toNat * i'.size) (j := j) (by omega)
      rw [hm]
      have h3 := hzr.2 (j % k.size) (by rw [EK.view_length]; exact hr) (by rw [hvl]; exact hr)
      have h4 : z'.cells[j % z'.cells.size]! = vs[j % k.size]'(by rw [hvl]; exact hr) := by
        rw [hzs, hvs]
        rw [getElem!_pos _ _ (by simp [hvl]; exact hr)]
        simp
      rw [h4]; exact h3
theorem T_sel {Γ : Cx} {E : Env} {M : List HA} (is : List Nat) (d : Nat) (M' : List HA) (h : selx is d M = M') : Turn Γ E M E M' := fun a w hd => hd.le2 ⟨⟨is, d, h⟩, Env.le_refl _⟩
end Go.Proofs.YtabojfgmbfnoiaaGreatDoor
end
section
/- Arrays. -/
set_option linter.unusedVariables false
set_option linter.unusedSimpArgs false
namespace Go.Proofs.YtabojfgmbfnoiaaGreatDoor
def arrB (P : Program) (t : TypeId) (n s : Nat) : Bool := match P.underlying t with | some (.array n' e) => n' == n && ((P.info? e).map (·.size)) == some s | _ => false
theorem arrB.run {P : Program} {t : TypeId} {n s : Nat} (h : arrB P t n s = true) : ∃ e i, P.underlying t = some (.array n e) ∧ P.info? e = some i ∧ i.size = s := by
  unfold arrB at h
  cases hu : P.underlying t with
  | none => rw [hu] at h; cases h
  | some d =>
    rw [hu] at h
    cases d <;> first | (cases h; done) | skip
    rename_i n' e
    simp only [Bool.and_eq_true, beq_iff_eq] at h
    obtain ⟨rfl, h2⟩ := h
    obtain ⟨i, hi, e2⟩ := Option.map_eq_some_iff.1 h2
    exact ⟨e, i, rfl, hi, e2⟩
section
variable {w0 : World} {P : Program} {E : Env} {M : List HA} {K : SVal → List HA → Prop} {dst : Option Tmp} {ty : TypeId} {pos : String} {af : Array Edge} {gd : Option (Nat × Bool)} {t : TypeId} {x y : Operand} {kk : IntKind} {n s : Nat}
theorem run_arr {w : World} {a : Addr} {i : Nat} (ht : arrB P t n s = true) (hi : Nat.blt i n = true) : (Instr.indexAt t (.pointer (some a)) (.int kk (i : Int))).run P w = .ok (.pointer (some (a.add (i * s)))) w := by
  obtain ⟨e, i', hu, h1, h2⟩ := arrB.run ht
  have hi := lt_of_blt hi
  have h3 : (i : Int) < (n : Int) := by omega
  simp [Instr.indexAt, asIntOf, Instr.sureAddr, run_und hu, h3, run_size h1, h2]
  intro h4; omega
theorem O_arr_ipt (i : Nat) {k : EK} {z : k.T} {off : Nat} (ht : arrB P t n s = true) (hx : look E x = some (.ipt k z off)) (hy : look E y = some (.val (.int kk (i : Int)))) (hi : Nat.blt i n = true) (h : K (.ipt k z (off + i * s)) M) : OpS w0 P ⟨dst, .indexAddr t x y, ty, pos, af, gd⟩ E M K :=
  .read fun φ _ a w g hS he => by
    have hr := he.look hx
    have e2 := (he.look hy).val_eq
    generalize hev : a.eval x = ev at hr
    cases hr with
    | ipt k z off a0 u hu hr =>
      refine ⟨.pointer (some (a0.add (off + i * s))), _, ?_, .ipt k z _ a0 u hu hr, h⟩
      simp only [execOp, hev, e2, Sem.run_bind, run_arr ht hi, Result.andThen_ok, Sem.run_pure, add_add]
theorem O_arr_ptr (i : Nat) {b off : Nat} (ht : arrB P t n s = true) (hx : look E x = some (sP b off)) (hy : look E y = some (.val (.int kk (i : Int)))) (hi : Nat.blt i n = true) (h : K (sP b (off + i * s)) M) : OpS w0 P ⟨dst, .indexAddr t x y, ty, pos, af, gd⟩ E M K :=
  .read fun φ _ a w g hS he => by
    have e1 := (he.look hx).val_eq
    have e2 := (he.look hy).val_eq
    refine ⟨.pointer (some ⟨b, off + i * s, none⟩), _, ?_, .val _, h⟩
    simp only [execOp, e1, e2, Sem.run_bind, run_arr ht hi, Result.andThen_ok, Sem.run_pure, add_mk]
end
end Go.Proofs.YtabojfgmbfnoiaaGreatDoor
end
section
/- Pairs compared. -/
set_option linter.unusedVariables false
set_option linter.unusedSimpArgs false
namespace Go.Proofs.YtabojfgmbfnoiaaGreatDoor
def pairB (P : Program) (t : TypeId) : Bool := match P.underlying t with | some (.array n e) => n == 2 && ((P.info? e).map (·.size)) == some 1 && (match P.underlying e with | some (.int .i64) => true | _ => false) && !(P.eqGuardType P.depth t) | _ => false
theorem pairB.run {P : Program} {t : TypeId} (h : pairB P t = true) : ∃ e i, P.underlying t = some (.array 2 e) ∧ P.info? e = some i ∧ i.size = 1 ∧ P.underlying e = some (.int .i64) ∧ P.eqGuardType P.depth t = false := by
  unfold pairB at h
  cases hu : P.underlying t with
  | none => rw [hu] at h; cases h
  | some d =>
    rw [hu] at h
    cases d <;> first | (cases h; done) | skip
    rename_i n' e
    simp only [Bool.and_eq_true, beq_iff_eq, Bool.not_eq_true'] at h
    obtain ⟨⟨⟨rfl, h2⟩, h3⟩, h4⟩ := h
    obtain ⟨i, hi, e2⟩ := Option.map_eq_some_iff.1 h2
    refine ⟨e, i, rfl, hi, e2, ?_, h4⟩
    cases hue : P.underlying e with
    | none => rw [hue] at h3; cases h3
    | some d =>
      rw [hue] at h3
      cases d <;> first | (cases h3; done) | skip
      rename_i k
      cases k <;> first | rfl | cases h3
theorem equal_int {P : Program} {t : TypeId} {k : IntKind} {m n : Int} {w : World} {d : Nat} (ht : P.underlying t = some (.int k)) : (Op.equalIn (d + 1) t (.int k m) (.int k n)).run P w = .ok (m == n) w := by
  rw [Op.equalIn]
  simp [run_und ht]
theorem equal_pair {P : Program} {t : TypeId} {a b c d : Int} {w : World} (h : pairB P t = true) : (Op.equal t (.agg #[.int .i64 a, .int .i64 b]) (.agg #[.int .i64 c, .int .i64 d])).run P w = .ok (a == c && b == d) w := by
  obtain ⟨e, i, hu, hi, hs, he, hg⟩ := pairB.run h
  show (Op.equalIn (9998 + 1 + 1) t _ _).run P w = _
  have hag : P.underlying e = some (.int .i64) := he
  have hpart : ∀ (cs : Array Value) (off : Nat) (v : Value), cs[off]? = some v → (part e cs off).run P w = .ok v w := fun cs off v hv => part_one (by unfold oneB; rw [he, hi]; simp [hs]) hv
  rw [Op.equalIn]
  simp only [Sem.run_bind, run_und hu, Result.andThen_ok, run_size hi, hs]
  have p1 := hpart #[.int .i64 a, .int .i64 b] 0 (.int .i64 a) rfl
  have p2 := hpart #[.int .i64 c, .int .i64 d] 0 (.int .i64 c) rfl
  have p3 := hpart #[.int .i64 a, .int .i64 b] 1 (.int .i64 b) rfl
  have p4 := hpart #[.int .i64 c, .int .i64 d] 1 (.int .i64 d) rfl
  have q1 := equal_int (P := P) (w := w) (d := 9998) (m := a) (n := c) he
  have q2 := equal_int (P := P) (w := w) (d := 9998) (m := b) (n := d) he
  rw [Std.Legacy.Range.forIn_eq_forIn_range']
  simp [List.range', Std.Legacy.Range.size, p1, p2, p3, p4, q1, q2]
  by_cases h1 : a = c
  · by_cases h2 : b = d
    · simp [h1, h2, p3, p4, q2]
    · simp [h1, h2, p3, p4, q2]
  · simp [h1]
theorem rep_pair {φ : Hp} {a b : Int} {v : Value} (h : Rep φ (.agg [sI a, sI b]) v) : v = .agg #[.int .i64 a, .int .i64 b] := by
  obtain ⟨vs, rfl, r⟩ := RepL.of_agg h
  have h0 := r.2 0 (by simp) (by rw [r.1]; simp)
  have h1 := r.2 1 (by simp) (by rw [r.1]; simp)
  have e0 := h0.val_eq
  have e1 := h1.val_eq
  have hl := r.1
  obtain ⟨l⟩ := vs
  match l, hl with
  | [x, y], _ => simp at e0 e1; rw [e0, e1]
section
variable {w0 : World} {P : Program} {E : Env} {M : List HA} {K : SVal → List HA → Prop} {dst : Option Tmp} {ty : TypeId} {pos : String} {af : Array Edge} {gd : Option (Nat × Bool)} {t t2 : TypeId} {x y : Operand} {a1 b1 a2 b2 : Int}
theorem O_eqPair (ht : pairB P t = true) (hx : look E x = some (.agg [sI a1, sI b1])) (hy : look E y = some (.agg [sI a2, sI b2])) (h : K (sB (a1 == a2 && b1 == b2)) M) : OpS w0 P ⟨dst, .binOp .eql t x y t2, ty, pos, af, gd⟩ E M K :=
  .read fun φ hs a w g hS he => by
    have e1 := rep_pair (he.look hx)
    have e2 := rep_pair (he.look hy)
    obtain ⟨e, i, hu, hi, hs', he', hg⟩ := pairB.run ht
    have hgg := fun op xs ys => run_eqGuard_agg (P := P) (w := w) op t x y xs ys hg
    exact ⟨.bool (a1 == a2 && b1 == b2), _, by simp only [execOp, e1, e2, Sem.run_bind, hgg, Result.andThen_ok]; simp [binOp, equal_pair ht], .val _, h⟩
theorem O_nePair (ht : pairB P t = true) (hx : look E x = some (.agg [sI a1, sI b1])) (hy : look E y = some (.agg [sI a2, sI b2])) (h : K (sB (!(a1 == a2 && b1 == b2))) M) : OpS w0 P ⟨dst, .binOp .neq t x y t2, ty, pos, af, gd⟩ E M K :=
  .read fun φ hs a w g hS he => by
    have e1 := rep_pair (he.look hx)
    have e2 := rep_pair (he.look hy)
    obtain ⟨e, i, hu, hi, hs', he', hg⟩ := pairB.run ht
    have hgg := fun op xs ys => run_eqGuard_agg (P := P) (w := w) op t x y xs ys hg
    exact ⟨.bool (!(a1 == a2 && b1 == b2)), _, by simp only [execOp, e1, e2, Sem.run_bind, hgg, Result.andThen_ok]; simp [binOp, equal_pair ht], .val _, h⟩
end
end Go.Proofs.YtabojfgmbfnoiaaGreatDoor
end
section
/- Maps. -/
set_option linter.unusedVariables false
set_option linter.unusedSimpArgs false
namespace Go.Proofs.YtabojfgmbfnoiaaGreatDoor
def mget {κ ν : Type} [DecidableEq κ] : List (κ × ν) → κ → Option ν
  | [], _ => none
  | p :: l, k => if p.1 = k then some p.2 else mget l k
def mput {κ ν : Type} [DecidableEq κ] : List (κ × ν) → κ → ν → List (κ × ν)
  | [], k, v => [(k, v)]
  | p :: l, k, v => if p.1 = k then (k, v) :: l else p :: mput l k v
def mfind {κ ν : Type} [DecidableEq κ] : List (κ × ν) → κ → Nat → Option (Nat × ν)
  | [], _, _ => none
  | p :: l, k, i => if p.1 = k then some (i, p.2) else mfind l k (i + 1)
theorem mfind_get {κ ν : Type} [DecidableEq κ] : ∀ (l : List (κ × ν)) (k : κ) (i : Nat), (mfind l k i).map (·.2) = mget l k
  | [], _, _ => rfl
  | p :: l, k, i => by
    unfold mfind mget
    split
    · rfl
    · exact mfind_get l k (i + 1)
theorem mfind_none {κ ν : Type} [DecidableEq κ] : ∀ (l : List (κ × ν)) (k : κ) (v : ν) (i : Nat), mfind l k i = none → mput l k v = l ++ [(k, v)]
  | [], _, _, _, _ => rfl
  | p :: l, k, v, i, h => by
    unfold mfind at h
    split at h
    · cases h
    · rename_i hn
      unfold mput
      rw [if_neg hn, mfind_none l k v (i + 1) h]; rfl
theorem mfind_some {κ ν : Type} [DecidableEq κ] : ∀ (l : List (κ × ν)) (k : κ) (v : ν) (i j : Nat) (u : ν), mfind l k i = some (j, u) → i ≤ j ∧ j - i < l.length ∧ (∀ q, l[j - i]? = some q → q.1 = k) ∧ mput l k v = l.set (j - i) (k, v)
  | [], _, _, _, _, _, h => by cases h
  | p :: l, k, v, i, j, u, h => by
    unfold mfind at h
    split at h
    · rename_i hn
      injection h with h; injection h with h1 h2; subst h1
      refine ⟨Nat.le_refl _, by simp, fun q hq => by simp at hq; rw [← hq]; exact hn, ?_⟩
      unfold mput; rw [if_pos hn]; simp
    · rename_i hn
      obtain ⟨h1, h2, h3, h4⟩ := mfind_some l k v (i + 1) j u h
      have e : j - i = (j - (i + 1)) + 1 := by omega
      refine ⟨by omega, by simp; omega, fun q hq => ?_, ?_⟩
      · rw [e] at hq; exact h3 q (by simpa using hq)
      · unfold mput; rw [if_neg hn, h4, e]; rfl
/-- What a kind of keys must do. -/
structure KeyOk (P : Program) (kt : TypeId) {κ : Type} [DecidableEq κ] (kv : κ → Value) : Prop where
  chk : ∀ b x w, (Instr.checkKey b 10000 kt (kv x)).run P w = .ok () w
  find : ∀ {ν : Type} (vv : ν → Value) (l : List (κ × ν)) (es : List MapEntry) (x : κ) (w : World), es.map (fun e => (e.key, e.val)) = l.map (fun q => (kv q.1, vv q.2)) → (Instr.findKey kt (kv x) es).run P w = .ok ((mfind l x 0).map fun q => (q.1, vv q.2)) w
  stays : ∀ x, Instr.sameBits 10000 (kv x) (kv x) = true
def mapA {κ ν : Type} (b : Nat) (kv : κ → Value) (vv : ν → Value) (l : List (κ × ν)) : HA where
  p φ h := ∃ es clock, h = Hp.one b (.map es clock) ∧ es.toList.map (fun e => (e.key, e.val)) = l.map (fun q => (kv q.1, vv q.2))
  mono _ h := h
theorem findNow_int {ν : Type} (k : IntKind) (vv : ν → Value) : ∀ (l : List (Int × ν)) (es : List MapEntry) (x : Int) (i : Nat), es.map (fun e => (e.key, e.val)) = l.map (fun q => (Value.int k q.1, vv q.2)) → Instr.findNow (.int k) (.int k x) es i = some ((mfind l x i).map fun q => (q.1, vv q.2))
  | [], [], x, i, h => rfl
  | [], _ :: _, x, i, h => by cases h
  | _ :: _, [], x, i, h => by cases h
  | p :: l, e :: es, x, i, h => by
    simp only [List.map_cons, List.cons.injEq, Prod.mk.injEq] at h
    obtain ⟨⟨h1, h2⟩, h3⟩ := h
    unfold Instr.findNow mfind
    rw [h1]
    simp only [Instr.sameNow, if_true]
    by_cases hx : p.1 = x
    · have : (x == p.1) = true := by simp [hx]
      rw [this, if_pos hx, h2]; rfl
    · have : (x == p.1) = false := by simp; exact fun e => hx e.symm
      rw [this, if_neg hx]
      exact findNow_int k vv l es x (i + 1) h3
theorem key_int {P : Program} {kt : TypeId} {k : IntKind} (ht : P.underlying kt = some (.int k)) : KeyOk P kt (fun n : Int => Value.int k n) where
  chk b x w := by
    show (Instr.checkKey b (9999 + 1) kt _).run P w = _
    rw [Instr.checkKey]
    simp [run_und ht]
  find vv l es x w h := by
    simp only [Instr.findKey, Sem.run_bind, run_und ht, Result.andThen_ok, findNow_int k vv l es x 0 h, Sem.run_pure]
  stays x := by simp [Instr.sameBits]
end Go.Proofs.YtabojfgmbfnoiaaGreatDoor
end
section
/- Operations on maps. -/
set_option linter.unusedVariables false
set_option linter.unusedSimpArgs false
set_option linter.unusedSectionVars false
namespace Go.Proofs.YtabojfgmbfnoiaaGreatDoor
class MapAt {κ ν : outParam Type} (b : Nat) (H : List HA) (kv : outParam (κ → Value)) (vv : outParam (ν → Value)) (l : outParam (List (κ × ν))) : Prop where
  i : ∃ i : Nat, H[i]? = some (mapA b kv vv l)
class MapCtx {κ ν : outParam Type} (b : Nat) (H : List HA) (kv : outParam (κ → Value)) (vv : outParam (ν → Value)) (l : outParam (List (κ × ν))) (C : outParam (HA → List HA)) : Prop where
  u : InCtx (mapA b kv vv l) H C
section
variable {κ ν : Type} {b : Nat} {kv : κ → Value} {vv : ν → Value} {l : List (κ × ν)} {A : HA} {t m R : List HA} {C : HA → List HA}
instance : MapAt b (mapA b kv vv l :: t) kv vv l := ⟨⟨0, rfl⟩⟩
instance [h : MapAt b t kv vv l] : MapAt b (A :: t) kv vv l := ⟨let ⟨i, e⟩ := h.i; ⟨i + 1, by simpa using e⟩⟩
instance : MapAt b ((mapA b kv vv l :: m) ++ R) kv vv l := ⟨⟨0, rfl⟩⟩
instance [h : MapAt b (m ++ R) kv vv l] : MapAt b ((A :: m) ++ R) kv vv l := ⟨let ⟨i, e⟩ := h.i; ⟨i + 1, by simpa using e⟩⟩
instance [h : MapAt b R kv vv l] : MapAt b ([] ++ R) kv vv l := h
instance : MapCtx b (mapA b kv vv l :: t) kv vv l (fun B => B :: t) := ⟨.here _ _⟩
instance [h : MapCtx b t kv vv l C] : MapCtx b (A :: t) kv vv l (fun B => A :: C B) := ⟨.there _ h.u⟩
instance : MapCtx b ((mapA b kv vv l :: m) ++ R) kv vv l (fun B => B :: (m ++ R)) := ⟨.here _ _⟩
instance [h : MapCtx b (m ++ R) kv vv l C] : MapCtx b ((A :: m) ++ R) kv vv l (fun B => A :: C B) := ⟨.there _ h.u⟩
instance [h : MapCtx b R kv vv l C] : MapCtx b ([] ++ R) kv vv l C := h
end
section
variable {κ ν : Type} [DecidableEq κ] {w0 : World} {P : Program} {E : Env} {M : List HA} {K : SVal → List HA → Prop} {dst : Option Tmp} {ty : TypeId} {pos : String} {af : Array Edge} {gd : Option (Nat × Bool)} {t kt e : TypeId} {x y : Operand} {b : Nat} {kv : κ → Value} {vv : ν → Value} {l : List (κ × ν)}
theorem O_makeMap (kv : κ → Value) (vv : ν → Value) (h : ∀ b : Nat, K (.val (.map (some b))) (mapA b kv vv [] :: M)) : OpS w0 P ⟨dst, .makeMap t none, ty, pos, af, gd⟩ E M K :=
  .step fun X hX a w hh => by
    refine ⟨.value (.map (some w.heap.size)), .map (some w.heap.size), { w with heap := w.heap.push (.map #[] 0) }, _, _, by simp [execOp, Instr.makeMap], .inl rfl, h w.heap.size, ?_⟩
    have h2 : Holds w0 M w X := hh.imp fun φ hx' => hx'.2
    exact (h2.alloc (.map #[] 0) (mapA w.heap.size kv vv []) (fun φ _ => ⟨#[], 0, rfl, rfl⟩)).imp fun φ hx' => ⟨.val _, hx'⟩
theorem map_world {φ : Hp} {hs : List Hp} {w : World} {H : List HA} [hb : MapAt b H kv vv l] (g : Good w0 φ hs w) (hS : Sat φ H hs) : ∃ es clock, w.heap[b]? = some (.map es clock) ∧ es.toList.map (fun e => (e.key, e.val)) = l.map (fun q => (kv q.1, vv q.2)) := by
  obtain ⟨i, hi⟩ := hb.i
  obtain ⟨h, hh, es, clock, rfl, r⟩ := hS.at hi
  exact ⟨es, clock, g.agree _ (List.mem_cons_of_mem _ hh) b _ one_get, r⟩
theorem O_lookup {k : κ} {sk : SVal} (z0 : ν) (hk : KeyOk P kt kv) (ht : P.underlying t = some (.map kt e)) (hz : (P.info? e).map (·.zero) = some (some (vv z0))) (hx : look E x = some (.val (.map (some b)))) (hy : look E y = some sk) (hsk : ∀ φ v, Rep φ sk v → v = kv k) [MapAt b M kv vv l]
    (h : K (.tup [.val (vv ((mget l k).getD z0)), sB (mget l k).isSome]) M) : OpS w0 P ⟨dst, .lookup t x y true, ty, pos, af, gd⟩ E M K :=
  .read fun φ hs a w g hS he => by
    have e1 := (he.look hx).val_eq
    have e2 := hsk _ _ (he.look hy)
    obtain ⟨es, clock, hw, hes⟩ := map_world (b := b) g hS
    obtain ⟨i, hi, e3⟩ := Option.map_eq_some_iff.1 hz
    have hf := hk.find vv l es.toList k w hes
    have hm := mfind_get l k 0
    refine ⟨.tuple #[vv ((mget l k).getD z0), .bool (mget l k).isSome], _, ?_, RepL.tup ?_, h⟩
    · simp only [execOp, e1, e2, Instr.lookup, Sem.run_bind, run_und ht, Result.andThen_ok]
      simp [MapKept.run_getObj_map hw, hk.chk, hf]
      rw [← hm]
      cases mfind l k 0 with
      | none => simp [zeroValue, run_info hi, e3]
      | some q => simp
    · exact ⟨rfl, fun i h1 h2 => by
        match i with
        | 0 => exact .val _
        | 1 => exact .val _⟩
theorem O_lookup1 {k : κ} {sk : SVal} (z0 : ν) (hk : KeyOk P kt kv) (ht : P.underlying t = some (.map kt e)) (hz : (P.info? e).map (·.zero) = some (some (vv z0))) (hx : look E x = some (.val (.map (some b)))) (hy : look E y = some sk) (hsk : ∀ φ v, Rep φ sk v → v = kv k) [MapAt b M kv vv l]
    (h : K (.val (vv ((mget l k).getD z0))) M) : OpS w0 P ⟨dst, .lookup t x y false, ty, pos, af, gd⟩ E M K :=
  .read fun φ hs a w g hS he => by
    have e1 := (he.look hx).val_eq
    have e2 := hsk _ _ (he.look hy)
    obtain ⟨es, clock, hw, hes⟩ := map_world (b := b) g hS
    obtain ⟨i, hi, e3⟩ := Option.map_eq_some_iff.1 hz
    have hf := hk.find vv l es.toList k w hes
    have hm := mfind_get l k 0
    refine ⟨vv ((mget l k).getD z0), _, ?_, .val _, h⟩
    simp only [execOp, e1, e2, Instr.lookup, Sem.run_bind, run_und ht, Result.andThen_ok]
    simp [MapKept.run_getObj_map hw, hk.chk, hf]
    rw [← hm]
    cases mfind l k 0 with
    | none => simp [zeroValue, run_info hi, e3]
    | some q => simp
theorem Good.setObj {w0 w : World} {φ : Hp} {hs : List Hp} {b : Nat} {o : Obj} (g : Good w0 φ (.one b o :: hs) w) (o' : Obj) : Good w0 φ (.one b o' :: hs) { w with heap := w.heap.setIfInBounds b o' } := by
  have hw : w.heap[b]? = some o := g.agree _ (List.mem_cons_of_mem _ (List.mem_cons_self ..)) b _ one_get
  have hlt : b < w.heap.size := (Array.getElem?_eq_some_iff.1 hw).1
  have hd := g.disj
  rw [List.pairwise_cons, List.pairwise_cons] at hd
  have far : ∀ q, q ∈ φ :: hs → q b = none := fun q hq => by
    rcases List.mem_cons.1 hq with rfl | hq
    · rcases hd.1 _ (List.mem_cons_self ..) b with h | h
      · exact h
      · simp [Hp.one] at h
    · rcases hd.2.1 q hq b with h | h
      · simp [Hp.one] at h
      · exact h
  refine ⟨g.os, g.tape, g.output, by simpa using g.size, g.base, fun q hq k ob hk => ?_, ?_⟩
  · have hc : q = Hp.one b o' ∨ q ∈ φ :: hs := by
      rcases List.mem_cons.1 hq with rfl | hq
      · exact .inr (List.mem_cons_self ..)
      · rcases List.mem_cons.1 hq with rfl | hq
        · exact .inl rfl
        · exact .inr (List.mem_cons_of_mem _ hq)
    rcases hc with rfl | hc
    · simp only [Hp.one] at hk
      split at hk
      · rename_i e; subst e
        injection hk with hk; subst hk
        simp [hlt]
      · cases hk
    · have hne : b ≠ k := fun e => by subst e; rw [far q hc] at hk; cases hk
      rw [Array.getElem?_setIfInBounds_ne hne]
      refine g.agree q ?_ k ob hk
      rcases List.mem_cons.1 hc with rfl | hc
      · exact List.mem_cons_self ..
      · exact List.mem_cons_of_mem _ (List.mem_cons_of_mem _ hc)
  · have same : ∀ k, (Hp.one b o' k = none) = (Hp.one b o k = none) := fun k => by simp [Hp.one]
    rw [List.pairwise_cons, List.pairwise_cons]
    refine ⟨fun q hq k => ?_, fun q hq k => ?_, hd.2.2⟩
    · rcases List.mem_cons.1 hq with rfl | hq
      · rw [same]; exact hd.1 _ (List.mem_cons_self ..) k
      · exact hd.1 q (List.mem_cons_of_mem _ hq) k
    · rw [same]; exact hd.2.1 q hq k
theorem O_mapUpdate {z : Operand} {k : κ} {u : ν} {sk su : SVal} {C : HA → List HA} (hk : KeyOk P kt kv) (ht : P.underlying t = some (.map kt e)) (hx : look E x = some (.val (.map (some b)))) (hy : look E y = some sk) (hz : look E z = some su) (hsk : ∀ φ v, Rep φ sk v → v = kv k) (hsu : ∀ φ v, Rep φ su v → v = vv u) [hc : MapCtx b M kv vv l C]
    (h : K (.val undef) (C (mapA b kv vv (mput l k u)))) : OpS w0 P ⟨dst, .mapUpdate t x y z, ty, pos, af, gd⟩ E M K :=
  .step fun X hX a w hh => by
    obtain ⟨R, p, p'⟩ := hc.u
    have hq : a.eval x = .map (some b) ∧ a.eval y = kv k ∧ a.eval z = vv u := by
      obtain ⟨φ, hs, g, hS, he, hx'⟩ := hh
      exact ⟨(he.look hx).val_eq, hsk _ _ (he.look hy), hsu _ _ (he.look hz)⟩
    obtain ⟨e1, e2, e3⟩ := hq
    obtain ⟨φ, hs, g, hS, he, hx'⟩ := hh.perm p
    obtain ⟨q, hs0, rfl, ⟨es, clock, rfl, hes⟩, tS⟩ := hS.cons_inv
    have hw : w.heap[b]? = some (.map es clock) := g.agree _ (List.mem_cons_of_mem _ (List.mem_cons_self ..)) b _ one_get
    have hf := hk.find vv l es.toList k w hes
    have hlen : es.size = l.length := by have := congrArg List.length hes; simpa using this
    cases hm : mfind l k 0 with
    | none =>
      rw [hm] at hf
      refine ⟨.skip, undef, { w with heap := w.heap.setIfInBounds b (.map (es.push { key := kv k, val := vv u, born := clock }) (clock + 1)) }, .val undef, _, ?_, .inr ⟨rfl, rfl⟩, h, ?_⟩
      · simp only [execOp, e1, e2, e3, Instr.mapUpdate, Sem.run_bind, run_und ht, Result.andThen_ok]
        simp [MapKept.run_getObj_map hw, hk.chk, hf, MapKept.run_setObj_map _ hw]
      · refine Holds.perm ⟨φ, _, g.setObj _, .cons (A := mapA b kv vv (mput l k u)) ⟨_, _, rfl, ?_⟩ tS, .val _, hx'⟩ (p' _)
        rw [mfind_none l k u 0 hm, Array.toList_push, List.map_append, List.map_append, hes]; rfl
    | some r =>
      obtain ⟨j, u'⟩ := r
      rw [hm] at hf
      obtain ⟨_, h2, h3, h4⟩ := mfind_some l k u 0 j u' hm
      simp only [Nat.sub_zero] at h2 h3 h4
      have hj : j < es.size := by omega
      have hkey : (es[j]'hj).key = kv k := by
        have h5 : (es.toList.map (fun e => (e.key, e.val)))[j]? = (l.map (fun q => (kv q.1, vv q.2)))[j]? := by rw [hes]
        simp [hj, h2] at h5
        have := h3 (l[j]) (by simp [h2])
        rw [h5.1, this]
      refine ⟨.skip, undef, { w with heap := w.heap.setIfInBounds b (.map (es.modify j fun e => { e with key := kv k, val := vv u }) clock) }, .val undef, _, ?_, .inr ⟨rfl, rfl⟩, h, ?_⟩
      · simp only [execOp, e1, e2, e3, Instr.mapUpdate, Sem.run_bind, run_und ht, Result.andThen_ok]
        simp [MapKept.run_getObj_map hw, hk.chk, hf, MapKept.run_setObj_map _ hw, Instr.keyThatStays, hj, hkey, hk.stays]
      · refine Holds.perm ⟨φ, _, g.setObj _, .cons (A := mapA b kv vv (mput l k u)) ⟨_, _, rfl, ?_⟩ tS, .val _, hx'⟩ (p' _)
        rw [h4]
        apply List.ext_getElem?
        intro i
        have h5 : (es.toList.map (fun e => (e.key, e.val)))[i]? = (l.map (fun q => (kv q.1, vv q.2)))[i]? := by rw [hes]
        by_cases hi : i = j
        · subst hi
          simp [Array.getElem?_modify, hj, h2]
        · have hi' : j ≠ i := fun e => hi e.symm
          simp [Array.getElem?_modify, hi', List.getElem?_set_ne hi'] at h5 ⊢
          exact h5
end
end Go.Proofs.YtabojfgmbfnoiaaGreatDoor
end
section
/- Keys that are texts; how long a map is. -/
set_option linter.unusedVariables false
set_option linter.unusedSimpArgs false
set_option linter.unusedSectionVars false
namespace Go.Proofs.YtabojfgmbfnoiaaGreatDoor
theorem bytes_beq (a b : ByteArray) : (a == b) = decide (a = b) := by rw [beq_toListBytes, bytes_dec]
theorem findNow_str {ν : Type} (vv : ν → Value) : ∀ (l : List (ByteArray × ν)) (es : List MapEntry) (x : ByteArray) (i : Nat), es.map (fun e => (e.key, e.val)) = l.map (fun q => (Value.string q.1, vv q.2)) → Instr.findNow .string (.string x) es i = some ((mfind l x i).map fun q => (q.1, vv q.2))
  | [], [], x, i, h => rfl
  | [], _ :: _, x, i, h => by cases h
  | _ :: _, [], x, i, h => by cases h
  | p :: l, e :: es, x, i, h => by
    simp only [List.map_cons, List.cons.injEq, Prod.mk.injEq] at h
    obtain ⟨⟨h1, h2⟩, h3⟩ := h
    unfold Instr.findNow mfind
    rw [h1]
    simp only [Instr.sameNow]
    by_cases hx : p.1 = x
    · have : (x == p.1) = true := by rw [bytes_beq]; simp [hx]
      rw [this, if_pos hx, h2]; rfl
    · have : (x == p.1) = false := by rw [bytes_beq]; simp; exact fun e => hx e.symm
      rw [this, if_neg hx]
      exact findNow_str vv l es x (i + 1) h3
theorem key_str {P : Program} {kt : TypeId} (ht : P.underlying kt = some .string) : KeyOk P kt (fun s : ByteArray => Value.string s) where
  chk b x w := by
    show (Instr.checkKey b (9999 + 1) kt _).run P w = _
    rw [Instr.checkKey]
    simp [run_und ht]
  find vv l es x w h := by
    simp only [Instr.findKey, Sem.run_bind, run_und ht, Result.andThen_ok, findNow_str vv l es x 0 h, Sem.run_pure]
  stays x := by simp only [Instr.sameBits, bytes_beq]; simp
theorem O_len_map {κ ν : Type} [DecidableEq κ] {w0 : World} {P : Program} {E : Env} {M : List HA} {K : SVal → List HA → Prop} {dst : Option Tmp} {ty : TypeId} {pos : String} {af : Array Edge} {gd : Option (Nat × Bool)} {t kt e : TypeId} {x : Operand} {b : Nat} {kv : κ → Value} {vv : ν → Value} {l : List (κ × ν)}
    (ht : P.underlying t = some (.map kt e)) (hx : look E x = some (.val (.map (some b)))) [MapAt b M kv vv l] (h : K (sI l.length) M) : OpS w0 P ⟨dst, .call ⟨.builtin .len, #[x], #[t]⟩, ty, pos, af, gd⟩ E M K :=
  .read fun φ hs a w g hS he => by
    have e1 := (he.look hx).val_eq
    obtain ⟨es, clock, hw, hes⟩ := map_world (b := b) g hS
    have hlen : es.size = l.length := by have := congrArg List.length hes; simpa using this
    exact ⟨.int .i64 l.length, _, by simp [execOp, resolve, invoke, builtin, Builtin.len_, e1, run_und ht, goInt, MapKept.run_getObj_map hw, hlen], .val _, h⟩
theorem sk_val {v : Value} : ∀ φ u, Rep φ (.val v) u → u = v := fun φ u h => h.val_eq
end Go.Proofs.YtabojfgmbfnoiaaGreatDoor
end
section
/- Parts of parts: rows of rows that change. -/
set_option linter.unusedVariables false
set_option linter.unusedSimpArgs false
namespace Go.Proofs.YtabojfgmbfnoiaaGreatDoor
def bigOr : List Hp → Hp
  | [] => Hp.emp
  | h :: hs => h.or (bigOr hs)
theorem bigOr_none {hs : List Hp} {k : Nat} : bigOr hs k = none ↔ ∀ h, h ∈ hs → h k = none := by
  induction hs with
  | nil => simp [bigOr, Hp.emp]
  | cons h hs ih =>
    simp only [bigOr, Hp.or, List.mem_cons, forall_eq_or_imp]
    cases hk : h k with
    | none => simp [ih]
    | some o => simp
theorem bigOr_some {hs : List Hp} {k : Nat} {o : Obj} (h : bigOr hs k = some o) : ∃ q, q ∈ hs ∧ q k = some o := by
  induction hs with
  | nil => simp [bigOr, Hp.emp] at h
  | cons q hs ih =>
    simp only [bigOr, Hp.or] at h
    cases hk : q k with
    | none =>
      rw [hk] at h
      obtain ⟨r, h1, h2⟩ := ih h
      exact ⟨r, List.mem_cons_of_mem _ h1, h2⟩
    | some o' => rw [hk] at h; injection h with h; subst h; exact ⟨q, List.mem_cons_self .., hk⟩
theorem bigOr_le {hs : List Hp} (hd : hs.Pairwise Hp.disj) {q : Hp} (hq : q ∈ hs) : q.le (bigOr hs) := by
  induction hs with
  | nil => cases hq
  | cons h hs ih =>
    rw [List.pairwise_cons] at hd
    intro k o hk
    rcases List.mem_cons.1 hq with rfl | hq
    · simp [bigOr, Hp.or, hk]
    · have h1 := ih hd.2 hq k o hk
      simp only [bigOr, Hp.or]
      cases hh : h k with
      | none => exact h1
      | some o' =>
        rcases hd.1 q hq k with h2 | h2
        · rw [hh] at h2; cases h2
        · rw [hk] at h2; cases h2
/-- A list of parts as one part. -/
def starA (l : List HA) : HA where
  p φ h := ∃ hs, Sat φ l hs ∧ hs.Pairwise Hp.disj ∧ h = bigOr hs
  mono hl := fun ⟨hs, s, d, e⟩ => ⟨hs, s.mono hl, d, e⟩
theorem Sat.length {φ : Hp} : ∀ {l : List HA} {hs : List Hp}, Sat φ l hs → l.length = hs.length
  | [], [], _ => rfl
  | _ :: _, _ :: _, h => by simp [Sat.length h.2]
  | [], _ :: _, h => h.elim
  | _ :: _, [], h => h.elim
theorem Sat.app {φ : Hp} : ∀ {l m : List HA} {hs ks : List Hp}, Sat φ l hs → Sat φ m ks → Sat φ (l ++ m) (hs ++ ks)
  | [], m, [], ks, _, h => h
  | _ :: l, m, _ :: hs, ks, h, k => ⟨h.1, Sat.app h.2 k⟩
  | [], _, _ :: _, _, h, _ => h.elim
  | _ :: _, _, [], _, h, _ => h.elim
theorem Sat.split {φ : Hp} : ∀ {l m : List HA} {rs : List Hp}, Sat φ (l ++ m) rs → ∃ hs ks, rs = hs ++ ks ∧ Sat φ l hs ∧ Sat φ m ks
  | [], m, rs, h => ⟨[], rs, rfl, trivial, h⟩
  | A :: l, m, rs, h => by
    obtain ⟨h0, hs0, rfl, a, t⟩ := Sat.cons_inv h
    obtain ⟨hs, ks, rfl, h1, h2⟩ := Sat.split t
    exact ⟨h0 :: hs, ks, rfl, ⟨a, h1⟩, h2⟩
theorem Holds.unstar {w0 w : World} {l M : List HA} {X : Hp → Prop} (h : Holds w0 (starA l :: M) w X) : Holds w0 (l ++ M) w X := by
  obtain ⟨φ, rs, g, s, x⟩ := h
  obtain ⟨q, ks, rfl, ⟨hs, sl, hd, rfl⟩, t⟩ := s.cons_inv
  have hp := g.disj
  rw [List.pairwise_cons, List.pairwise_cons] at hp
  refine ⟨φ, hs ++ ks, ⟨g.os, g.tape, g.output, g.size, g.base, fun r hr k o hk => ?_, ?_⟩, sl.app t, x⟩
  · rcases List.mem_cons.1 hr with rfl | hr
    · exact g.agree _ (List.mem_cons_self ..) k o hk
    rcases List.mem_append.1 hr with hr | hr
    · exact g.agree _ (List.mem_cons_of_mem _ (List.mem_cons_self ..)) k o (bigOr_le hd hr k o hk)
    · exact g.agree _ (List.mem_cons_of_mem _ (List.mem_cons_of_mem _ hr)) k o hk
  · rw [List.pairwise_cons]
    refine ⟨fun r hr => ?_, List.pairwise_append.2 ⟨hd, hp.2.2, fun a ha b hb k => ?_⟩⟩
    · rcases List.mem_append.1 hr with hr | hr
      · intro k
        rcases hp.1 _ (List.mem_cons_self ..) k with h1 | h1
        · exact .inl h1
        · exact .inr (bigOr_none.1 h1 r hr)
      · exact hp.1 r (List.mem_cons_of_mem _ hr)
    · rcases hp.2.1 b hb k with h1 | h1
      · exact .inl (bigOr_none.1 h1 a ha)
      · exact .inr h1
theorem Holds.star {w0 w : World} {l M : List HA} {X : Hp → Prop} (h : Holds w0 (l ++ M) w X) : Holds w0 (starA l :: M) w X := by
  obtain ⟨φ, rs, g, s, x⟩ := h
  obtain ⟨hs, ks, rfl, sl, t⟩ := s.split
  have hp := g.disj
  rw [List.pairwise_cons, List.pairwise_append] at hp
  refine ⟨φ, bigOr hs :: ks, ⟨g.os, g.tape, g.output, g.size, g.base, fun r hr k o hk => ?_, ?_⟩, .cons (A := starA l) ⟨hs, sl, hp.2.1, rfl⟩ t, x⟩
  · rcases List.mem_cons.1 hr with rfl | hr
    · exact g.agree _ (List.mem_cons_self ..) k o hk
    rcases List.mem_cons.1 hr with rfl | hr
    · obtain ⟨q, hq, hk'⟩ := bigOr_some hk
      exact g.agree _ (List.mem_cons_of_mem _ (List.mem_append_left _ hq)) k o hk'
    · exact g.agree _ (List.mem_cons_of_mem _ (List.mem_append_right _ hr)) k o hk
  · rw [List.pairwise_cons, List.pairwise_cons]
    refine ⟨fun r hr k => ?_, fun r hr k => ?_, hp.2.2.1⟩
    · rcases List.mem_cons.1 hr with rfl | hr
      · cases hφ : φ k with
        | none => exact .inl rfl
        | some o =>
          refine .inr (bigOr_none.2 fun q hq => ?_)
          rcases hp.1 q (List.mem_append_left _ hq) k with h1 | h1
          · rw [hφ] at h1; cases h1
          · exact h1
      · exact hp.1 r (List.mem_append_right _ hr) k
    · cases hr2 : r k with
      | none => exact .inr rfl
      | some o =>
        refine .inl (bigOr_none.2 fun q hq => ?_)
        rcases hp.2.2.2 q hq r hr k with h1 | h1
        · exact h1
        · rw [hr2] at h1; cases h1
end Go.Proofs.YtabojfgmbfnoiaaGreatDoor
end
