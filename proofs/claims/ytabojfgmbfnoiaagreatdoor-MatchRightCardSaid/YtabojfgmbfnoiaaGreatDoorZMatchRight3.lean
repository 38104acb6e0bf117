/- Proof of MatchRight, part 3 of 6: what the functions compute, and that it answers. -/
import Derived.Test.YtabojfgmbfnoiaaGreatDoorZMatchRight2
section
/- What the functions compute, and that they do (1). GENERATED. -/
set_option linter.unusedVariables false
set_option maxRecDepth 100000
set_option maxHeartbeats 4000000
namespace Go.Proofs.YtabojfgmbfnoiaaGreatDoor
open Go.Proofs.Tryz
abbrev fr := DK.free
abbrev pu := DK.pure
abbrev nw := DK.new
abbrev mn := DK.main
theorem be {α β : Type} {o : Option α} {k : α → Option β} {r : β} (h : o.bind k = some r) : ∃ x, o = some x ∧ k x = some r := bind_e h
abbrev bx1 (b : Nat) (x0 : Int) (x1 : ByteArray) (x2 : ByteArray) (x3 : List Tree) : HA := boxA b 24 [sI x0, sS x1, sS x2, .isl .node x3]
abbrev bx2 (b : Nat) (x0 : Int) (x1 : ByteArray) (x2 : ByteArray) (x3 : Hnd) : HA := boxA b 24 [sI x0, sS x1, sS x2, .val (sl x3)]
abbrev bx3 (b : Nat) (x0 : Hnd) (x1 : Hnd) (x2 : Hnd) (x3 : Hnd) : HA := boxA b 50 [.val (sl x0), .val (sl x1), .val (sl x2), .val (sl x3)]
abbrev bx4 (b : Nat) (x0 : List Tree) (x1 : List Int) (x2 : List Int) (x3 : List (List Int)) : HA := boxA b 50 [.isl .node x0, .isl .int x1, .isl .int x2, .isl .ints x3]
abbrev bx5 (b : Nat) (x0 : List Tree) (x1 : List Int) (x2 : List Int) (x3 : List (List Int)) (x4 : List Tree) (x5 : List Int) (x6 : List Int) (x7 : List (List Int)) (x8 : List Int) (x9 : List Int) (x10 : Hnd) (x11 : Hnd) : HA := boxA b 53 [.isl .node x0, .isl .int x1, .isl .int x2, .isl .ints x3, .isl .node x4, .isl .int x5, .isl .int x6, .isl .ints x7, .isl .int x8, .isl .int x9, .val (sl x10), .val (sl x11)]
abbrev bx6 (b : Nat) (x0 : Int) (x1 : ByteArray) (x2 : Int) (x3 : Bool) : HA := boxA b 118 [sI x0, sS x1, sI x2, sB x3]
abbrev bx7 (b : Nat) (x0 : Int) (x1 : ByteArray) (x2 : Bool) (x3 : Int) : HA := boxA b 81 [sI x0, sS x1, sB x2, sI x3]
abbrev bx8 (b : Nat) (x0 : List Tree) (x1 : Hnd) (x2 : Hnd) (x3 : Hnd) : HA := boxA b 31 [.isl .node x0, .val (sl x1), .val (sl x2), .val (sl x3)]
abbrev bx9 (b : Nat) (x0 : List Tree) (x1 : List Int) (x2 : List Int) (x3 : List (List Int)) : HA := boxA b 31 [.isl .node x0, .isl .int x1, .isl .int x2, .isl .ints x3]
def F22_l6 (self : Tree → Int → Option (List Tree)) (fuel : Nat) (a1 : Tree) (a2 : Int) : Nat → List Tree → Int → Option (List Tree)
 | 0, _, _ => none
 | n + 1, y17, y18 =>
 Option.bind (α := Bool) (
 bif (decide (y18 < (a1.kids.length : Int))) then (
 some (decide ((y17.length : Int) < a2))) else (
 some false)) fun i20 =>
 bif i20 then (
 (idx a1.kids y18).bind fun x23 =>
 (ck (a2 - (y17.length : Int))).bind fun x24 =>
 (self x23 x24).bind fun r25 =>
 if ((y17).length + (r25).length) * 64 ≤ 140737488355328 then (
 (ck (y18 + (1 : Int))).bind fun x28 =>
 F22_l6 self fuel a1 a2 n (y17 ++ r25) x28) else none) else (
 some y17)
def F22 : Nat → Tree → Int → Option (List Tree)
 | 0, _, _ => none
 | fuel + 1, a1, a2 =>
 Option.bind (α := List Tree) (
 F22_l6 (F22 fuel) fuel a1 a2 fuel [a1] (0 : Int)) fun i5 =>
 some i5
theorem F22_ok {w0 : World} (hG : Globs w0) : ∀ (fuel : Nat), ∀ (a1 : Tree) (a2 : Int) {r : List Tree} (e0 : F22 fuel a1 a2 = some r), Fn w0 prog 22 [.agg [sI a1.kind, sS a1.text, sS a1.trail, .isl .node a1.kids], sI a2] [] (fun s H => s = .isl .node r ∧ H = []) := by
 intro fuel
 induction fuel with
 | zero => intro a1 a2 r e0; cases e0
 | succ fuel ih =>
 intro a1 a2 r e0
 rw [F22] at e0
 refine fn_intro2 35 [.tmp 4] func22 rfl rfl rfl rfl fun X hX F => ?_
 refine C_turn (T_start [(0, .agg [sI a1.kind, sS a1.text, sS a1.trail, .isl .node a1.kids]), (1, sI a2)] rfl (F) rfl) ?_
 refine gs ?_
 refine W rfl (O_box rfl rfl fun b3 => ?_)
 refine go ?_
 refine gs ?_
 refine W rfl (A_build 24 64 .node [a1] (ss := [(0, .agg [sI a1.kind, sS a1.text, sS a1.trail, .isl .node a1.kids])]) tyE_22 tyZ_24 rfl rfl rfl rfl rfl rfl fun q4 => ?_)
 refine go ?_
 obtain ⟨i5,e1,e0⟩:=be e0
 refine C_cut (ι := List Tree × Hnd) (fun i => [(5, .val (sl i.2))]) (fun i => ownA (sl i.2) 24 .node i.1 :: F) (fun i => i5 = i.1) ?_ ?_
 refine gs ?_
 refine C_loopF (κ := (List Tree × Int) × Hnd) (fun d => [(1, sI a2), (2, sP b3 0), (5, .val (sl d.2)), (6, sI d.1.2)]) (fun d => bx1 b3 a1.kind a1.text a1.trail a1.kids :: ownA (sl d.2) 24 .node d.1.1 :: F) (fun n d => F22_l6 (F22 fuel) fuel a1 a2 n d.1.1 d.1.2) i5 fuel (([a1], (0 : Int)), q4) e1 (tl [1, 0] 0 rfl rfl) (fun _ => rfl) ?_
 rintro n ⟨⟨y17, y18⟩, q19⟩ hF
 have e1 : F22_l6 (F22 fuel) fuel a1 a2 (n + 1) y17 y18 = some i5 := hF
 rw [F22_l6] at e1
 clear hF
 refine C_seq ?_
 obtain ⟨i20,e2,e1⟩:=be e1
 refine C_cut (ι := Bool) (fun i => [(1, sI a2), (2, sP b3 0), (5, .val (sl q19)), (6, sI y18), (19, sB i)]) (fun i => bx1 b3 a1.kind a1.text a1.trail a1.kids :: ownA (sl q19) 24 .node y17 :: F) (fun i => i20 = i) ?_ ?_
 refine go ?_
 obtain ⟨hg21, e2⟩ | ⟨hg21, e2⟩ := bc e2
 refine Wt rfl rfl rfl hg21 rfl rfl (O_move rfl ?_)
 refine Wt rfl rfl rfl hg21 rfl rfl (O_len_own tyl_22 rfl ?_)
 refine Wt rfl rfl rfl hg21 rfl rfl (O_move rfl ?_)
 refine Wt rfl rfl rfl hg21 rfl rfl (O_cmp rfl rfl rfl ?_)
 refine go ?_
 exact jm e2 (tl [0, 0] 0 rfl rfl)
 refine go ?_
 exact jm e2 (tl [0, 0] 0 rfl rfl)
 rintro z hi
 subst hi
 refine C_cd rfl e1 (fun e1 => ?_) (fun e1 => ?_)
 refine go ?_
 refine gs ?_
 obtain ⟨x23,w23,e1⟩:=be e1
 refine W rfl (O_indexAddr (k := .node) (z := x23) tyL_22 rfl rfl (idx_e w23).1 (idx_e w23).2 ?_)
 refine W rfl (O_load_ipt_all (k := .node) tyA_24 rfl ?_)
 refine go ?_
 refine W rfl (O_len_own tyl_22 rfl ?_)
 obtain ⟨x24,w24,e1⟩:=be e1
 refine W rfl (O_arI rfl rfl rfl (ck_e w24).2 (W_re (congrArg sI (ck_e w24).1) ?_))
 obtain ⟨r25,hr25,e1⟩:=be e1
 refine W rfl (O_callP fn_22 rfl (ih x23 x24 hr25) ?_)
 obtain ⟨h26, e1⟩ := req_e e1
 refine W rfl (A_isl (k := .node) (by_ := 64) tyE_22 rfl (by decide) rfl rfl h26 fun q27 => ?_)
 refine go ?_
 obtain ⟨x28,w28,e1⟩:=be e1
 refine W rfl (O_arI rfl rfl rfl (ck_e w28).2 (W_re (congrArg sI (ck_e w28).1) ?_))
 refine go ?_
 exact jmpL (((y17 ++ r25), x28), q27) e1 (tl [0, 0] 0 rfl rfl)
 refine go ?_
 obtain rfl := so e1
 exact jmp (y17, q19) rfl (tl [1] 1 rfl rfl)
 rintro ⟨z, q29⟩ hi
 subst hi
 refine gs ?_
 obtain rfl := so e0
 refine go ?_
 exact ret_ok (Turn.trans (T_freezeL (sl q29) (k := .node) (.cons 4 rfl .here (.cons 34 rfl .here (.cons 5 rfl .here .nil)))) (T_le (E' := [(4, .isl .node i5)]) (.mk [] 0 rfl ⟨rfl, trivial⟩))) [] 0 [.isl .node i5] [] (.tmp (t := 4) _ rfl .nil) rfl ⟨rfl, rfl⟩
def F19_l5 (fuel : Nat) (r3 : List Tree) : Nat → Int → Int → Option ((Unit ⊕ Bool))
 | 0, _, _ => none
 | n + 1, y6, y7 =>
 bif (decide (y7 < (r3.length : Int))) then (
 (idx r3 y7).bind fun x9 =>
 (ck (y6 + (if (100000 : Int) < (x9.text.size : Int) then (100000 : Int) else (x9.text.size : Int)))).bind fun x10 =>
 (ck (x10 + (if (100000 : Int) < (x9.trail.size : Int) then (100000 : Int) else (x9.trail.size : Int)))).bind fun x11 =>
 bif (decide (x11 > (50000 : Int))) then (
 some (.inr false)) else (
 (ck (y7 + (1 : Int))).bind fun x13 =>
 F19_l5 fuel r3 n x11 x13)) else (
 some (.inl ()))
def F19 (fuel : Nat) (a1 : Tree) : Option (Bool) :=
 (F22 fuel a1 (2001 : Int)).bind fun r3 =>
 Option.bind (α := (Unit ⊕ Bool)) (
 F19_l5 fuel r3 fuel (0 : Int) (0 : Int)) (Sum.elim (fun i4 =>
 some (decide ((r3.length : Int) ≤ (2000 : Int)))) (fun z => some z))
theorem F19_ok {w0 : World} (hG : Globs w0) (fuel : Nat) : ∀ (a1 : Tree) {r : Bool} (e0 : F19 fuel a1 = some r), Fn w0 prog 19 [.agg [sI a1.kind, sS a1.text, sS a1.trail, .isl .node a1.kids]] [] (fun s H => s = sB r ∧ H = []) := by
 intro a1 r e0
 rw [F19] at e0
 refine fn_intro2 36 [.tmp 2] func19 rfl rfl rfl rfl fun X hX F => ?_
 refine C_turn (T_start [(0, .agg [sI a1.kind, sS a1.text, sS a1.trail, .isl .node a1.kids])] rfl (F) rfl) ?_
 refine gs ?_
 refine W rfl (O_box rfl rfl fun b2 => ?_)
 refine go ?_
 refine gs ?_
 obtain ⟨r3,hr3,e0⟩:=be e0
 refine W rfl (O_callP fn_22 rfl (F22_ok hG fuel a1 (2001 : Int) hr3) ?_)
 refine go ?_
 refine gs ?_
 obtain ⟨o4,e1,e0⟩:=be e0
 refine C_cut (ι := Unit) (fun i => [(3, .isl .node r3)]) (fun i => F) (fun i => o4 = .inl ()) ?_ ?_
 refine gs ?_
 refine C_loopF (κ := (Int × Int)) (fun d => [(3, .isl .node r3),(4, sI d.1),(5, sI d.2)]) (fun d => F) (fun n d => F19_l5 fuel r3 n d.1 d.2) o4 fuel ((0 : Int),(0 : Int)) e1 (tl [] 1 rfl rfl) (fun _ => rfl) ?_
 rintro n ⟨y6, y7⟩ hF
 have e1 : F19_l5 fuel r3 (n + 1) y6 y7 = some o4 := hF
 rw [F19_l5] at e1
 clear hF
 refine C_seq ?_
 refine gs ?_
 refine C_cd rfl e1 (fun e1 => ?_) (fun e1 => ?_)
 refine go ?_
 refine gs ?_
 refine C_seq ?_
 refine C_draw2 [(0,fr),(1,fr),(2,fr),(3,fr),(4,fr),(5,fr),(6,fr),(7,fr),(8,fr),(9,fr),(10,fr),(11,fr),(12,fr),(13,fr),(14,fr),(15,fr),(16,fr),(17,fr)] [] [] (F) rfl rfl rfl (by kernel_rfl) rfl ?_
 refine gd ?_
 obtain ⟨x9,w9,e1⟩:=be e1
 refine D_free rfl rfl (fun G => O_indexAddr (k := .node) (z := x9) tyL_22 (lk rfl rfl) (lk rfl rfl) (idx_e w9).1 (idx_e w9).2 ⟨rfl, rfl⟩) ?_
 refine gd ?_
 refine D_free rfl rfl (fun G => O_len_str tys_9 (lk rfl rfl) ⟨rfl, rfl⟩) ?_
 refine D_free rfl rfl (fun G => O_min (lk rfl rfl) (lk rfl rfl) ⟨rfl, rfl⟩) ?_
 obtain ⟨x10,w10,e1⟩:=be e1
 refine D_free rfl rfl (fun G => O_arI (lk rfl rfl) (lk rfl rfl) rfl (ck_e w10).2 ⟨rfl, rfl⟩) (D_re (congrArg sI (ck_e w10).1) ?_)
 refine gd ?_
 refine D_free rfl rfl (fun G => O_indexAddr (k := .node) (z := x9) tyL_22 (lk rfl rfl) (lk rfl rfl) (idx_e w9).1 (idx_e w9).2 ⟨rfl, rfl⟩) ?_
 refine gd ?_
 refine D_free rfl rfl (fun G => O_len_str tys_9 (lk rfl rfl) ⟨rfl, rfl⟩) ?_
 refine D_free rfl rfl (fun G => O_min (lk rfl rfl) (lk rfl rfl) ⟨rfl, rfl⟩) ?_
 obtain ⟨x11,w11,e1⟩:=be e1
 refine D_free rfl rfl (fun G => O_arI (lk rfl rfl) (lk rfl rfl) rfl (ck_e w11).2 ⟨rfl, rfl⟩) (D_re (congrArg sI (ck_e w11).1) ?_)
 refine gd ?_
 refine D_nil ?_
 refine gs ?_
 refine C_cd rfl e1 (fun e1 => ?_) (fun e1 => ?_)
 refine gs ?_
 obtain rfl := so e1
 obtain rfl := so e0
 refine go ?_
 exact rt [] 0 ⟨rfl, rfl⟩ rfl rfl
 refine go ?_
 obtain ⟨x13,w13,e1⟩:=be e1
 refine W rfl (O_arI rfl rfl rfl (ck_e w13).2 (W_re (congrArg sI (ck_e w13).1) ?_))
 refine go ?_
 exact jmpL (x11, x13) e1 (tl [] 0 rfl rfl)
 refine go ?_
 obtain rfl := so e1
 exact jmp () rfl (tl [] 0 rfl rfl)
 rintro ⟨⟩ hi
 subst hi
 have e0 := elim_l e0
 refine gs ?_
 obtain rfl := so e0
 refine go ?_
 exact rt [] 0 ⟨rfl, rfl⟩ rfl rfl
def F15 (fuel : Nat) (a1 : Tree) (a2 : Int) : Option (Int) :=
 (F22 fuel a1 a2).bind fun r4 =>
 some (r4.length : Int)
theorem F15_ok {w0 : World} (hG : Globs w0) (fuel : Nat) : ∀ (a1 : Tree) (a2 : Int) {r : Int} (e0 : F15 fuel a1 a2 = some r), Fn w0 prog 15 [.agg [sI a1.kind, sS a1.text, sS a1.trail, .isl .node a1.kids], sI a2] [] (fun s H => s = sI r ∧ H = []) := by
 intro a1 a2 r e0
 rw [F15] at e0
 refine fn_intro2 9 [.tmp 4] func15 rfl rfl rfl rfl fun X hX F => ?_
 refine C_turn (T_start [(0, .agg [sI a1.kind, sS a1.text, sS a1.trail, .isl .node a1.kids]), (1, sI a2)] rfl (F) rfl) ?_
 refine gs ?_
 refine W rfl (O_box rfl rfl fun b3 => ?_)
 refine go ?_
 refine gs ?_
 obtain ⟨r4,hr4,e0⟩:=be e0
 refine W rfl (O_callP fn_22 rfl (F22_ok hG fuel a1 a2 hr4) ?_)
 refine go ?_
 obtain rfl := so e0
 refine go ?_
 exact rt [] 1 ⟨rfl, rfl⟩ rfl rfl
def F7 (fuel : Nat) (a1 : Tree) : Option (Bool) :=
 Option.bind (α := Bool) (
 (F19 fuel a1).bind fun r4 =>
 bif r4 then (
 (F15 fuel a1 (401 : Int)).bind fun r6 =>
 some (decide (r6 ≤ (400 : Int)))) else (
 some false)) fun i3 =>
 some i3
theorem F7_ok {w0 : World} (hG : Globs w0) (fuel : Nat) : ∀ (a1 : Tree) {r : Bool} (e0 : F7 fuel a1 = some r), Fn w0 prog 7 [.agg [sI a1.kind, sS a1.text, sS a1.trail, .isl .node a1.kids]] [] (fun s H => s = sB r ∧ H = []) := by
 intro a1 r e0
 rw [F7] at e0
 refine fn_intro2 10 [.tmp 2] func7 rfl rfl rfl rfl fun X hX F => ?_
 refine C_turn (T_start [(0, .agg [sI a1.kind, sS a1.text, sS a1.trail, .isl .node a1.kids])] rfl (F) rfl) ?_
 refine gs ?_
 refine W rfl (O_box rfl rfl fun b2 => ?_)
 refine go ?_
 obtain ⟨i3,e1,e0⟩:=be e0
 refine C_cut (ι := Bool) (fun i => [(2, sB i)]) (fun i => F) (fun i => i3 = i) ?_ ?_
 refine go ?_
 obtain ⟨r4,hr4,e1⟩:=be e1
 refine W rfl (O_callP fn_19 rfl (F19_ok hG fuel a1 hr4) ?_)
 refine go ?_
 obtain ⟨hg5, e1⟩ | ⟨hg5, e1⟩ := bc e1
 refine Wt rfl rfl rfl hg5 rfl rfl (O_load_all tyA_24 rfl rfl ?_)
 obtain ⟨r6,hr6,e1⟩:=be e1
 refine Wt rfl rfl rfl hg5 rfl rfl (O_callP fn_15 rfl (F15_ok hG fuel a1 (401 : Int) hr6) ?_)
 refine Wt rfl rfl rfl hg5 rfl rfl (O_cmp rfl rfl rfl ?_)
 refine go ?_
 exact jm e1 (tl [] 1 rfl rfl)
 refine go ?_
 exact jm e1 (tl [] 1 rfl rfl)
 rintro z hi
 subst hi
 refine go ?_
 obtain rfl := so e0
 refine go ?_
 exact rt [] 0 ⟨rfl, rfl⟩ rfl rfl
def F21 (fuel : Nat) (a1 : ByteArray) (a2 : Tree) : Option (List Tree) :=
 some [a2]
theorem F21_ok {w0 : World} (hG : Globs w0) (fuel : Nat) : ∀ (a1 : ByteArray) (a2 : Tree) {r : List Tree} (e0 : F21 fuel a1 a2 = some r), Fn w0 prog 21 [sS a1, .agg [sI a2.kind, sS a2.text, sS a2.trail, .isl .node a2.kids]] [] (fun s H => s = .agg [sI (4 : Int), sS a1, sS (⟨#[]⟩ : ByteArray), .isl .node r] ∧ H = []) := by
 intro a1 a2 r e0
 rw [F21] at e0
 refine fn_intro2 9 [.cell 4 24] func21 rfl rfl rfl rfl fun X hX F => ?_
 refine C_turn (T_start [(0, sS a1), (1, .agg [sI a2.kind, sS a2.text, sS a2.trail, .isl .node a2.kids])] rfl (F) rfl) ?_
 refine gs ?_
 refine W rfl (O_box rfl rfl fun b3 => ?_)
 refine W rfl (O_alloc tyZ_24 rfl fun b4 => ?_)
 refine go ?_
 refine gs ?_
 refine W rfl (A_build 24 64 .node [a2] (ss := [(0, .agg [sI a2.kind, sS a2.text, sS a2.trail, .isl .node a2.kids])]) tyE_22 tyZ_24 rfl rfl rfl rfl rfl rfl fun q5 => ?_)
 refine W rfl (O_build (ss := [(0, sI (4 : Int)), (1, sS a1), (3, .val (sl q5))]) tyZ_24 tyP_24 rfl rfl rfl ?_)
 refine Wn (S_any [sI (4 : Int), sS a1, sS (⟨#[]⟩ : ByteArray), .val (sl q5)] tyS_24 rfl rfl rfl rfl (Nat.le_of_ble_eq_true rfl) rfl ?_)
 refine go ?_
 obtain rfl := so e0
 refine go ?_
 exact ret_ok (Turn.trans (T_sel [0, 0] 1 (ownA (sl q5) 24 .node [a2] :: bx2 b4 (4 : Int) a1 (⟨#[]⟩ : ByteArray) q5 :: F) rfl) (Turn.trans (T_freezeB (sl q5) (k := .node) (.cons 8 rfl (.agg (.cons (.same _) (.cons (.same _) (.cons (.same _) (.cons .here .nil))))) (.cons 7 rfl .here .nil)) (b := b4) (ThawL.cons (.same _) (ThawL.cons (.same _) (ThawL.cons (.same _) (ThawL.cons .here ThawL.nil))))) (T_le (E' := [(4, sP b4 0)]) (M' := bx1 b4 (4 : Int) a1 (⟨#[]⟩ : ByteArray) [a2] :: F) (.mk [0] 0 rfl ⟨rfl, trivial⟩)))) [] 1 [.agg [sI (4 : Int), sS a1, sS (⟨#[]⟩ : ByteArray), .isl .node [a2]]] [] (.agg (t := 4) b4 4 [sI (4 : Int), sS a1, sS (⟨#[]⟩ : ByteArray), .isl .node [a2]] tyA_24 rfl rfl .nil) rfl ⟨rfl, rfl⟩
def F20v1 (fuel : Nat) (a1 : List Tree) : Option (List Tree) :=
 if (([(Tree.mk (2 : Int) (⟨#[112]⟩ : ByteArray) (⟨#[]⟩ : ByteArray) [])]).length + (a1).length) * 64 ≤ 140737488355328 then (
 some ([(Tree.mk (2 : Int) (⟨#[112]⟩ : ByteArray) (⟨#[]⟩ : ByteArray) [])] ++ a1)) else none
theorem F20v1_ok {w0 : World} (hG : Globs w0) (fuel : Nat) : ∀ (a1 : List Tree) {r : List Tree} (e0 : F20v1 fuel a1 = some r), Fn w0 prog 20 [.isl .node a1] [] (fun s H => s = .agg [sI (1 : Int), sS (⟨#[]⟩ : ByteArray), sS (⟨#[]⟩ : ByteArray), .isl .node r] ∧ H = []) := by
 intro a1 r e0
 rw [F20v1] at e0
 refine fn_intro2 8 [.cell 2 24] func20 rfl rfl rfl rfl fun X hX F => ?_
 refine C_turn (T_start [(0, .isl .node a1)] rfl (F) rfl) ?_
 refine gs ?_
 refine W rfl (O_alloc tyZ_24 rfl fun b2 => ?_)
 refine go ?_
 refine gs ?_
 refine W rfl (O_build (ss := [(0, sI (2 : Int)), (1, sS (⟨#[112]⟩ : ByteArray))]) tyZ_24 tyP_24 rfl rfl rfl ?_)
 refine W rfl (A_build2 24 64 .node [(Tree.mk (2 : Int) (⟨#[112]⟩ : ByteArray) (⟨#[]⟩ : ByteArray) [])] (ss := [(0, .agg [sI (2 : Int), sS (⟨#[112]⟩ : ByteArray), sS (⟨#[]⟩ : ByteArray), .val (.slice none 0 0)])]) tyE_22 tyZ_24 rfl rfl rfl rfl rfl rfl (RepImpL.cons (RepImp.refl _) (RepImpL.cons (RepImp.refl _) (RepImpL.cons (RepImp.refl _) (RepImpL.cons (RepImp.nil .node) RepImpL.nil)))) fun q3 => ?_)
 refine go ?_
 obtain ⟨h4, e0⟩ := req_e e0
 refine W rfl (A_isl (k := .node) (by_ := 64) tyE_22 rfl (by decide) rfl rfl h4 fun q5 => ?_)
 refine W rfl (O_build (ss := [(0, sI (1 : Int)), (3, .val (sl q5))]) tyZ_24 tyP_24 rfl rfl rfl ?_)
 refine Wn (S_any [sI (1 : Int), sS (⟨#[]⟩ : ByteArray), sS (⟨#[]⟩ : ByteArray), .val (sl q5)] tyS_24 rfl rfl rfl rfl (Nat.le_of_ble_eq_true rfl) rfl ?_)
 refine go ?_
 obtain rfl := so e0
 refine go ?_
 exact ret_ok (Turn.trans (T_freezeB (sl q5) (k := .node) (.cons 7 rfl (.agg (.cons (.same _) (.cons (.same _) (.cons (.same _) (.cons .here .nil))))) (.cons 6 rfl .here .nil)) (b := b2) (ThawL.cons (.same _) (ThawL.cons (.same _) (ThawL.cons (.same _) (ThawL.cons .here ThawL.nil))))) (T_le (E' := [(2, sP b2 0)]) (M' := bx1 b2 (1 : Int) (⟨#[]⟩ : ByteArray) (⟨#[]⟩ : ByteArray) ([(Tree.mk (2 : Int) (⟨#[112]⟩ : ByteArray) (⟨#[]⟩ : ByteArray) [])] ++ a1) :: F) (.mk [0] 0 rfl ⟨rfl, trivial⟩))) [] 1 [.agg [sI (1 : Int), sS (⟨#[]⟩ : ByteArray), sS (⟨#[]⟩ : ByteArray), .isl .node ([(Tree.mk (2 : Int) (⟨#[112]⟩ : ByteArray) (⟨#[]⟩ : ByteArray) [])] ++ a1)]] [] (.agg (t := 2) b2 4 [sI (1 : Int), sS (⟨#[]⟩ : ByteArray), sS (⟨#[]⟩ : ByteArray), .isl .node ([(Tree.mk (2 : Int) (⟨#[112]⟩ : ByteArray) (⟨#[]⟩ : ByteArray) [])] ++ a1)] tyA_24 rfl rfl .nil) rfl ⟨rfl, rfl⟩
def F35_l7 (self : Tree → Option (Int × ByteArray × ByteArray × List Tree)) (fuel : Nat) (a1 : Tree) : Nat → List Tree → Int → Option (List Tree)
 | 0, _, _ => none
 | n + 1, y17, y18 =>
 bif (decide (y18 < (a1.kids.length : Int))) then (
 (idx a1.kids y18).bind fun x21 =>
 (self x21).bind fun r23 =>
 if ((y17).length + ([(Tree.mk r23.1 r23.2.1 r23.2.2.1 r23.2.2.2)]).length) * 64 ≤ 140737488355328 then (
 (ck (y18 + (1 : Int))).bind fun x27 =>
 F35_l7 self fuel a1 n (y17 ++ [(Tree.mk r23.1 r23.2.1 r23.2.2.1 r23.2.2.2)]) x27) else none) else (
 some y17)
def F35 : Nat → Tree → Option (Int × ByteArray × ByteArray × List Tree)
 | 0, _ => none
 | fuel + 1, a1 =>
 if 0 ≤ (0 : Int) ∧ (0 : Int) ≤ (a1.kids.length : Int) ∧ (64 : Int) * (a1.kids.length : Int) ≤ 281474976710656 ∧ (a1.kids.length : Int) ≤ 1000000000 then (
 Option.bind (α := List Tree) (
 F35_l7 (F35 fuel) fuel a1 fuel (List.replicate ((0 : Int)).toNat (Tree.mk (0 : Int) (⟨#[]⟩ : ByteArray) (⟨#[]⟩ : ByteArray) [])) (0 : Int)) fun i6 =>
 some (a1.kind, a1.text, a1.trail, i6)) else none
theorem F35_ok {w0 : World} (hG : Globs w0) : ∀ (fuel : Nat), ∀ (a1 : Tree) {r : Int × ByteArray × ByteArray × List Tree} (e0 : F35 fuel a1 = some r), Fn w0 prog 35 [.agg [sI a1.kind, sS a1.text, sS a1.trail, .isl .node a1.kids]] [] (fun s H => s = .agg [sI r.1, sS r.2.1, sS r.2.2.1, .isl .node r.2.2.2] ∧ H = []) := by
 intro fuel
 induction fuel with
 | zero => intro a1 r e0; cases e0
 | succ fuel ih =>
 intro a1 r e0
 rw [F35] at e0
 refine fn_intro2 26 [.cell 2 24] func35 rfl rfl rfl rfl fun X hX F => ?_
 refine C_turn (T_start [(0, .agg [sI a1.kind, sS a1.text, sS a1.trail, .isl .node a1.kids])] rfl (F) rfl) ?_
 refine gs ?_
 refine W rfl (O_box rfl rfl fun b2 => ?_)
 refine W rfl (O_alloc tyZ_24 rfl fun b3 => ?_)
 refine go ?_
 refine gs ?_
 obtain ⟨h4, e0⟩ := req_e e0
 refine W rfl (O_make (by_ := 64) (k := .node) (Tree.mk (0 : Int) (⟨#[]⟩ : ByteArray) (⟨#[]⟩ : ByteArray) []) tyE_22 tyZ_24 (RepImpL.cons (RepImp.refl _) (RepImpL.cons (RepImp.refl _) (RepImpL.cons (RepImp.refl _) (RepImpL.cons (RepImp.nil .node) RepImpL.nil)))) rfl rfl h4 fun q5 => ?_)
 refine go ?_
 obtain ⟨i6,e1,e0⟩:=be e0
 refine C_cut (ι := List Tree × Hnd) (fun i => [(1, sP b2 0), (2, sP b3 0), (3, .val (sl i.2))]) (fun i => bx1 b2 a1.kind a1.text a1.trail a1.kids :: boxA b3 24 [sI (0 : Int), sS (⟨#[]⟩ : ByteArray), sS (⟨#[]⟩ : ByteArray), .val (.slice none 0 0)] :: ownA (sl i.2) 24 .node i.1 :: F) (fun i => i6 = i.1) ?_ ?_
 refine gs ?_
 refine C_loopF (κ := (List Tree × Int) × Hnd) (fun d => [(1, sP b2 0), (2, sP b3 0), (3, .val (sl d.2)), (11, .isl .node a1.kids), (12, sI (a1.kids.length : Int)), (13, sI d.1.2)]) (fun d => bx1 b2 a1.kind a1.text a1.trail a1.kids :: boxA b3 24 [sI (0 : Int), sS (⟨#[]⟩ : ByteArray), sS (⟨#[]⟩ : ByteArray), .val (.slice none 0 0)] :: ownA (sl d.2) 24 .node d.1.1 :: F) (fun n d => F35_l7 (F35 fuel) fuel a1 n d.1.1 d.1.2) i6 fuel (((List.replicate ((0 : Int)).toNat (Tree.mk (0 : Int) (⟨#[]⟩ : ByteArray) (⟨#[]⟩ : ByteArray) [])), (0 : Int)), q5) e1 (tl [2, 1, 0] 0 rfl rfl) (fun _ => rfl) ?_
 rintro n ⟨⟨y17, y18⟩, q19⟩ hF
 have e1 : F35_l7 (F35 fuel) fuel a1 (n + 1) y17 y18 = some i6 := hF
 rw [F35_l7] at e1
 clear hF
 refine gs ?_
 refine C_seq ?_
 refine C_cd rfl e1 (fun e1 => ?_) (fun e1 => ?_)
 refine go ?_
 refine gs ?_
 refine gs ?_
 obtain ⟨x21,w21,e1⟩:=be e1
 refine W rfl (O_indexAddr (k := .node) (z := x21) tyL_22 rfl rfl (idx_e w21).1 (idx_e w21).2 ?_)
 refine W rfl (O_load_ipt_all (k := .node) tyA_24 rfl ?_)
 refine W rfl (O_alloc tyZ_24 rfl fun b22 => ?_)
 refine Wn (S_any [sI x21.kind, sS x21.text, sS x21.trail, .isl .node x21.kids] tyS_24 rfl rfl rfl rfl (Nat.le_of_ble_eq_true rfl) rfl ?_)
 refine go ?_
 obtain ⟨r23,hr23,e1⟩:=be e1
 refine W rfl (O_callP fn_35 rfl (ih x21 hr23) ?_)
 refine W rfl (A_build 24 64 .node [(Tree.mk r23.1 r23.2.1 r23.2.2.1 r23.2.2.2)] (ss := [(0, .agg [sI r23.1, sS r23.2.1, sS r23.2.2.1, .isl .node r23.2.2.2])]) tyE_22 tyZ_24 rfl rfl rfl rfl rfl rfl fun q24 => ?_)
 obtain ⟨h25, e1⟩ := req_e e1
 refine W rfl (A_own (k := .node) (by_ := 64) tyE_22 rfl rfl rfl rfl h25 fun q26 => ?_)
 refine go ?_
 obtain ⟨x27,w27,e1⟩:=be e1
 refine W rfl (O_arI rfl rfl rfl (ck_e w27).2 (W_re (congrArg sI (ck_e w27).1) ?_))
 refine go ?_
 exact jmpL (((y17 ++ [(Tree.mk r23.1 r23.2.1 r23.2.2.1 r23.2.2.2)]), x27), q26) e1 (tl [1, 1, 1] 1 rfl rfl)
 refine go ?_
 obtain rfl := so e1
 exact jmp (y17, q19) rfl (tl [0, 0, 0] 0 rfl rfl)
 rintro ⟨z, q28⟩ hi
 subst hi
 refine gs ?_
 refine Wn (S_one [sI a1.kind, sS a1.text, sS a1.trail, .val (sl q28)] tyS_22 rfl rfl rfl rfl rfl ?_)
 refine go ?_
 refine gs ?_
 refine Wn (S_any [sI a1.kind, sS a1.text, sS a1.trail, .val (sl q28)] tyS_24 rfl rfl rfl rfl (Nat.le_of_ble_eq_true rfl) rfl ?_)
 refine go ?_
 obtain rfl := so e0
 refine go ?_
 exact ret_ok (Turn.trans (T_sel [1, 1] 1 (bx2 b3 a1.kind a1.text a1.trail q28 :: ownA (sl q28) 24 .node i6 :: F) rfl) (Turn.trans (T_freezeB (sl q28) (k := .node) (.cons 25 rfl (.agg (.cons (.same _) (.cons (.same _) (.cons (.same _) (.cons .here .nil))))) (.cons 23 rfl .here (.cons 3 rfl .here .nil))) (b := b3) (ThawL.cons (.same _) (ThawL.cons (.same _) (ThawL.cons (.same _) (ThawL.cons .here ThawL.nil))))) (T_le (E' := [(2, sP b3 0)]) (M' := bx1 b3 a1.kind a1.text a1.trail i6 :: F) (.mk [0] 0 rfl ⟨rfl, trivial⟩)))) [] 1 [.agg [sI a1.kind, sS a1.text, sS a1.trail, .isl .node i6]] [] (.agg (t := 2) b3 4 [sI a1.kind, sS a1.text, sS a1.trail, .isl .node i6] tyA_24 rfl rfl .nil) rfl ⟨rfl, rfl⟩
def F34_l27 (self : List Tree → List Int → List Int → List (List Int) → Tree → Int → Option (List Tree × List Int × List Int × List (List Int) × Int)) (fuel : Nat) (a3 : List Tree) (a11 : Tree) : Nat → List Tree → List Int → List Int → List (List Int) → Int → Option (List Tree × List Int × List Int × List (List Int))
 | 0, _, _, _, _, _ => none
 | n + 1, y44, y45, y46, y47, y48 =>
 bif (decide (y48 < (a11.kids.length : Int))) then (
 (idx a11.kids y48).bind fun x55 =>
 (self y44 y45 y46 y47 x55 (a3.length : Int)).bind fun r57 =>
 (idx r57.2.2.2.1 (a3.length : Int)).bind fun x64 =>
 if ((x64).length + ([r57.2.2.2.2]).length) * 8 ≤ 140737488355328 then (
 (ck (y48 + (1 : Int))).bind fun x67 =>
 F34_l27 self fuel a3 a11 n r57.1 r57.2.1 r57.2.2.1 (r57.2.2.2.1.set ((a3.length : Int)).toNat (x64 ++ [r57.2.2.2.2])) x67) else none) else (
 some (y44, y45, y46, y47))
def F34 : Nat → List Tree → List Int → List Int → List (List Int) → Tree → Int → Option (List Tree × List Int × List Int × List (List Int) × Int)
 | 0, _, _, _, _, _, _ => none
 | fuel + 1, a3, a5, a7, a10, a11, a12 =>
 if ((a3).length + ([a11]).length) * 64 ≤ 140737488355328 then (
 if ((a5).length + ([a12]).length) * 8 ≤ 140737488355328 then (
 if ((a7).length + ([(0 : Int)]).length) * 8 ≤ 140737488355328 then (
 if ((a10).length + 1) * 24 ≤ 140737488355328 then (
 Option.bind (α := List Tree × List Int × List Int × List (List Int)) (
 F34_l27 (F34 fuel) fuel a3 a11 fuel (a3 ++ [a11]) (a5 ++ [a12]) (a7 ++ [(0 : Int)]) (a10 ++ [[]]) (0 : Int)) fun i26 =>
 (ck ((i26.1.length : Int) - (a3.length : Int))).bind fun x73 =>
 (idx i26.2.2.1 (a3.length : Int)).bind fun x74 =>
 some (i26.1, i26.2.1, (i26.2.2.1.set ((a3.length : Int)).toNat x73), i26.2.2.2, (a3.length : Int))) else none) else none) else none) else none
theorem F34_ok {w0 : World} (hG : Globs w0) : ∀ (fuel : Nat), ∀ (a3 : List Tree) (a5 : List Int) (a7 : List Int) (a10 : List (List Int)) (a11 : Tree) (a12 : Int) (b1 : Nat) (q2 : Hnd) (q4 : Hnd) (q6 : Hnd) (q8 : Hnd) (q9 : List Hnd) {r : List Tree × List Int × List Int × List (List Int) × Int} (e0 : F34 fuel a3 a5 a7 a10 a11 a12 = some r), Fn w0 prog 34 [sP b1 0, .agg [sI a11.kind, sS a11.text, sS a11.trail, .isl .node a11.kids], sI a12] [bx3 b1 q2 q4 q6 q8, ownA (sl q2) 24 .node a3, ownA (sl q4) 3 .int a5, ownA (sl q6) 3 .int a7, own2A (sl q8) 28 3 .int q9 a10] (fun s H => ∃ k0 : Hnd, ∃ k1 : Hnd, ∃ k2 : Hnd, ∃ k3 : Hnd, ∃ k4 : List Hnd, s = sI r.2.2.2.2 ∧ H = [bx3 b1 k0 k1 k2 k3, ownA (sl k0) 24 .node r.1, ownA (sl k1) 3 .int r.2.1, ownA (sl k2) 3 .int r.2.2.1, own2A (sl k3) 28 3 .int k4 r.2.2.2.1]) := by
 intro fuel
 induction fuel with
 | zero => intro a3 a5 a7 a10 a11 a12 b1 q2 q4 q6 q8 q9 r e0; cases e0
 | succ fuel ih =>
 intro a3 a5 a7 a10 a11 a12 b1 q2 q4 q6 q8 q9 r e0
 rw [F34] at e0
 refine fn_intro2 96 [.tmp 6] func34 rfl rfl rfl rfl fun X hX F => ?_
 refine C_turn (T_start [(0, sP b1 0),(1, .agg [sI a11.kind, sS a11.text, sS a11.trail, .isl .node a11.kids]),(2, sI a12)] rfl (bx3 b1 q2 q4 q6 q8 :: ownA (sl q2) 24 .node a3 :: ownA (sl q4) 3 .int a5 :: ownA (sl q6) 3 .int a7 :: own2A (sl q8) 28 3 .int q9 a10 :: F) rfl) ?_
 refine gs ?_
 refine W rfl (O_box rfl rfl fun b13 => ?_)
 refine go ?_
 refine gs ?_
 refine W rfl (O_len_own tyl_22 rfl ?_)
 refine go ?_
 refine C_seq ?_
 refine C_draw2 [(0,fr),(1,fr),(2,fr),(3,fr),(4,fr),(5,fr),(6,fr),(7,pu),(8,pu),(9,nw),(11,fr),(12,fr),(13,fr),(14,pu),(15,fr),(16,nw),(18,fr),(19,fr),(20,fr),(21,pu),(22,nw),(24,fr),(25,fr),(26,fr),(27,pu),(28,nw),(10, .take),(17, .take),(23, .take),(29, .take),(30,fr),(31,fr),(32, .open_),(33,fr),(34,fr),(35,mn),(36,fr),(37,fr),(38,mn),(39,fr),(40,fr),(41,mn)] [false, false, true, true, true, true] [ownA (sl q2) 24 .node a3, ownA (sl q4) 3 .int a5, ownA (sl q6) 3 .int a7, own2A (sl q8) 28 3 .int q9 a10] (bx1 b13 a11.kind a11.text a11.trail a11.kids :: bx3 b1 q2 q4 q6 q8 :: F) rfl rfl rfl (by kernel_rfl) rfl ?_
 refine gd ?_
 refine D_new rfl rfl ⟨9, Hnd, fun q14 => .val (sl q14), fun q14 => ownA (sl q14) 24 .node [a11]⟩ rfl (fun G => A_build 24 64 .node [a11] (ss := [(0, .agg [sI a11.kind, sS a11.text, sS a11.trail, .isl .node a11.kids])]) tyE_22 tyZ_24 rfl rfl rfl rfl rfl rfl fun q14 => ⟨q14, rfl, rfl⟩) ?_
 refine gd ?_
 refine D_new rfl rfl ⟨16, Hnd, fun q15 => .val (sl q15), fun q15 => ownA (sl q15) 3 .int [a12]⟩ rfl (fun G => A_build 3 8 .int [a12] (ss := [(0, sI a12)]) tyE_28 tyZ_3 rfl rfl rfl rfl rfl rfl fun q15 => ⟨q15, rfl, rfl⟩) ?_
 refine gd ?_
 refine D_new rfl rfl ⟨22, Hnd, fun q16 => .val (sl q16), fun q16 => ownA (sl q16) 3 .int [(0 : Int)]⟩ rfl (fun G => A_build 3 8 .int [(0 : Int)] (ss := [(0, sI (0 : Int))]) tyE_28 tyZ_3 rfl rfl rfl rfl rfl rfl fun q16 => ⟨q16, rfl, rfl⟩) ?_
 refine gd ?_
 refine D_new rfl rfl ⟨28, Hnd, fun q17 => .val (sl q17), fun q17 => ownA (sl q17) 28 .val [sl (none, 0, 0)]⟩ rfl (fun G => A_build 28 24 .val [sl (none, 0, 0)] (ss := [(0, .val (sl (none, 0, 0)))]) tyE_29 tyZ_28 rfl rfl rfl rfl rfl rfl fun q17 => ⟨q17, rfl, rfl⟩) ?_
 obtain ⟨h18, e0⟩ := req_e e0
 refine D_take _ _ rfl rfl rfl (fun q14 => ?_)
 refine D_mainX rfl fun G => A_own (k := .node) (by_ := 64) tyE_22 rfl rfl (lk rfl rfl) (lk rfl rfl) h18 fun q19 => (D_end ?_)
 obtain ⟨h20, e0⟩ := req_e e0
 refine D_take _ _ rfl rfl rfl (fun q15 => ?_)
 refine D_mainX rfl fun G => A_own (k := .int) (by_ := 8) tyE_28 rfl rfl (lk rfl rfl) (lk rfl rfl) h20 fun q21 => (D_end ?_)
 obtain ⟨h22, e0⟩ := req_e e0
 refine D_take _ _ rfl rfl rfl (fun q16 => ?_)
 refine D_mainX rfl fun G => A_own (k := .int) (by_ := 8) tyE_28 rfl rfl (lk rfl rfl) (lk rfl rfl) h22 fun q23 => (D_end ?_)
 obtain ⟨h24, e0⟩ := req_e e0
 refine D_take _ _ rfl rfl rfl (fun q17 => ?_)
 refine D_mainX rfl fun G => A_own2 (k := .int) (xss := a10) (by_ := 24) tyE_29 rfl (lk rfl rfl) (lk rfl rfl) h24 fun q25 => (D_end ?_)
 refine gd ?_
 refine D_open2 (ownA (sl q19) 24 .node (a3 ++ [a11]) :: ownA (sl q21) 3 .int (a5 ++ [a12]) :: ownA (sl q23) 3 .int (a7 ++ [(0 : Int)]) :: own2A (sl q25) 28 3 .int (q9 ++ [nilH]) (a10 ++ [[]]) :: bx1 b13 a11.kind a11.text a11.trail a11.kids :: bx3 b1 q2 q4 q6 q8 :: F) rfl rfl (D_mainX rfl fun G => S_one [.val (sl q19), .val (sl q4), .val (sl q6), .val (sl q8)] tyS_22 (lk rfl rfl) (lk rfl rfl) rfl rfl rfl (D_end ?_))
 refine gd ?_
 refine D_main rfl (D_mainX rfl fun G => S_one [.val (sl q19), .val (sl q21), .val (sl q6), .val (sl q8)] tyS_28 (lk rfl rfl) (lk rfl rfl) rfl rfl rfl (D_end ?_))
 refine gd ?_
 refine D_main rfl (D_mainX rfl fun G => S_one [.val (sl q19), .val (sl q21), .val (sl q23), .val (sl q8)] tyS_28 (lk rfl rfl) (lk rfl rfl) rfl rfl rfl (D_end ?_))
 refine gd ?_
 refine D_main rfl (D_mainX rfl fun G => S_one [.val (sl q19), .val (sl q21), .val (sl q23), .val (sl q25)] tyS_29 (lk rfl rfl) (lk rfl rfl) rfl rfl rfl (D_end ?_))
 refine D_nil0 ?_
 obtain ⟨i26,e1,e0⟩:=be e0
 refine C_cut (ι := (List Tree × List Int × List Int × List (List Int)) × Hnd × Hnd × Hnd × Hnd × List Hnd) (fun i => [(0, sP b1 0),(7, sI (a3.length : Int))]) (fun i => boxA b1 50 [.val (sl i.2.1), .val (sl i.2.2.1), .val (sl i.2.2.2.1), .val (sl i.2.2.2.2.1)] :: ownA (sl i.2.1) 24 .node i.1.1 :: ownA (sl i.2.2.1) 3 .int i.1.2.1 :: ownA (sl i.2.2.2.1) 3 .int i.1.2.2.1 :: own2A (sl i.2.2.2.2.1) 28 3 .int i.2.2.2.2.2 i.1.2.2.2 :: F) (fun i => i26 = i.1) ?_ ?_
 refine gs ?_
 refine C_loopF (κ := (List Tree × List Int × List Int × List (List Int) × Int) × Hnd × Hnd × Hnd × Hnd × List Hnd) (fun d => [(0, sP b1 0),(7, sI (a3.length : Int)),(55, .isl .node a11.kids),(56, sI (a11.kids.length : Int)),(57, sI d.1.2.2.2.2)]) (fun d => boxA b1 50 [.val (sl d.2.1), .val (sl d.2.2.1), .val (sl d.2.2.2.1), .val (sl d.2.2.2.2.1)] :: ownA (sl d.2.1) 24 .node d.1.1 :: ownA (sl d.2.2.1) 3 .int d.1.2.1 :: ownA (sl d.2.2.2.1) 3 .int d.1.2.2.1 :: own2A (sl d.2.2.2.2.1) 28 3 .int d.2.2.2.2.2 d.1.2.2.2.1 :: F) (fun n d => F34_l27 (F34 fuel) fuel a3 a11 n d.1.1 d.1.2.1 d.1.2.2.1 d.1.2.2.2.1 d.1.2.2.2.2) i26 fuel (((a3 ++ [a11]),(a5 ++ [a12]),(a7 ++ [(0 : Int)]),(a10 ++ [[]]),(0 : Int)), q19, q21, q23, q25, (q9 ++ [nilH])) e1 (tl [5, 0, 0, 0, 0] 1 rfl rfl) (fun _ => rfl) ?_
 rintro n ⟨⟨y44, y45, y46, y47, y48⟩, q49, q50, q51, q52, q53⟩ hF
 have e1 : F34_l27 (F34 fuel) fuel a3 a11 (n + 1) y44 y45 y46 y47 y48 = some i26 := hF
 rw [F34_l27] at e1
 clear hF
 refine gs ?_
 refine C_seq ?_
 refine C_cd rfl e1 (fun e1 => ?_) (fun e1 => ?_)
 refine go ?_
 refine gs ?_
 refine gs ?_
 obtain ⟨x55,w55,e1⟩:=be e1
 refine W rfl (O_indexAddr (k := .node) (z := x55) tyL_22 rfl rfl (idx_e w55).1 (idx_e w55).2 ?_)
 refine W rfl (O_load_ipt_all (k := .node) tyA_24 rfl ?_)
 refine W rfl (O_alloc tyZ_24 rfl fun b56 => ?_)
 refine Wn (S_any [sI x55.kind, sS x55.text, sS x55.trail, .isl .node x55.kids] tyS_24 rfl rfl rfl rfl (Nat.le_of_ble_eq_true rfl) rfl ?_)
 refine go ?_
 refine gs ?_
 obtain ⟨r57,hr57,e1⟩:=be e1
 refine W rfl (O_call5 (F := bx1 b56 x55.kind x55.text x55.trail x55.kids :: F) fn_34 rfl (ih y44 y45 y46 y47 x55 (a3.length : Int) b1 q49 q50 q51 q52 q53 hr57) (sel_perm [1, 1, 1, 1, 1] _) fun q58 q59 q60 q61 q62 => ?_)
 refine go ?_
 refine C_draw2 [(0,fr),(1,fr),(2,fr),(3,pu),(4,fr),(5,fr),(6,fr),(7,fr),(8,pu),(9,fr),(12,fr),(13,nw),(10,mn),(11,mn),(14, .take),(15,mn),(16,mn)] [false, false, false, false, true, false] [own2A (sl q61) 28 3 .int q62 r57.2.2.2.1] (bx3 b1 q58 q59 q60 q61 :: ownA (sl q58) 24 .node r57.1 :: ownA (sl q59) 3 .int r57.2.1 :: ownA (sl q60) 3 .int r57.2.2.1 :: bx1 b56 x55.kind x55.text x55.trail x55.kids :: F) rfl rfl rfl (by kernel_rfl) rfl ?_
 refine gd ?_
 refine D_new rfl rfl ⟨13, Hnd, fun q63 => .val (sl q63), fun q63 => ownA (sl q63) 3 .int [r57.2.2.2.2]⟩ rfl (fun G => A_build 3 8 .int [r57.2.2.2.2] (ss := [(0, sI r57.2.2.2.2)]) tyE_28 tyZ_3 rfl rfl rfl rfl rfl rfl fun q63 => ⟨q63, rfl, rfl⟩) ?_
 obtain ⟨x64,w64,e1⟩:=be e1
 refine D_main rfl (D_mainX rfl fun G => O_idx_own2 tyL_29 (lk rfl rfl) (lk rfl rfl) (idx_lt w64).1 (idx_lt w64).2 (D_end ?_))
 refine D_main rfl (D_mainX rfl fun G => O_load_row2 (i := ((a3.length : Int)).toNat) ty1_28 (lk rfl rfl) rfl (idx_e w64).2 (D_end ?_))
 obtain ⟨h65, e1⟩ := req_e e1
 refine D_take _ _ rfl rfl rfl (fun q63 => ?_)
 refine D_mainX rfl fun G => A_sub_own (i := ((a3.length : Int)).toNat) (k := .int) (xs := x64) (by_ := 8) tyE_28 rfl rfl (lk rfl rfl) (lk rfl rfl) (idx_e w64).2 h65 fun q66 => (D_end ?_)
 refine D_main rfl (D_mainX rfl fun G => O_idx_own2H tyL_29 (lk rfl rfl) (lk rfl rfl) (idx_lt w64).1 (idx_lt w64).2 (D_end ?_))
 refine D_main rfl (D_mainX rfl fun G => O_store_own2 tyS_28 (lk rfl rfl) (lk rfl rfl) rfl (D_end ?_))
 refine D_nil ?_
 refine go ?_
 obtain ⟨x67,w67,e1⟩:=be e1
 refine W rfl (O_arI rfl rfl rfl (ck_e w67).2 (W_re (congrArg sI (ck_e w67).1) ?_))
 refine go ?_
 exact jmpL ((r57.1, r57.2.1, r57.2.2.1, (r57.2.2.2.1.set ((a3.length : Int)).toNat (x64 ++ [r57.2.2.2.2])), x67), q58, q59, q60, q61, (q62.set ((a3.length : Int)).toNat q66)) e1 (tl [1, 1, 1, 1, 0] 1 rfl rfl)
 refine go ?_
 obtain rfl := so e1
 exact jmp ((y44, y45, y46, y47), q49, q50, q51, q52, q53) rfl (tl [0, 0, 0, 0, 0] 0 rfl rfl)
 rintro ⟨z, q68, q69, q70, q71, q72⟩ hi
 subst hi
 refine C_seq ?_
 refine C_draw2 [(0,fr),(1,fr),(2,fr),(3,pu),(4,fr),(5,fr),(6,fr),(7,fr),(8,pu),(9,pu),(10,fr),(11,fr),(12,pu),(13, .open_)] [false, false, false, false, false] [] (bx3 b1 q68 q69 q70 q71 :: ownA (sl q68) 24 .node i26.1 :: ownA (sl q69) 3 .int i26.2.1 :: ownA (sl q70) 3 .int i26.2.2.1 :: own2A (sl q71) 28 3 .int q72 i26.2.2.2 :: F) rfl rfl rfl (by kernel_rfl) rfl ?_
 refine gd ?_
 refine D_pure rfl rfl (fun G => O_len_own tyl_22 (lk rfl rfl) ⟨rfl, rfl⟩) ?_
 refine gd ?_
 obtain ⟨x73,w73,e0⟩:=be e0
 refine D_free rfl rfl (fun G => O_arI (lk rfl rfl) (lk rfl rfl) rfl (ck_e w73).2 ⟨rfl, rfl⟩) (D_re (congrArg sI (ck_e w73).1) ?_)
 obtain ⟨x74,w74,e0⟩:=be e0
 refine D_pure rfl rfl (fun G => O_indexAddr_own (k := .int) tyL_28 (lk rfl rfl) (lk rfl rfl) (idx_lt w74).1 (idx_lt w74).2 ⟨rfl, rfl⟩) ?_
 refine D_open2 (bx3 b1 q68 q69 q70 q71 :: ownA (sl q68) 24 .node i26.1 :: ownA (sl q69) 3 .int i26.2.1 :: ownA (sl q70) 3 .int i26.2.2.1 :: own2A (sl q71) 28 3 .int q72 i26.2.2.2 :: F) rfl rfl (D_mainX rfl fun G => O_store_opt (k := .int) (i := ((a3.length : Int)).toNat) (j := 0) (z' := x73) tyS_3 (lk rfl rfl) (lk rfl rfl) rfl rfl rfl (idx_e w74).2 rfl (by decide) (D_end ?_))
 refine D_nil0 ?_
 refine gs ?_
 obtain rfl := so e0
 refine go ?_
 exact rt [0, 0, 0, 0, 0] 0 ⟨q68, q69, q70, q71, q72, rfl, rfl⟩ rfl rfl
def F23 (fuel : Nat) (a1 : Tree) : Option (List Tree × List Int × List Int × List (List Int)) :=
 (F35 fuel a1).bind fun r5 =>
 (F34 fuel ([] : List Tree) ([] : List Int) ([] : List Int) ([] : List (List Int)) (Tree.mk r5.1 r5.2.1 r5.2.2.1 r5.2.2.2) (-1 : Int)).bind fun r6 =>
 some (r6.1, r6.2.1, r6.2.2.1, r6.2.2.2.1)
theorem F23_ok {w0 : World} (hG : Globs w0) (fuel : Nat) : ∀ (a1 : Tree) {r : List Tree × List Int × List Int × List (List Int)} (e0 : F23 fuel a1 = some r), Fn w0 prog 23 [.agg [sI a1.kind, sS a1.text, sS a1.trail, .isl .node a1.kids]] [] (fun s H => s = .agg [.isl .node r.1, .isl .int r.2.1, .isl .int r.2.2.1, .isl .ints r.2.2.2] ∧ H = []) := by
 intro a1 r e0
 rw [F23] at e0
 refine fn_intro2 8 [.cell 2 50] func23 rfl rfl rfl rfl fun X hX F => ?_
 refine C_turn (T_start [(0, .agg [sI a1.kind, sS a1.text, sS a1.trail, .isl .node a1.kids])] rfl (F) rfl) ?_
 refine gs ?_
 refine W rfl (O_box rfl rfl fun b2 => ?_)
 refine W rfl (O_alloc tyZ_50 rfl fun b3 => ?_)
 refine go ?_
 refine gs ?_
 refine W rfl (O_alloc tyZ_50 rfl fun b4 => ?_)
 refine go ?_
 refine gs ?_
 obtain ⟨r5,hr5,e0⟩:=be e0
 refine W rfl (O_callP fn_35 rfl (F35_ok hG fuel a1 hr5) ?_)
 refine W_turn (T_nil 24 .node) ?_
 refine W_turn (T_nil 3 .int) ?_
 refine W_turn (T_nil 3 .int) ?_
 refine W_turn (T_nil2 28 3 .int) ?_
 obtain ⟨r6,hr6,e0⟩:=be e0
 refine W rfl (O_call5 (F := boxA b3 50 [.val (.slice none 0 0), .val (.slice none 0 0), .val (.slice none 0 0), .val (.slice none 0 0)] :: bx1 b2 a1.kind a1.text a1.trail a1.kids :: F) fn_34 rfl (F34_ok hG fuel ([] : List Tree) ([] : List Int) ([] : List Int) ([] : List (List Int)) (Tree.mk r5.1 r5.2.1 r5.2.2.1 r5.2.2.2) (-1 : Int) b4 (none, 0, 0) (none, 0, 0) (none, 0, 0) (none, 0, 0) ([] : List Hnd) hr6) (sel_perm [4, 3, 2, 1, 0] _) fun q7 q8 q9 q10 q11 => ?_)
 refine go ?_
 refine gs ?_
 refine Wn (S_any [.val (sl q7), .val (sl q8), .val (sl q9), .val (sl q10)] tyS_50 rfl rfl rfl rfl (Nat.le_of_ble_eq_true rfl) rfl ?_)
 refine go ?_
 obtain rfl := so e0
 refine go ?_
 exact ret_ok (Turn.trans (T_sel [1, 1, 1, 1, 1] 2 (ownA (sl q7) 24 .node r6.1 :: ownA (sl q8) 3 .int r6.2.1 :: ownA (sl q9) 3 .int r6.2.2.1 :: own2A (sl q10) 28 3 .int q11 r6.2.2.2.1 :: bx3 b3 q7 q8 q9 q10 :: F) rfl) (Turn.trans (T_freezeB (sl q7) (k := .node) (.cons 7 rfl (.agg (.cons .here (.cons (.same _) (.cons (.same _) (.cons (.same _) .nil))))) .nil) (b := b3) (ThawL.cons .here (ThawL.cons (.same _) (ThawL.cons (.same _) (ThawL.cons (.same _) ThawL.nil))))) (Turn.trans (T_freezeB (sl q8) (k := .int) (.cons 7 rfl (.agg (.cons (.same _) (.cons .here (.cons (.same _) (.cons (.same _) .nil))))) .nil) (b := b3) (ThawL.cons (.same _) (ThawL.cons .here (ThawL.cons (.same _) (ThawL.cons (.same _) ThawL.nil))))) (Turn.trans (T_freezeB (sl q9) (k := .int) (.cons 7 rfl (.agg (.cons (.same _) (.cons (.same _) (.cons .here (.cons (.same _) .nil))))) .nil) (b := b3) (ThawL.cons (.same _) (ThawL.cons (.same _) (ThawL.cons .here (ThawL.cons (.same _) ThawL.nil))))) (Turn.trans (T_freezeB2 (sl q10) (.cons 7 rfl (.agg (.cons (.same _) (.cons (.same _) (.cons (.same _) (.cons .here .nil))))) .nil) (b := b3) (ThawL.cons (.same _) (ThawL.cons (.same _) (ThawL.cons (.same _) (ThawL.cons .here ThawL.nil))))) (T_le (E' := [(2, sP b3 0)]) (M' := bx4 b3 r6.1 r6.2.1 r6.2.2.1 r6.2.2.2.1 :: F) (.mk [0] 0 rfl ⟨rfl, trivial⟩))))))) [] 1 [.agg [.isl .node r6.1, .isl .int r6.2.1, .isl .int r6.2.2.1, .isl .ints r6.2.2.2.1]] [] (.agg (t := 2) b3 4 [.isl .node r6.1, .isl .int r6.2.1, .isl .int r6.2.2.1, .isl .ints r6.2.2.2.1] tyA_50 rfl rfl .nil) rfl ⟨rfl, rfl⟩
def F24_l290 (fuel : Nat) (x289 : List Int) (y286 : Int) : Nat → List (List Int) → (List (Int × Int)) → Int → Option (List (List Int) × (List (Int × Int)))
 | 0, _, _, _ => none
 | n + 1, y297, y298, y299 =>
 bif (decide (y299 < (x289.length : Int))) then (
 (idx y297 y286).bind fun x301 =>
 (idx x301 y299).bind fun x302 =>
 Option.bind (α := (List (Int × Int)) × Int) (
 bif (!((mget y298 x302).isSome)) then (
 some ((mput y298 x302 (y298.length : Int)), (y298.length : Int))) else (
 some (y298, ((mget y298 x302).getD (0 : Int))))) fun i303 =>
 (ck (y299 + (1 : Int))).bind fun x305 =>
 F24_l290 fuel x289 y286 n (y297.set (y286).toNat (x301.set (y299).toNat i303.2)) i303.1 x305) else (
 some (y297, y298))
def F24_l262 (fuel : Nat) (i4 : List (List Int)) : Nat → List (List Int) → (List (Int × Int)) → Int → Option (List (List Int))
 | 0, _, _, _ => none
 | n + 1, y284, y285, y286 =>
 bif (decide (y286 < (i4.length : Int))) then (
 Option.bind (α := List (List Int) × (List (Int × Int))) (
 (idx y284 y286).bind fun x289 =>
 F24_l290 fuel x289 y286 fuel y284 y285 (0 : Int)) fun i288 =>
 (ck (y286 + (1 : Int))).bind fun x306 =>
 F24_l262 fuel i4 n i288.1 i288.2 x306) else (
 some y284)
def F24_l229 (fuel : Nat) (x228 : List Int) (y199 : List Int) : Nat → List UInt8 → Int → Option (List UInt8)
 | 0, _, _ => none
 | n + 1, y238, y239 =>
 bif (decide (y239 < (x228.length : Int))) then (
 (idx x228 y239).bind fun x241 =>
 (idx y199 x241).bind fun x242 =>
 (ck x242).bind fun x243 =>
 if ((((⟨#[44]⟩ : ByteArray)).size + ((itoaB x242)).size : Nat) : Int) ≤ 9223372036854775807 then (
 if (y238).length + (((⟨#[44]⟩ : ByteArray) ++ (itoaB x242))).size ≤ 140737488355328 then (
 (ck (y239 + (1 : Int))).bind fun x246 =>
 F24_l229 fuel x228 y199 n (y238 ++ (((⟨#[44]⟩ : ByteArray) ++ (itoaB x242))).data.toList) x246) else none) else none) else (
 some y238)
def F24_l209 (fuel : Nat) (x203 : Tree) : Nat → List UInt8 → Int → Option (List UInt8)
 | 0, _, _ => none
 | n + 1, y218, y219 =>
 bif (decide (y219 < ([(itoaB x203.kind), x203.text, x203.trail].length : Int))) then (
 (idx [(itoaB x203.kind), x203.text, x203.trail] y219).bind fun x221 =>
 (ck (x221.size : Int)).bind fun x222 =>
 if ((((itoaB (x221.size : Int))).size + ((⟨#[58]⟩ : ByteArray)).size : Nat) : Int) ≤ 9223372036854775807 then (
 if (((((itoaB (x221.size : Int)) ++ (⟨#[58]⟩ : ByteArray))).size + (x221).size : Nat) : Int) ≤ 9223372036854775807 then (
 if (y218).length + ((((itoaB (x221.size : Int)) ++ (⟨#[58]⟩ : ByteArray)) ++ x221)).size ≤ 140737488355328 then (
 (ck (y219 + (1 : Int))).bind fun x226 =>
 F24_l209 fuel x203 n (y218 ++ ((((itoaB (x221.size : Int)) ++ (⟨#[58]⟩ : ByteArray)) ++ x221)).data.toList) x226) else none) else none) else none) else (
 some y218)
def F24_l145 (fuel : Nat) (r139 : List Tree × List Int × List Int × List (List Int)) : Nat → (List (ByteArray × Int)) → List Int → Int → Option ((List (ByteArray × Int)) × List Int)
 | 0, _, _, _ => none
 | n + 1, y198, y199, y200 =>
 bif (decide (y200 ≥ (0 : Int))) then (
 Option.bind (α := (List (ByteArray × Int)) × List Int) (
 (idx r139.1 y200).bind fun x203 =>
 Option.bind (α := List UInt8) (
 (ck x203.kind).bind fun x207 =>
 F24_l209 fuel x203 fuel ([] : List UInt8) (0 : Int)) fun i206 =>
 Option.bind (α := List UInt8) (
 (idx r139.2.2.2 y200).bind fun x228 =>
 F24_l229 fuel x228 y199 fuel i206 (0 : Int)) fun i227 =>
 if (i227) ≠ [] then (
 Option.bind (α := (List (ByteArray × Int)) × Int) (
 bif (!((mget y198 (⟨(i227).toArray⟩ : ByteArray)).isSome)) then (
 some ((mput y198 (⟨(i227).toArray⟩ : ByteArray) (y198.length : Int)), (y198.length : Int))) else (
 some (y198, ((mget y198 (⟨(i227).toArray⟩ : ByteArray)).getD (0 : Int))))) fun i248 =>
 (idx y199 y200).bind fun x250 =>
 some (i248.1, (y199.set (y200).toNat i248.2))) else none) fun i202 =>
 (ck (y200 - (1 : Int))).bind fun x251 =>
 F24_l145 fuel r139 n i202.1 i202.2 x251) else (
 some (y198, y199))
def F24_l5 (fuel : Nat) (a2 : List Tree) : Nat → (List (ByteArray × Int)) → List (List Int) → Int → Option (List (List Int))
 | 0, _, _, _ => none
 | n + 1, y130, y131, y132 =>
 bif (decide (y132 < (a2.length : Int))) then (
 Option.bind (α := (List (ByteArray × Int)) × List (List Int)) (
 (idx a2 y132).bind fun x137 =>
 (F23 fuel x137).bind fun r139 =>
 if 0 ≤ (r139.1.length : Int) ∧ (r139.1.length : Int) ≤ (r139.1.length : Int) ∧ (8 : Int) * (r139.1.length : Int) ≤ 281474976710656 ∧ (r139.1.length : Int) ≤ 1000000000 then (
 Option.bind (α := (List (ByteArray × Int)) × List Int) (
 (ck (((List.replicate ((r139.1.length : Int)).toNat (0 : Int)).length : Int) - (1 : Int))).bind fun x144 =>
 F24_l145 fuel r139 fuel y130 (List.replicate ((r139.1.length : Int)).toNat (0 : Int)) x144) fun i143 =>
 if ((y131).length + 1) * 24 ≤ 140737488355328 then (
 some (i143.1, (y131 ++ [i143.2]))) else none) else none) fun i136 =>
 (ck (y132 + (1 : Int))).bind fun x257 =>
 F24_l5 fuel a2 n i136.1 i136.2 x257) else (
 some y131)
def F24 (fuel : Nat) (a2 : List Tree) : Option (List (List Int)) :=
 Option.bind (α := List (List Int)) (
 F24_l5 fuel a2 fuel [] [] (0 : Int)) fun i4 =>
 Option.bind (α := List (List Int)) (
 F24_l262 fuel i4 fuel i4 [] (0 : Int)) fun i261 =>
 some i261
theorem F24_ok {w0 : World} (hG : Globs w0) (fuel : Nat) : ∀ (a2 : List Tree) (q1 : Hnd) {r : List (List Int)} (e0 : F24 fuel a2 = some r), Fn w0 prog 24 [.val (sl q1)] [ownA (sl q1) 24 .node a2] (fun s H => s = .isl .ints r ∧ H = [ownA (sl q1) 24 .node a2]) := by
 intro a2 q1 r e0
 rw [F24] at e0
 refine fn_intro2 145 [.tmp 2] func24 rfl rfl rfl rfl fun X hX F => ?_
 refine C_turn (T_start [(0, .val (sl q1))] rfl (ownA (sl q1) 24 .node a2 :: F) rfl) ?_
 refine gs ?_
 refine gs ?_
 refine W rfl (O_makeMap (fun s : ByteArray => Value.string s) (fun n : Int => Value.int .i64 n) fun b3 => ?_)
 refine go ?_
 refine gs ?_
 obtain ⟨i4,e1,e0⟩:=be e0
 refine C_cut (ι := List (List Int) × Hnd × List Hnd) (fun i => [(4, .val (sl i.2.1))]) (fun i => ownA (sl q1) 24 .node a2 :: own2A (sl i.2.1) 28 3 .int i.2.2 i.1 :: F) (fun i => i4 = i.1) ?_ ?_
 refine gs ?_
 refine W rfl (O_len_own tyl_22 rfl ?_)
 refine go ?_
 refine C_loopF (κ := ((List (ByteArray × Int)) × List (List Int) × Int) × Hnd × List Hnd) (fun d => [(3, .val (.map (some b3))),(4, .val (sl d.2.1)),(26, .val (sl q1)),(27, sI (a2.length : Int)),(28, sI d.1.2.2)]) (fun d => ownA (sl q1) 24 .node a2 :: mapA b3 (fun s : ByteArray => Value.string s) (fun n : Int => Value.int .i64 n) d.1.1 :: own2A (sl d.2.1) 28 3 .int d.2.2 d.1.2.1 :: F) (fun n d => F24_l5 fuel a2 n d.1.1 d.1.2.1 d.1.2.2) i4 fuel (([], [], (0 : Int)),(none, 0, 0),([] : List Hnd)) e1 (Turn.trans (T_nil2 28 3 .int) (tl [2, 1, 0] 0 rfl rfl)) (fun _ => rfl) ?_
 rintro n ⟨⟨y130, y131, y132⟩, q133, q134⟩ hF
 have e1 : F24_l5 fuel a2 (n + 1) y130 y131 y132 = some i4 := hF
 rw [F24_l5] at e1
 clear hF
 refine gs ?_
 refine C_seq ?_
 refine C_cd rfl e1 (fun e1 => ?_) (fun e1 => ?_)
 refine go ?_
 obtain ⟨i136,e2,e1⟩:=be e1
 refine C_cut (ι := ((List (ByteArray × Int)) × List (List Int)) × Hnd × List Hnd) (fun i => [(3, .val (.map (some b3))),(4, .val (sl i.2.1)),(26, .val (sl q1)),(27, sI (a2.length : Int)),(28, sI y132)]) (fun i => ownA (sl q1) 24 .node a2 :: mapA b3 (fun s : ByteArray => Value.string s) (fun n : Int => Value.int .i64 n) i.1.1 :: own2A (sl i.2.1) 28 3 .int i.2.2 i.1.2 :: F) (fun i => i136 = i.1) ?_ ?_
 refine go ?_
 refine gs ?_
 obtain ⟨x137,w137,e2⟩:=be e2
 refine W rfl (O_indexAddr_own (k := .node) tyL_22 rfl rfl (idx_lt w137).1 (idx_lt w137).2 ?_)
 refine W rfl (O_load_opt_all (k := .node) (i := (y132).toNat) tyA_24 rfl rfl (idx_e w137).2 ?_)
 refine W rfl (O_alloc tyZ_24 rfl fun b138 => ?_)
 refine Wn (S_any [sI x137.kind, sS x137.text, sS x137.trail, .isl .node x137.kids] tyS_24 rfl rfl rfl rfl (Nat.le_of_ble_eq_true rfl) rfl ?_)
 refine go ?_
 refine gs ?_
 obtain ⟨r139,hr139,e2⟩:=be e2
 refine W rfl (O_callP fn_23 rfl (F23_ok hG fuel x137 hr139) ?_)
 refine W rfl (O_alloc tyZ_50 rfl fun b140 => ?_)
 refine Wn (S_any [.isl .node r139.1, .isl .int r139.2.1, .isl .int r139.2.2.1, .isl .ints r139.2.2.2] tyS_50 rfl rfl rfl rfl (Nat.le_of_ble_eq_true rfl) rfl ?_)
 refine go ?_
 refine gs ?_
 obtain ⟨h141, e2⟩ := req_e e2
 refine W rfl (O_make (by_ := 8) (k := .int) (0 : Int) tyE_28 tyZ_3 (RepImpL.cons (RepImp.refl _) RepImpL.nil) rfl rfl h141 fun q142 => ?_)
 refine go ?_
 obtain ⟨i143,e3,e2⟩:=be e2
 refine C_cut (ι := ((List (ByteArray × Int)) × List Int)) (fun i => [(3, .val (.map (some b3))),(4, .val (sl q133)),(8, .val (sl q142)),(26, .val (sl q1)),(27, sI (a2.length : Int)),(28, sI y132)]) (fun i => ownA (sl q1) 24 .node a2 :: mapA b3 (fun s : ByteArray => Value.string s) (fun n : Int => Value.int .i64 n) i.1 :: own2A (sl q133) 28 3 .int q134 y131 :: ownA (sl q142) 3 .int i.2 :: F) (fun i => i143 = i) ?_ ?_
 refine gs ?_
 refine W rfl (O_len_own tyl_28 rfl ?_)
 obtain ⟨x144,w144,e3⟩:=be e3
 refine W rfl (O_arI rfl rfl rfl (ck_e w144).2 (W_re (congrArg sI (ck_e w144).1) ?_))
 refine go ?_
 refine C_loopF (κ := ((List (ByteArray × Int)) × List Int × Int)) (fun d => [(3, .val (.map (some b3))),(4, .val (sl q133)),(7, sP b140 0),(8, .val (sl q142)),(9, sI d.2.2),(26, .val (sl q1)),(27, sI (a2.length : Int)),(28, sI y132)]) (fun d => ownA (sl q1) 24 .node a2 :: mapA b3 (fun s : ByteArray => Value.string s) (fun n : Int => Value.int .i64 n) d.1 :: own2A (sl q133) 28 3 .int q134 y131 :: bx4 b140 r139.1 r139.2.1 r139.2.2.1 r139.2.2.2 :: ownA (sl q142) 3 .int d.2.1 :: F) (fun n d => F24_l145 fuel r139 n d.1 d.2.1 d.2.2) i143 fuel (y130, (List.replicate ((r139.1.length : Int)).toNat (0 : Int)), x144) e3 (tl [3, 3, 3, 1, 0] 1 rfl rfl) (fun _ => rfl) ?_
 rintro n ⟨y198, y199, y200⟩ hF
 have e3 : F24_l145 fuel r139 (n + 1) y198 y199 y200 = some i143 := hF
 rw [F24_l145] at e3
 clear hF
 refine C_seq ?_
 refine gs ?_
 refine C_cd rfl e3 (fun e3 => ?_) (fun e3 => ?_)
 refine go ?_
 obtain ⟨i202,e4,e3⟩:=be e3
 refine C_cut (ι := ((List (ByteArray × Int)) × List Int)) (fun i => [(3, .val (.map (some b3))),(4, .val (sl q133)),(7, sP b140 0),(8, .val (sl q142)),(9, sI y200),(26, .val (sl q1)),(27, sI (a2.length : Int)),(28, sI y132)]) (fun i => ownA (sl q1) 24 .node a2 :: mapA b3 (fun s : ByteArray => Value.string s) (fun n : Int => Value.int .i64 n) i.1 :: own2A (sl q133) 28 3 .int q134 y131 :: bx4 b140 r139.1 r139.2.1 r139.2.2.1 r139.2.2.2 :: ownA (sl q142) 3 .int i.2 :: F) (fun i => i202 = i) ?_ ?_
 refine go ?_
 refine gs ?_
 obtain ⟨x203,w203,e4⟩:=be e4
 refine W rfl (O_indexAddr (k := .node) (z := x203) tyL_22 rfl rfl (idx_e w203).1 (idx_e w203).2 ?_)
 refine W rfl (O_load_ipt_all (k := .node) tyA_24 rfl ?_)
 refine W rfl (O_alloc tyZ_24 rfl fun b204 => ?_)
 refine Wn (S_any [sI x203.kind, sS x203.text, sS x203.trail, .isl .node x203.kids] tyS_24 rfl rfl rfl rfl (Nat.le_of_ble_eq_true rfl) rfl ?_)
 refine go ?_
 refine gs ?_
 refine W rfl (O_alloc tyZ_65 rfl fun b205 => ?_)
 refine W_turn (T_sb 5) ?_
 refine go ?_
 obtain ⟨i206,e5,e4⟩:=be e4
 refine C_cut (ι := List UInt8) (fun i => [(3, .val (.map (some b3))),(4, .val (sl q133)),(7, sP b140 0),(8, .val (sl q142)),(9, sI y200),(11, sP b205 0),(26, .val (sl q1)),(27, sI (a2.length : Int)),(28, sI y132)]) (fun i => ownA (sl q1) 24 .node a2 :: mapA b3 (fun s : ByteArray => Value.string s) (fun n : Int => Value.int .i64 n) y198 :: own2A (sl q133) 28 3 .int q134 y131 :: bx4 b140 r139.1 r139.2.1 r139.2.2.1 r139.2.2.2 :: ownA (sl q142) 3 .int y199 :: sbA b205 65 5 i :: F) (fun i => i206 = i) ?_ ?_
 refine C_seq ?_
 refine C_draw2 [(0,fr),(1,pu),(3,fr),(4,pu),(5,fr),(6,pu),(9,fr),(2,mn),(7,nw),(8, .take)] [false, false, false, false, false, false, false] [] (sbA b205 65 5 ([] : List UInt8) :: bx1 b204 x203.kind x203.text x203.trail x203.kids :: ownA (sl q1) 24 .node a2 :: mapA b3 (fun s : ByteArray => Value.string s) (fun n : Int => Value.int .i64 n) y198 :: own2A (sl q133) 28 3 .int q134 y131 :: bx4 b140 r139.1 r139.2.1 r139.2.2.1 r139.2.2.2 :: ownA (sl q142) 3 .int y199 :: F) rfl rfl rfl (by kernel_rfl) rfl ?_
 refine gd ?_
 obtain ⟨x207,w207,e5⟩:=be e5
 refine D_main rfl (D_mainX rfl fun G => O_callP fn_36 rfl (P_itoa hG (ck_e w207).2) (D_end ?_))
 refine D_new rfl rfl ⟨7, Hnd, fun q208 => .val (sl q208), fun q208 => ownA (sl q208) 9 .str [(itoaB x203.kind), x203.text, x203.trail]⟩ rfl (fun G => A_build 9 16 .str [(itoaB x203.kind), x203.text, x203.trail] (ss := [(0, sS (itoaB x203.kind)),(1, sS x203.text),(2, sS x203.trail)]) tyE_67 tyZ_9 rfl rfl rfl rfl rfl rfl fun q208 => ⟨q208, rfl, rfl⟩) ?_
 refine D_take _ _ rfl rfl rfl (fun q208 => ?_)
 refine D_mainX rfl fun G => O_len_own tyl_67 (lk rfl rfl) (D_end ?_)
 refine D_nil ?_
 refine go ?_
 refine C_loopF (κ := (List UInt8 × Int)) (fun d => [(3, .val (.map (some b3))),(4, .val (sl q133)),(7, sP b140 0),(8, .val (sl q142)),(9, sI y200),(11, sP b205 0),(26, .val (sl q1)),(27, sI (a2.length : Int)),(28, sI y132),(57, .val (sl q208)),(58, sI ([(itoaB x203.kind), x203.text, x203.trail].length : Int)),(59, sI d.2)]) (fun d => ownA (sl q1) 24 .node a2 :: mapA b3 (fun s : ByteArray => Value.string s) (fun n : Int => Value.int .i64 n) y198 :: own2A (sl q133) 28 3 .int q134 y131 :: bx4 b140 r139.1 r139.2.1 r139.2.2.1 r139.2.2.2 :: ownA (sl q142) 3 .int y199 :: sbA b205 65 5 d.1 :: ownA (sl q208) 9 .str [(itoaB x203.kind), x203.text, x203.trail] :: F) (fun n d => F24_l209 fuel x203 n d.1 d.2) i206 fuel (([] : List UInt8),(0 : Int)) e5 (tl [3, 3, 3, 3, 3, 1, 0] 1 rfl rfl) (fun _ => rfl) ?_
 rintro n ⟨y218, y219⟩ hF
 have e5 : F24_l209 fuel x203 (n + 1) y218 y219 = some i206 := hF
 rw [F24_l209] at e5
 clear hF
 refine gs ?_
 refine C_seq ?_
 refine C_cd rfl e5 (fun e5 => ?_) (fun e5 => ?_)
 refine go ?_
 refine gs ?_
 refine gs ?_
 obtain ⟨x221,w221,e5⟩:=be e5
 refine W rfl (O_indexAddr_own (k := .str) tyL_67 rfl rfl (idx_lt w221).1 (idx_lt w221).2 ?_)
 refine W rfl (O_load_opt (k := .str) (i := (y219).toNat) (j := 0) ty1_9 rfl rfl (idx_e w221).2 rfl ?_)
 refine go ?_
 refine W rfl (O_len_str tys_9 rfl ?_)
 obtain ⟨x222,w222,e5⟩:=be e5
 refine W rfl (O_callP fn_36 rfl (P_itoa hG (ck_e w222).2) ?_)
 obtain ⟨h223, e5⟩ := req_e e5
 refine W rfl (O_cat rfl rfl h223 ?_)
 refine go ?_
 obtain ⟨h224, e5⟩ := req_e e5
 refine W rfl (O_cat rfl rfl h224 ?_)
 obtain ⟨h225, e5⟩ := req_e e5
 refine W rfl (O_call0 (F := ownA (sl q1) 24 .node a2 :: mapA b3 (fun s : ByteArray => Value.string s) (fun n : Int => Value.int .i64 n) y198 :: own2A (sl q133) 28 3 .int q134 y131 :: bx4 b140 r139.1 r139.2.1 r139.2.2.1 r139.2.2.2 :: ownA (sl q142) 3 .int y199 :: ownA (sl q208) 9 .str [(itoaB x203.kind), x203.text, x203.trail] :: F) fn_37 rfl (P_write hG h225) (sel_perm [5] _) ?_)
 refine go ?_
 obtain ⟨x226,w226,e5⟩:=be e5
 refine W rfl (O_arI rfl rfl rfl (ck_e w226).2 (W_re (congrArg sI (ck_e w226).1) ?_))
 refine go ?_
 exact jmpL ((y218 ++ ((((itoaB (x221.size : Int)) ++ (⟨#[58]⟩ : ByteArray)) ++ x221)).data.toList), x226) e5 (tl [1, 1, 1, 1, 1, 0, 0] 0 rfl rfl)
 refine go ?_
 exact jm e5 (tl [0, 0, 0, 0, 0, 0] 1 rfl rfl)
 rintro z hi
 subst hi
 obtain ⟨i227,e5,e4⟩:=be e4
 refine C_cut (ι := List UInt8) (fun i => [(3, .val (.map (some b3))),(4, .val (sl q133)),(7, sP b140 0),(8, .val (sl q142)),(9, sI y200),(11, sP b205 0),(26, .val (sl q1)),(27, sI (a2.length : Int)),(28, sI y132)]) (fun i => ownA (sl q1) 24 .node a2 :: mapA b3 (fun s : ByteArray => Value.string s) (fun n : Int => Value.int .i64 n) y198 :: own2A (sl q133) 28 3 .int q134 y131 :: bx4 b140 r139.1 r139.2.1 r139.2.2.1 r139.2.2.2 :: ownA (sl q142) 3 .int y199 :: sbA b205 65 5 i :: F) (fun i => i227 = i) ?_ ?_
 refine gs ?_
 obtain ⟨x228,w228,e5⟩:=be e5
 refine W rfl (O_indexAddr (k := .ints) (z := x228) tyL_29 rfl rfl (idx_e w228).1 (idx_e w228).2 ?_)
 refine go ?_
 refine C_loopF (κ := (List UInt8 × Int)) (fun d => [(3, .val (.map (some b3))),(4, .val (sl q133)),(7, sP b140 0),(8, .val (sl q142)),(9, sI y200),(11, sP b205 0),(26, .val (sl q1)),(27, sI (a2.length : Int)),(28, sI y132),(75, .isl .int x228),(76, sI (x228.length : Int)),(77, sI d.2)]) (fun d => ownA (sl q1) 24 .node a2 :: mapA b3 (fun s : ByteArray => Value.string s) (fun n : Int => Value.int .i64 n) y198 :: own2A (sl q133) 28 3 .int q134 y131 :: bx4 b140 r139.1 r139.2.1 r139.2.2.1 r139.2.2.2 :: ownA (sl q142) 3 .int y199 :: sbA b205 65 5 d.1 :: F) (fun n d => F24_l229 fuel x228 y199 n d.1 d.2) i227 fuel (i206, (0 : Int)) e5 (tl [0, 0, 0, 0, 0, 0] 0 rfl rfl) (fun _ => rfl) ?_
 rintro n ⟨y238, y239⟩ hF
 have e5 : F24_l229 fuel x228 y199 (n + 1) y238 y239 = some i227 := hF
 rw [F24_l229] at e5
 clear hF
 refine gs ?_
 refine C_seq ?_
 refine C_cd rfl e5 (fun e5 => ?_) (fun e5 => ?_)
 refine go ?_
 refine gs ?_
 refine gs ?_
 obtain ⟨x241,w241,e5⟩:=be e5
 refine W rfl (O_indexAddr (k := .int) (z := x241) tyL_28 rfl rfl (idx_e w241).1 (idx_e w241).2 ?_)
 refine go ?_
 obtain ⟨x242,w242,e5⟩:=be e5
 refine W rfl (O_indexAddr_own (k := .int) tyL_28 rfl rfl (idx_lt w242).1 (idx_lt w242).2 ?_)
 refine W rfl (O_load_opt (k := .int) (i := (x241).toNat) (j := 0) ty1_3 rfl rfl (idx_e w242).2 rfl ?_)
 obtain ⟨x243,w243,e5⟩:=be e5
 refine W rfl (O_callP fn_36 rfl (P_itoa hG (ck_e w243).2) ?_)
 obtain ⟨h244, e5⟩ := req_e e5
 refine W rfl (O_cat rfl rfl h244 ?_)
 obtain ⟨h245, e5⟩ := req_e e5
 refine W rfl (O_call0 (F := ownA (sl q1) 24 .node a2 :: mapA b3 (fun s : ByteArray => Value.string s) (fun n : Int => Value.int .i64 n) y198 :: own2A (sl q133) 28 3 .int q134 y131 :: bx4 b140 r139.1 r139.2.1 r139.2.2.1 r139.2.2.2 :: ownA (sl q142) 3 .int y199 :: F) fn_37 rfl (P_write hG h245) (sel_perm [5] _) ?_)
 refine go ?_
 obtain ⟨x246,w246,e5⟩:=be e5
 refine W rfl (O_arI rfl rfl rfl (ck_e w246).2 (W_re (congrArg sI (ck_e w246).1) ?_))
 refine go ?_
 exact jmpL ((y238 ++ (((⟨#[44]⟩ : ByteArray) ++ (itoaB x242))).data.toList), x246) e5 (tl [1, 1, 1, 1, 1, 0] 0 rfl rfl)
 refine go ?_
 exact jm e5 (tl [0, 0, 0, 0, 0, 0] 0 rfl rfl)
 rintro z hi
 subst hi
 refine gs ?_
 obtain ⟨h247, e4⟩ := req_e e4
 refine W_turn (T_sbR b205 h247) ?_
 refine W rfl (O_call0 (F := ownA (sl q1) 24 .node a2 :: mapA b3 (fun s : ByteArray => Value.string s) (fun n : Int => Value.int .i64 n) y198 :: own2A (sl q133) 28 3 .int q134 y131 :: bx4 b140 r139.1 r139.2.1 r139.2.2.1 r139.2.2.2 :: ownA (sl q142) 3 .int y199 :: F) fn_38 rfl (P_string hG) (sel_perm [5] _) ?_)
 refine W rfl (O_lookup (k := (⟨(i227).toArray⟩ : ByteArray)) (0 : Int) (key_str tys_9) tyM_61 tyN_3 rfl rfl sk_val ?_)
 refine go ?_
 obtain ⟨i248,e5,e4⟩:=be e4
 refine C_cut (ι := ((List (ByteArray × Int)) × Int)) (fun i => [(3, .val (.map (some b3))),(4, .val (sl q133)),(7, sP b140 0),(8, .val (sl q142)),(9, sI y200),(16, sI i.2),(26, .val (sl q1)),(27, sI (a2.length : Int)),(28, sI y132)]) (fun i => ownA (sl q1) 24 .node a2 :: mapA b3 (fun s : ByteArray => Value.string s) (fun n : Int => Value.int .i64 n) i.1 :: own2A (sl q133) 28 3 .int q134 y131 :: bx4 b140 r139.1 r139.2.1 r139.2.2.1 r139.2.2.2 :: ownA (sl q142) 3 .int y199 :: F) (fun i => i248 = i) ?_ ?_
 refine gs ?_
 refine C_cd rfl e5 (fun e5 => ?_) (fun e5 => ?_)
 refine gs ?_
 refine W rfl (O_len_map tyM_61 rfl ?_)
 refine go ?_
 refine W rfl (O_call0 (F := ownA (sl q1) 24 .node a2 :: mapA b3 (fun s : ByteArray => Value.string s) (fun n : Int => Value.int .i64 n) y198 :: own2A (sl q133) 28 3 .int q134 y131 :: bx4 b140 r139.1 r139.2.1 r139.2.2.1 r139.2.2.2 :: ownA (sl q142) 3 .int y199 :: F) fn_38 rfl (P_string hG) (sel_perm [0] _) ?_)
 refine go ?_
 refine Wn (O_mapUpdate (k := (⟨(i227).toArray⟩ : ByteArray)) (u := (y198.length : Int)) (key_str tys_9) tyM_61 rfl rfl rfl sk_val sk_val ?_)
 refine go ?_
 exact jm e5 (tl [1, 1, 1, 1, 1] 1 rfl rfl)
 refine go ?_
 exact jm e5 (tl [1, 1, 1, 1, 1] 1 rfl rfl)
 rintro z hi
 subst hi
 refine go ?_
 obtain ⟨x250,w250,e4⟩:=be e4
 refine W rfl (O_indexAddr_own (k := .int) tyL_28 rfl rfl (idx_lt w250).1 (idx_lt w250).2 ?_)
 refine Wn (O_store_opt (k := .int) (i := (y200).toNat) (j := 0) (z' := i248.2) tyS_3 rfl rfl rfl rfl rfl (idx_e w250).2 rfl (by decide) ?_)
 refine go ?_
 exact jm e4 (tl [0, 0, 0, 0, 0] 0 rfl rfl)
 rintro z hi
 subst hi
 refine go ?_
 obtain ⟨x251,w251,e3⟩:=be e3
 refine W rfl (O_arI rfl rfl rfl (ck_e w251).2 (W_re (congrArg sI (ck_e w251).1) ?_))
 refine go ?_
 exact jmpL (i202.1, i202.2, x251) e3 (tl [0, 0, 0, 0, 0] 0 rfl rfl)
 refine go ?_
 exact jm e3 (tl [0, 0, 0, 1] 1 rfl rfl)
 rintro z hi
 subst hi
 refine go ?_
 refine W rfl (A_build 28 24 .val [(sl q142)] (ss := [(0, .val ((sl q142)))]) tyE_29 tyZ_28 rfl rfl rfl rfl rfl rfl fun q252 => ?_)
 obtain ⟨h253, e2⟩ := req_e e2
 refine W rfl (A_own2r (k := .int) (xss := y131) (by_ := 24) tyE_29 rfl rfl rfl h253 fun q254 => ?_)
 refine go ?_
 obtain rfl := so e2
 exact jmp ((i143.1, (y131 ++ [i143.2])), q254, (q134 ++ [q142])) rfl (tl [0, 0, 0] 0 rfl rfl)
 rintro ⟨z, q255, q256⟩ hi
 subst hi
 refine go ?_
 obtain ⟨x257,w257,e1⟩:=be e1
 refine W rfl (O_arI rfl rfl rfl (ck_e w257).2 (W_re (congrArg sI (ck_e w257).1) ?_))
 refine go ?_
 exact jmpL ((i136.1, i136.2, x257), q255, q256) e1 (tl [0, 0, 0] 0 rfl rfl)
 refine go ?_
 obtain rfl := so e1
 exact jmp (y131, q133, q134) rfl (tl [0, 1] 1 rfl rfl)
 rintro ⟨z, q258, q259⟩ hi
 subst hi
 refine gs ?_
 refine W rfl (O_makeMap (fun n : Int => Value.int .i64 n) (fun n : Int => Value.int .i64 n) fun b260 => ?_)
 refine go ?_
 obtain ⟨i261,e1,e0⟩:=be e0
 refine C_cut (ι := List (List Int)) (fun i => [(4, .val (sl q258))]) (fun i => ownA (sl q1) 24 .node a2 :: own2A (sl q258) 28 3 .int q259 i :: F) (fun i => i261 = i) ?_ ?_
 refine gs ?_
 refine W rfl (O_len_own2 tyl_29 rfl ?_)
 refine go ?_
 refine C_loopF (κ := (List (List Int) × (List (Int × Int)) × Int)) (fun d => [(4, .val (sl q258)),(18, .val (.map (some b260))),(112, .val (sl q258)),(113, sI (i4.length : Int)),(114, sI d.2.2)]) (fun d => ownA (sl q1) 24 .node a2 :: own2A (sl q258) 28 3 .int q259 d.1 :: mapA b260 (fun n : Int => Value.int .i64 n) (fun n : Int => Value.int .i64 n) d.2.1 :: F) (fun n d => F24_l262 fuel i4 n d.1 d.2.1 d.2.2) i261 fuel (i4, [], (0 : Int)) e1 (tl [1, 1, 0] 0 rfl rfl) (fun _ => rfl) ?_
 rintro n ⟨y284, y285, y286⟩ hF
 have e1 : F24_l262 fuel i4 (n + 1) y284 y285 y286 = some i261 := hF
 rw [F24_l262] at e1
 clear hF
 refine gs ?_
 refine C_seq ?_
 refine C_cd rfl e1 (fun e1 => ?_) (fun e1 => ?_)
 refine go ?_
 obtain ⟨i288,e2,e1⟩:=be e1
 refine C_cut (ι := (List (List Int) × (List (Int × Int)))) (fun i => [(4, .val (sl q258)),(18, .val (.map (some b260))),(112, .val (sl q258)),(113, sI (i4.length : Int)),(114, sI y286)]) (fun i => ownA (sl q1) 24 .node a2 :: own2A (sl q258) 28 3 .int q259 i.1 :: mapA b260 (fun n : Int => Value.int .i64 n) (fun n : Int => Value.int .i64 n) i.2 :: F) (fun i => i288 = i) ?_ ?_
 refine go ?_
 refine gs ?_
 obtain ⟨x289,w289,e2⟩:=be e2
 refine W rfl (O_idx_own2 tyL_29 rfl rfl (idx_lt w289).1 (idx_lt w289).2 ?_)
 refine W rfl (O_load_row2 (i := (y286).toNat) ty1_28 rfl rfl (idx_e w289).2 ?_)
 refine go ?_
 refine gs ?_
 refine W rfl (O_len_sub (i := (y286).toNat) tyl_28 rfl (idx_e w289).2 ?_)
 refine go ?_
 refine C_loopF (κ := (List (List Int) × (List (Int × Int)) × Int)) (fun d => [(4, .val (sl q258)),(18, .val (.map (some b260))),(20, .val (sl (q259.getD (y286).toNat nilH))),(112, .val (sl q258)),(113, sI (i4.length : Int)),(114, sI y286),(118, .val (sl (q259.getD (y286).toNat nilH))),(119, sI (x289.length : Int)),(120, sI d.2.2)]) (fun d => ownA (sl q1) 24 .node a2 :: own2A (sl q258) 28 3 .int q259 d.1 :: mapA b260 (fun n : Int => Value.int .i64 n) (fun n : Int => Value.int .i64 n) d.2.1 :: F) (fun n d => F24_l290 fuel x289 y286 n d.1 d.2.1 d.2.2) i288 fuel (y284, y285, (0 : Int)) e2 (tl [0, 0, 0] 0 rfl rfl) (fun _ => rfl) ?_
 rintro n ⟨y297, y298, y299⟩ hF
 have e2 : F24_l290 fuel x289 y286 (n + 1) y297 y298 y299 = some i288 := hF
 rw [F24_l290] at e2
 clear hF
 refine gs ?_
 refine C_seq ?_
 refine C_cd rfl e2 (fun e2 => ?_) (fun e2 => ?_)
 refine go ?_
 refine gs ?_
 refine gs ?_
 obtain ⟨x301,w301,e2⟩:=be e2
 obtain ⟨x302,w302,e2⟩:=be e2
 refine W rfl (O_idx_sub (i := (y286).toNat) (k := .int) tyL_28 rfl rfl (idx_e w301).2 (idx_lt w302).1 (idx_lt w302).2 ?_)
 refine W rfl (O_load_sub (i := (y286).toNat) (m := (y299).toNat) (j := 0) ty1_3 rfl (idx_e w301).2 rfl (idx_e w302).2 rfl ?_)
 refine go ?_
 refine gs ?_
 refine W rfl (O_lookup (k := x302) (0 : Int) (key_int tyU_3) tyM_74 tyN_3 rfl rfl sk_val ?_)
 refine go ?_
 obtain ⟨i303,e3,e2⟩:=be e2
 refine C_cut (ι := ((List (Int × Int)) × Int)) (fun i => [(4, .val (sl q258)),(18, .val (.map (some b260))),(20, .val (sl (q259.getD (y286).toNat nilH))),(21, sI y299),(23, sI i.2),(112, .val (sl q258)),(113, sI (i4.length : Int)),(114, sI y286),(118, .val (sl (q259.getD (y286).toNat nilH))),(119, sI (x289.length : Int)),(120, sI y299)]) (fun i => ownA (sl q1) 24 .node a2 :: own2A (sl q258) 28 3 .int q259 y297 :: mapA b260 (fun n : Int => Value.int .i64 n) (fun n : Int => Value.int .i64 n) i.1 :: F) (fun i => i303 = i) ?_ ?_
 refine gs ?_
 refine C_cd rfl e3 (fun e3 => ?_) (fun e3 => ?_)
 refine gs ?_
 refine W rfl (O_len_map tyM_74 rfl ?_)
 refine go ?_
 refine Wn (O_mapUpdate (k := x302) (u := (y298.length : Int)) (key_int tyU_3) tyM_74 rfl rfl rfl sk_val sk_val ?_)
 refine go ?_
 exact jm e3 (tl [0, 0, 0] 0 rfl rfl)
 refine go ?_
 exact jm e3 (tl [0, 0, 0] 0 rfl rfl)
 rintro z hi
 subst hi
 refine go ?_
 refine W rfl (O_idx_sub (i := (y286).toNat) (k := .int) tyL_28 rfl rfl (idx_e w301).2 (idx_lt w302).1 (idx_lt w302).2 ?_)
 refine Wn (O_store_sub (i := (y286).toNat) (m := (y299).toNat) (j := 0) (z' := i303.2) tyS_3 rfl rfl rfl rfl (idx_e w301).2 rfl (idx_e w302).2 rfl (by decide) ?_)
 refine go ?_
 obtain ⟨x305,w305,e2⟩:=be e2
 refine W rfl (O_arI rfl rfl rfl (ck_e w305).2 (W_re (congrArg sI (ck_e w305).1) ?_))
 refine go ?_
 exact jmpL ((y297.set (y286).toNat (x301.set (y299).toNat i303.2)), i303.1, x305) e2 (tl [0, 0, 0] 0 rfl rfl)
 refine go ?_
 exact jm e2 (tl [0, 0, 0] 0 rfl rfl)
 rintro z hi
 subst hi
 refine go ?_
 obtain ⟨x306,w306,e1⟩:=be e1
 refine W rfl (O_arI rfl rfl rfl (ck_e w306).2 (W_re (congrArg sI (ck_e w306).1) ?_))
 refine go ?_
 exact jmpL (i288.1, i288.2, x306) e1 (tl [0, 0, 0] 0 rfl rfl)
 refine go ?_
 exact jm e1 (tl [0, 0] 1 rfl rfl)
 rintro z hi
 subst hi
 refine gs ?_
 obtain rfl := so e0
 refine go ?_
 exact ret_ok (Turn.trans (T_freezeL2 (sl q258) (.cons 2 rfl .here (.cons 144 rfl .here (.cons 4 rfl .here .nil)))) (T_le (E' := [(2, .isl .ints i261)]) (.mk [0] 0 rfl ⟨rfl, trivial⟩))) [0] 0 [.isl .ints i261] [ownA (sl q1) 24 .node a2] (.tmp (t := 2) _ rfl .nil) rfl ⟨rfl, rfl⟩
def F56 (fuel : Nat) (a1 : Int) (a2 : Int) : Option (Unit) :=
 if 0 ≤ (32 : Int) then (
 some ()) else none
theorem F56_ok {w0 : World} (hG : Globs w0) (fuel : Nat) : ∀ (a1 : Int) (a2 : Int) {r : Unit} (e0 : F56 fuel a1 a2 = some r), Fn w0 prog 56 [.val (.int .u64 a1), .val (.int .u64 a2)] [] (fun s H => s = .tup [.val (.int .u64 (IntKind.u64.wrap ((IntKind.u64.wrap ((IntKind.u64.wrap ((shrI .u64 a1 (32 : Int)) * (shrI .u64 a2 (32 : Int)))) + (shrI .u64 (IntKind.u64.wrap ((IntKind.u64.wrap ((shrI .u64 a1 (32 : Int)) * (bitI .and .u64 a2 (4294967295 : Int)))) + (shrI .u64 (IntKind.u64.wrap ((bitI .and .u64 a1 (4294967295 : Int)) * (bitI .and .u64 a2 (4294967295 : Int)))) (32 : Int)))) (32 : Int)))) + (shrI .u64 (IntKind.u64.wrap ((bitI .and .u64 (IntKind.u64.wrap ((IntKind.u64.wrap ((shrI .u64 a1 (32 : Int)) * (bitI .and .u64 a2 (4294967295 : Int)))) + (shrI .u64 (IntKind.u64.wrap ((bitI .and .u64 a1 (4294967295 : Int)) * (bitI .and .u64 a2 (4294967295 : Int)))) (32 : Int)))) (4294967295 : Int)) + (IntKind.u64.wrap ((bitI .and .u64 a1 (4294967295 : Int)) * (shrI .u64 a2 (32 : Int)))))) (32 : Int))))), .val (.int .u64 (IntKind.u64.wrap (a1 * a2)))] ∧ H = []) := by
 intro a1 a2 r e0
 rw [F56] at e0
 refine fn_intro2 51 [.tmp 4, .tmp 5] func56 rfl rfl rfl rfl fun X hX F => ?_
 refine C_turn (T_start [(0, .val (.int .u64 a1)), (1, .val (.int .u64 a2))] rfl (F) rfl) ?_
 refine gs ?_
 refine gs ?_
 refine W rfl (O_bit rfl rfl rfl ?_)
 refine go ?_
 refine gs ?_
 obtain ⟨h3, e0⟩ := req_e e0
 refine W rfl (O_shr rfl rfl h3 ?_)
 refine go ?_
 refine gs ?_
 refine W rfl (O_bit rfl rfl rfl ?_)
 refine go ?_
 refine gs ?_
 refine W rfl (O_shr rfl rfl h3 ?_)
 refine go ?_
 refine gs ?_
 refine W rfl (O_ar rfl rfl rfl ?_)
 refine go ?_
 refine gs ?_
 refine W rfl (O_ar rfl rfl rfl ?_)
 refine go ?_
 refine W rfl (O_shr rfl rfl h3 ?_)
 refine W rfl (O_ar rfl rfl rfl ?_)
 refine go ?_
 refine gs ?_
 refine W rfl (O_bit rfl rfl rfl ?_)
 refine go ?_
 refine gs ?_
 refine W rfl (O_shr rfl rfl h3 ?_)
 refine go ?_
 refine gs ?_
 refine W rfl (O_ar rfl rfl rfl ?_)
 refine W rfl (O_ar rfl rfl rfl ?_)
 refine go ?_
 refine gs ?_
 refine W rfl (O_ar rfl rfl rfl ?_)
 refine go ?_
 refine W rfl (O_ar rfl rfl rfl ?_)
 refine go ?_
 refine W rfl (O_shr rfl rfl h3 ?_)
 refine W rfl (O_ar rfl rfl rfl ?_)
 refine go ?_
 refine gs ?_
 refine W rfl (O_ar rfl rfl rfl ?_)
 refine go ?_
 obtain rfl := so e0
 refine go ?_
 exact ret_ok (T_le (E' := [(4, .val (.int .u64 (IntKind.u64.wrap ((IntKind.u64.wrap ((IntKind.u64.wrap ((shrI .u64 a1 (32 : Int)) * (shrI .u64 a2 (32 : Int)))) + (shrI .u64 (IntKind.u64.wrap ((IntKind.u64.wrap ((shrI .u64 a1 (32 : Int)) * (bitI .and .u64 a2 (4294967295 : Int)))) + (shrI .u64 (IntKind.u64.wrap ((bitI .and .u64 a1 (4294967295 : Int)) * (bitI .and .u64 a2 (4294967295 : Int)))) (32 : Int)))) (32 : Int)))) + (shrI .u64 (IntKind.u64.wrap ((bitI .and .u64 (IntKind.u64.wrap ((IntKind.u64.wrap ((shrI .u64 a1 (32 : Int)) * (bitI .and .u64 a2 (4294967295 : Int)))) + (shrI .u64 (IntKind.u64.wrap ((bitI .and .u64 a1 (4294967295 : Int)) * (bitI .and .u64 a2 (4294967295 : Int)))) (32 : Int)))) (4294967295 : Int)) + (IntKind.u64.wrap ((bitI .and .u64 a1 (4294967295 : Int)) * (shrI .u64 a2 (32 : Int)))))) (32 : Int)))))), (5, .val (.int .u64 (IntKind.u64.wrap (a1 * a2))))]) (.mk [] 0 rfl ⟨rfl, rfl, trivial⟩)) [] 0 [.val (.int .u64 (IntKind.u64.wrap ((IntKind.u64.wrap ((IntKind.u64.wrap ((shrI .u64 a1 (32 : Int)) * (shrI .u64 a2 (32 : Int)))) + (shrI .u64 (IntKind.u64.wrap ((IntKind.u64.wrap ((shrI .u64 a1 (32 : Int)) * (bitI .and .u64 a2 (4294967295 : Int)))) + (shrI .u64 (IntKind.u64.wrap ((bitI .and .u64 a1 (4294967295 : Int)) * (bitI .and .u64 a2 (4294967295 : Int)))) (32 : Int)))) (32 : Int)))) + (shrI .u64 (IntKind.u64.wrap ((bitI .and .u64 (IntKind.u64.wrap ((IntKind.u64.wrap ((shrI .u64 a1 (32 : Int)) * (bitI .and .u64 a2 (4294967295 : Int)))) + (shrI .u64 (IntKind.u64.wrap ((bitI .and .u64 a1 (4294967295 : Int)) * (bitI .and .u64 a2 (4294967295 : Int)))) (32 : Int)))) (4294967295 : Int)) + (IntKind.u64.wrap ((bitI .and .u64 a1 (4294967295 : Int)) * (shrI .u64 a2 (32 : Int)))))) (32 : Int))))), .val (.int .u64 (IntKind.u64.wrap (a1 * a2)))] [] (.tmp (t := 4) _ rfl (.tmp (t := 5) _ rfl .nil)) rfl ⟨rfl, rfl⟩
def F39 (fuel : Nat) (a1 : Int) (a2 : Int) : Option (Unit) :=
 (F56 fuel a1 a2).bind fun r3 =>
 some ()
theorem F39_ok {w0 : World} (hG : Globs w0) (fuel : Nat) : ∀ (a1 : Int) (a2 : Int) {r : Unit} (e0 : F39 fuel a1 a2 = some r), Fn w0 prog 39 [.val (.int .u64 a1), .val (.int .u64 a2)] [] (fun s H => s = .tup [.val (.int .u64 (IntKind.u64.wrap ((IntKind.u64.wrap ((IntKind.u64.wrap ((shrI .u64 a1 (32 : Int)) * (shrI .u64 a2 (32 : Int)))) + (shrI .u64 (IntKind.u64.wrap ((IntKind.u64.wrap ((shrI .u64 a1 (32 : Int)) * (bitI .and .u64 a2 (4294967295 : Int)))) + (shrI .u64 (IntKind.u64.wrap ((bitI .and .u64 a1 (4294967295 : Int)) * (bitI .and .u64 a2 (4294967295 : Int)))) (32 : Int)))) (32 : Int)))) + (shrI .u64 (IntKind.u64.wrap ((bitI .and .u64 (IntKind.u64.wrap ((IntKind.u64.wrap ((shrI .u64 a1 (32 : Int)) * (bitI .and .u64 a2 (4294967295 : Int)))) + (shrI .u64 (IntKind.u64.wrap ((bitI .and .u64 a1 (4294967295 : Int)) * (bitI .and .u64 a2 (4294967295 : Int)))) (32 : Int)))) (4294967295 : Int)) + (IntKind.u64.wrap ((bitI .and .u64 a1 (4294967295 : Int)) * (shrI .u64 a2 (32 : Int)))))) (32 : Int))))), .val (.int .u64 (IntKind.u64.wrap (a1 * a2)))] ∧ H = []) := by
 intro a1 a2 r e0
 rw [F39] at e0
 refine fn_intro2 30 [.tmp 4, .tmp 5] func39 rfl rfl rfl rfl fun X hX F => ?_
 refine C_turn (T_start [(0, .val (.int .u64 a1)), (1, .val (.int .u64 a2))] rfl (F) rfl) ?_
 refine gs ?_
 refine C_seq ?_
 refine C_cond rfl (fun hc => (no_tf hc rfl).elim) (fun hc => ?_)
 refine go ?_
 refine gs ?_
 obtain ⟨r3,hr3,e0⟩:=be e0
 refine W rfl (O_callP fn_56 rfl (F56_ok hG fuel a1 a2 hr3) ?_)
 refine go ?_
 refine gs ?_
 obtain rfl := so e0
 refine go ?_
 exact ret_ok (T_le (E' := [(4, .val (.int .u64 (IntKind.u64.wrap ((IntKind.u64.wrap ((IntKind.u64.wrap ((shrI .u64 a1 (32 : Int)) * (shrI .u64 a2 (32 : Int)))) + (shrI .u64 (IntKind.u64.wrap ((IntKind.u64.wrap ((shrI .u64 a1 (32 : Int)) * (bitI .and .u64 a2 (4294967295 : Int)))) + (shrI .u64 (IntKind.u64.wrap ((bitI .and .u64 a1 (4294967295 : Int)) * (bitI .and .u64 a2 (4294967295 : Int)))) (32 : Int)))) (32 : Int)))) + (shrI .u64 (IntKind.u64.wrap ((bitI .and .u64 (IntKind.u64.wrap ((IntKind.u64.wrap ((shrI .u64 a1 (32 : Int)) * (bitI .and .u64 a2 (4294967295 : Int)))) + (shrI .u64 (IntKind.u64.wrap ((bitI .and .u64 a1 (4294967295 : Int)) * (bitI .and .u64 a2 (4294967295 : Int)))) (32 : Int)))) (4294967295 : Int)) + (IntKind.u64.wrap ((bitI .and .u64 a1 (4294967295 : Int)) * (shrI .u64 a2 (32 : Int)))))) (32 : Int)))))), (5, .val (.int .u64 (IntKind.u64.wrap (a1 * a2))))]) (.mk [] 0 rfl ⟨rfl, rfl, trivial⟩)) [] 0 [.val (.int .u64 (IntKind.u64.wrap ((IntKind.u64.wrap ((IntKind.u64.wrap ((shrI .u64 a1 (32 : Int)) * (shrI .u64 a2 (32 : Int)))) + (shrI .u64 (IntKind.u64.wrap ((IntKind.u64.wrap ((shrI .u64 a1 (32 : Int)) * (bitI .and .u64 a2 (4294967295 : Int)))) + (shrI .u64 (IntKind.u64.wrap ((bitI .and .u64 a1 (4294967295 : Int)) * (bitI .and .u64 a2 (4294967295 : Int)))) (32 : Int)))) (32 : Int)))) + (shrI .u64 (IntKind.u64.wrap ((bitI .and .u64 (IntKind.u64.wrap ((IntKind.u64.wrap ((shrI .u64 a1 (32 : Int)) * (bitI .and .u64 a2 (4294967295 : Int)))) + (shrI .u64 (IntKind.u64.wrap ((bitI .and .u64 a1 (4294967295 : Int)) * (bitI .and .u64 a2 (4294967295 : Int)))) (32 : Int)))) (4294967295 : Int)) + (IntKind.u64.wrap ((bitI .and .u64 a1 (4294967295 : Int)) * (shrI .u64 a2 (32 : Int)))))) (32 : Int))))), .val (.int .u64 (IntKind.u64.wrap (a1 * a2)))] [] (.tmp (t := 4) _ rfl (.tmp (t := 5) _ rfl .nil)) rfl ⟨rfl, rfl⟩
def F25v1_l12 (fuel : Nat) : Nat → List Int → Int → Option (List Int)
 | 0, _, _ => none
 | n + 1, y18, y19 =>
 bif (decide (y19 < (y18.length : Int))) then (
 if 0 ≤ y19 ∧ y19 ≤ ((y18).length : Int) ∧ ((y18).length : Int) ≤ ((y18).length : Int) then (
 if 0 ≤ (0 : Int) ∧ (0 : Int) ≤ y19 ∧ y19 ≤ ((y18).length : Int) then (
 (ck (y19 + ((min ((y19).toNat - ((0 : Int)).toNat) ((((y18).length : Int)).toNat - (y19).toNat) : Nat) : Int))).bind fun x23 =>
 F25v1_l12 fuel n (lset y18 ((y19).toNat) (((y18).drop (((0 : Int)).toNat)).take (min ((y19).toNat - ((0 : Int)).toNat) ((((y18).length : Int)).toNat - (y19).toNat)))) x23) else none) else none) else (
 some y18)
def F25v1 (fuel : Nat) (a1 : List Int) (a2 : Int) : Option (List Int) :=
 bif (decide (a2 < (0 : Int))) then (
 none) else (
 (F39 fuel (IntKind.u64.wrap (a1.length : Int)) (IntKind.u64.wrap a2)).bind fun r4 =>
 Option.bind (α := Bool) (
 bif (decide ((IntKind.u64.wrap ((IntKind.u64.wrap ((IntKind.u64.wrap ((shrI .u64 (IntKind.u64.wrap (a1.length : Int)) (32 : Int)) * (shrI .u64 (IntKind.u64.wrap a2) (32 : Int)))) + (shrI .u64 (IntKind.u64.wrap ((IntKind.u64.wrap ((shrI .u64 (IntKind.u64.wrap (a1.length : Int)) (32 : Int)) * (bitI .and .u64 (IntKind.u64.wrap a2) (4294967295 : Int)))) + (shrI .u64 (IntKind.u64.wrap ((bitI .and .u64 (IntKind.u64.wrap (a1.length : Int)) (4294967295 : Int)) * (bitI .and .u64 (IntKind.u64.wrap a2) (4294967295 : Int)))) (32 : Int)))) (32 : Int)))) + (shrI .u64 (IntKind.u64.wrap ((bitI .and .u64 (IntKind.u64.wrap ((IntKind.u64.wrap ((shrI .u64 (IntKind.u64.wrap (a1.length : Int)) (32 : Int)) * (bitI .and .u64 (IntKind.u64.wrap a2) (4294967295 : Int)))) + (shrI .u64 (IntKind.u64.wrap ((bitI .and .u64 (IntKind.u64.wrap (a1.length : Int)) (4294967295 : Int)) * (bitI .and .u64 (IntKind.u64.wrap a2) (4294967295 : Int)))) (32 : Int)))) (4294967295 : Int)) + (IntKind.u64.wrap ((bitI .and .u64 (IntKind.u64.wrap (a1.length : Int)) (4294967295 : Int)) * (shrI .u64 (IntKind.u64.wrap a2) (32 : Int)))))) (32 : Int)))) > (0 : Int))) then (
 some true) else (
 some (decide ((IntKind.u64.wrap ((IntKind.u64.wrap (a1.length : Int)) * (IntKind.u64.wrap a2))) > (9223372036854775807 : Int))))) fun i5 =>
 bif i5 then (
 none) else (
 (ck (IntKind.u64.wrap ((IntKind.u64.wrap (a1.length : Int)) * (IntKind.u64.wrap a2)))).bind fun x8 =>
 if 0 ≤ x8 ∧ x8 ≤ x8 ∧ (8 : Int) * x8 ≤ 281474976710656 ∧ x8 ≤ 1000000000 then (
 Option.bind (α := List Int) (
 F25v1_l12 fuel fuel (lset (List.replicate (x8).toNat (0 : Int)) 0 ((a1).take (min (a1).length ((List.replicate (x8).toNat (0 : Int))).length))) ((min (a1).length ((List.replicate (x8).toNat (0 : Int))).length : Nat) : Int)) fun i11 =>
 some i11) else none))
theorem F25v1_ok {w0 : World} (hG : Globs w0) (fuel : Nat) : ∀ (a1 : List Int) (a2 : Int) {r : List Int} (e0 : F25v1 fuel a1 a2 = some r), Fn w0 prog 25 [.isl .int a1, sI a2] [] (fun s H => ∃ k0 : Hnd, s = .val (sl k0) ∧ H = [ownA (sl k0) 3 .int r]) := by
 intro a1 a2 r e0
 rw [F25v1] at e0
 refine fn_intro2 48 [.tmp 4] func25 rfl rfl rfl rfl fun X hX F => ?_
 refine C_turn (T_start [(0, .isl .int a1),(1, sI a2)] rfl (F) rfl) ?_
 refine gs ?_
 refine C_seq ?_
 refine gs ?_
 refine C_cd rfl e0 (fun e0 => ?_) (fun e0 => ?_)
 cases e0
 refine go ?_
 refine gs ?_
 refine W rfl (O_conv_int tyU_3 tyU_75 rfl ?_)
 refine go ?_
 refine W rfl (O_conv_int tyU_3 tyU_75 rfl ?_)
 obtain ⟨r4,hr4,e0⟩:=be e0
 refine W rfl (O_callP fn_39 rfl (F39_ok hG fuel (IntKind.u64.wrap (a1.length : Int)) (IntKind.u64.wrap a2) hr4) ?_)
 refine go ?_
 refine C_seq ?_
 obtain ⟨i5,e1,e0⟩:=be e0
 refine C_cut (ι := Bool) (fun i => [(0, .isl .int a1),(6, .val (.int .u64 (IntKind.u64.wrap ((IntKind.u64.wrap (a1.length : Int)) * (IntKind.u64.wrap a2))))),(26, sB i)]) (fun i => F) (fun i => i5 = i) ?_ ?_
 refine go ?_
 obtain ⟨hg6, e1⟩ | ⟨hg6, e1⟩ := bc e1
 refine go ?_
 exact jm e1 (tl [] 0 rfl rfl)
 refine Wt rfl rfl rfl hg6 rfl rfl (O_move rfl ?_)
 refine Wt rfl rfl rfl hg6 rfl rfl (O_cmp rfl rfl rfl ?_)
 refine go ?_
 exact jm e1 (tl [] 0 rfl rfl)
 rintro z hi
 subst hi
 refine C_cd rfl e0 (fun e0 => ?_) (fun e0 => ?_)
 cases e0
 refine go ?_
 refine gs ?_
 obtain ⟨x8,w8,e0⟩:=be e0
 refine W rfl (O_conv_int tyU_75 tyU_3 rfl (W_re (congrArg sI (conv_ck w8)) ?_))
 obtain ⟨h9, e0⟩ := req_e e0
 refine W rfl (O_make (by_ := 8) (k := .int) (0 : Int) tyE_28 tyZ_3 (RepImpL.cons (RepImp.refl _) RepImpL.nil) rfl rfl h9 fun q10 => ?_)
 refine go ?_
 refine gs ?_
 refine W rfl (O_copy_isl (xs := (List.replicate (x8).toNat (0 : Int))) (ys := a1) tyL_28 rfl rfl ?_)
 refine go ?_
 obtain ⟨i11,e1,e0⟩:=be e0
 refine C_cut (ι := List Int) (fun i => [(7, .val (sl q10))]) (fun i => ownA (sl q10) 3 .int i :: F) (fun i => i11 = i) ?_ ?_
 refine go ?_
 refine C_loopF (κ := (List Int × Int)) (fun d => [(7, .val (sl q10)),(8, sI d.2)]) (fun d => ownA (sl q10) 3 .int d.1 :: F) (fun n d => F25v1_l12 fuel n d.1 d.2) i11 fuel ((lset (List.replicate (x8).toNat (0 : Int)) 0 ((a1).take (min (a1).length ((List.replicate (x8).toNat (0 : Int))).length))),((min (a1).length ((List.replicate (x8).toNat (0 : Int))).length : Nat) : Int)) e1 (tl [0] 0 rfl rfl) (fun _ => rfl) ?_
 rintro n ⟨y18, y19⟩ hF
 have e1 : F25v1_l12 fuel (n + 1) y18 y19 = some i11 := hF
 rw [F25v1_l12] at e1
 clear hF
 refine C_seq ?_
 refine gs ?_
 refine W rfl (O_len_own tyl_28 rfl ?_)
 refine go ?_
 refine C_cd rfl e1 (fun e1 => ?_) (fun e1 => ?_)
 refine go ?_
 refine C_draw2 [(0,fr),(1,fr),(2,fr),(3,pu),(4,fr),(5,fr),(6,pu),(7, .open_),(8,fr),(9,fr)] [false] [] (ownA (sl q10) 3 .int y18 :: F) rfl rfl rfl (by kernel_rfl) rfl ?_
 refine gd ?_
 obtain ⟨h21, e1⟩ := req_e e1
 refine D_pure rfl rfl (fun G => O_slice_own (k := .int) (k1 := .i64) (k2 := .i64) (some y19) none tyL_28 (lk rfl rfl) rfl rfl h21 ⟨rfl, rfl⟩) ?_
 refine gd ?_
 obtain ⟨h22, e1⟩ := req_e e1
 refine D_pure rfl rfl (fun G => O_slice_own (k := .int) (k1 := .i64) (k2 := .i64) none (some y19) tyL_28 (lk rfl rfl) rfl rfl h22 ⟨rfl, rfl⟩) ?_
 refine D_open2 (ownA (sl q10) 3 .int y18 :: F) rfl rfl (D_mainX rfl fun G => O_copy_self (xs := y18) tyL_28 (lk rfl rfl) (lk rfl rfl) (osl_b h21) (osl_b h22) (D_end ?_))
 obtain ⟨x23,w23,e1⟩:=be e1
 refine D_free rfl rfl (fun G => O_arI (lk rfl rfl) (lk rfl rfl) rfl (ck_e w23).2 ⟨rfl, rfl⟩) (D_re (congrArg sI (ck_e w23).1) ?_)
 refine gd ?_
 refine D_nil0 ?_
 exact jmpL ((lset y18 ((y19).toNat) (((y18).drop (((0 : Int)).toNat)).take (min ((y19).toNat - ((0 : Int)).toNat) ((((y18).length : Int)).toNat - (y19).toNat)))), x23) e1 (tl [0] 0 rfl rfl)
 refine go ?_
 exact jm e1 (tl [0] 0 rfl rfl)
 rintro z hi
 subst hi
 refine gs ?_
 obtain rfl := so e0
 refine go ?_
 exact rt [0] 0 ⟨q10, rfl, rfl⟩ rfl rfl
def F27 (fuel : Nat) (a2 : List Tree) (a3 : List Int) (a4 : List Int) (a5 : List (List Int)) (a6 : List Tree) (a7 : List Int) (a8 : List Int) (a9 : List (List Int)) (a10 : List Int) (a11 : List Int) (a13 : List Int) (a15 : List Int) (a16 : Int) (a17 : Int) : Option (Unit) :=
 (idx a13 a16).bind fun x18 =>
 (idx a15 a17).bind fun x19 =>
 some ()
theorem F27_ok {w0 : World} (hG : Globs w0) (fuel : Nat) : ∀ (a2 : List Tree) (a3 : List Int) (a4 : List Int) (a5 : List (List Int)) (a6 : List Tree) (a7 : List Int) (a8 : List Int) (a9 : List (List Int)) (a10 : List Int) (a11 : List Int) (a13 : List Int) (a15 : List Int) (a16 : Int) (a17 : Int) (b1 : Nat) (q12 : Hnd) (q14 : Hnd) {r : Unit} (e0 : F27 fuel a2 a3 a4 a5 a6 a7 a8 a9 a10 a11 a13 a15 a16 a17 = some r), Fn w0 prog 27 [sP b1 0, sI a16, sI a17] [bx5 b1 a2 a3 a4 a5 a6 a7 a8 a9 a10 a11 q12 q14, ownA (sl q12) 3 .int a13, ownA (sl q14) 3 .int a15] (fun s H => s = .tup [] ∧ H = [bx5 b1 a2 a3 a4 a5 a6 a7 a8 a9 a10 a11 q12 q14, ownA (sl q12) 3 .int (a13.set (a16).toNat a17), ownA (sl q14) 3 .int (a15.set (a17).toNat a16)]) := by
 intro a2 a3 a4 a5 a6 a7 a8 a9 a10 a11 a13 a15 a16 a17 b1 q12 q14 r e0
 rw [F27] at e0
 refine fn_intro2 20 [] func27 rfl rfl rfl rfl fun X hX F => ?_
 refine C_turn (T_start [(0, sP b1 0),(1, sI a16),(2, sI a17)] rfl (bx5 b1 a2 a3 a4 a5 a6 a7 a8 a9 a10 a11 q12 q14 :: ownA (sl q12) 3 .int a13 :: ownA (sl q14) 3 .int a15 :: F) rfl) ?_
 refine C_draw2 [(0,fr),(1,fr),(2,fr),(3,pu),(4,fr),(5,fr),(6,fr),(7,fr),(8,pu),(9,fr),(10,fr),(11,fr),(12,mn),(13,mn),(14,mn),(15,mn)] [false, true, true] [ownA (sl q12) 3 .int a13, ownA (sl q14) 3 .int a15] (bx5 b1 a2 a3 a4 a5 a6 a7 a8 a9 a10 a11 q12 q14 :: F) rfl rfl rfl (by kernel_rfl) rfl ?_
 refine gd ?_
 obtain ⟨x18,w18,e0⟩:=be e0
 refine D_main rfl (D_mainX rfl fun G => O_indexAddr_own (k := .int) tyL_28 (lk rfl rfl) (lk rfl rfl) (idx_lt w18).1 (idx_lt w18).2 (D_end ?_))
 refine D_main rfl (D_mainX rfl fun G => O_store_opt (k := .int) (i := (a16).toNat) (j := 0) (z' := a17) tyS_3 (lk rfl rfl) (lk rfl rfl) rfl rfl rfl (idx_e w18).2 rfl (by decide) (D_end ?_))
 obtain ⟨x19,w19,e0⟩:=be e0
 refine D_main rfl (D_mainX rfl fun G => O_indexAddr_own (k := .int) tyL_28 (lk rfl rfl) (lk rfl rfl) (idx_lt w19).1 (idx_lt w19).2 (D_end ?_))
 refine D_main rfl (D_mainX rfl fun G => O_store_opt (k := .int) (i := (a17).toNat) (j := 0) (z' := a16) tyS_3 (lk rfl rfl) (lk rfl rfl) rfl rfl rfl (idx_e w19).2 rfl (by decide) (D_end ?_))
 refine D_nil ?_
 obtain rfl := so e0
 refine go ?_
 exact rn' [2, 0, 0] 0 ⟨rfl, rfl⟩ rfl
def F26_l19 (fuel : Nat) (a2 : List Tree) (a3 : List Int) (a4 : List Int) (a5 : List (List Int)) (a6 : List Tree) (a7 : List Int) (a8 : List Int) (a9 : List (List Int)) (a10 : List Int) (a11 : List Int) (a16 : Int) (a17 : Int) (x18 : Int) : Nat → List Int → List Int → Int → Option (List Int × List Int)
 | 0, _, _, _ => none
 | n + 1, y34, y35, y36 =>
 bif (decide (y36 < x18)) then (
 Option.bind (α := List Int × List Int) (
 Option.bind (α := Bool) (
 (ck (a16 + y36)).bind fun x40 =>
 (idx y34 x40).bind fun x41 =>
 bif (decide (x41 < (0 : Int))) then (
 (ck (a17 + y36)).bind fun x43 =>
 (idx y35 x43).bind fun x44 =>
 some (decide (x44 < (0 : Int)))) else (
 some false)) fun i39 =>
 bif i39 then (
 (ck (a16 + y36)).bind fun x46 =>
 (ck (a17 + y36)).bind fun x47 =>
 (F27 fuel a2 a3 a4 a5 a6 a7 a8 a9 a10 a11 y34 y35 x46 x47).bind fun r48 =>
 some ((y34.set (x46).toNat x47), (y35.set (x47).toNat x46))) else (
 some (y34, y35))) fun i38 =>
 (ck (y36 + (1 : Int))).bind fun x49 =>
 F26_l19 fuel a2 a3 a4 a5 a6 a7 a8 a9 a10 a11 a16 a17 x18 n i38.1 i38.2 x49) else (
 some (y34, y35))
def F26 (fuel : Nat) (a2 : List Tree) (a3 : List Int) (a4 : List Int) (a5 : List (List Int)) (a6 : List Tree) (a7 : List Int) (a8 : List Int) (a9 : List (List Int)) (a10 : List Int) (a11 : List Int) (a13 : List Int) (a15 : List Int) (a16 : Int) (a17 : Int) : Option (List Int × List Int) :=
 (idx a4 a16).bind fun x18 =>
 F26_l19 fuel a2 a3 a4 a5 a6 a7 a8 a9 a10 a11 a16 a17 x18 fuel a13 a15 (0 : Int)
theorem F26_ok {w0 : World} (hG : Globs w0) (fuel : Nat) : ∀ (a2 : List Tree) (a3 : List Int) (a4 : List Int) (a5 : List (List Int)) (a6 : List Tree) (a7 : List Int) (a8 : List Int) (a9 : List (List Int)) (a10 : List Int) (a11 : List Int) (a13 : List Int) (a15 : List Int) (a16 : Int) (a17 : Int) (b1 : Nat) (q12 : Hnd) (q14 : Hnd) {r : List Int × List Int} (e0 : F26 fuel a2 a3 a4 a5 a6 a7 a8 a9 a10 a11 a13 a15 a16 a17 = some r), Fn w0 prog 26 [sP b1 0, sI a16, sI a17] [bx5 b1 a2 a3 a4 a5 a6 a7 a8 a9 a10 a11 q12 q14, ownA (sl q12) 3 .int a13, ownA (sl q14) 3 .int a15] (fun s H => s = .tup [] ∧ H = [bx5 b1 a2 a3 a4 a5 a6 a7 a8 a9 a10 a11 q12 q14, ownA (sl q12) 3 .int r.1, ownA (sl q14) 3 .int r.2]) := by
 intro a2 a3 a4 a5 a6 a7 a8 a9 a10 a11 a13 a15 a16 a17 b1 q12 q14 r e0
 rw [F26] at e0
 refine fn_intro2 49 [] func26 rfl rfl rfl rfl fun X hX F => ?_
 refine C_turn (T_start [(0, sP b1 0), (1, sI a16), (2, sI a17)] rfl (bx5 b1 a2 a3 a4 a5 a6 a7 a8 a9 a10 a11 q12 q14 :: ownA (sl q12) 3 .int a13 :: ownA (sl q14) 3 .int a15 :: F) rfl) ?_
 refine gs ?_
 obtain ⟨x18,w18,e0⟩:=be e0
 refine W rfl (O_indexAddr (k := .int) (z := x18) tyL_28 rfl rfl (idx_e w18).1 (idx_e w18).2 ?_)
 refine go ?_
 refine C_loopF (κ := (List Int × List Int × Int)) (fun d => [(0, sP b1 0), (1, sI a16), (2, sI a17), (14, sI x18), (15, sI d.2.2)]) (fun d => bx5 b1 a2 a3 a4 a5 a6 a7 a8 a9 a10 a11 q12 q14 :: ownA (sl q12) 3 .int d.1 :: ownA (sl q14) 3 .int d.2.1 :: F) (fun n d => F26_l19 fuel a2 a3 a4 a5 a6 a7 a8 a9 a10 a11 a16 a17 x18 n d.1 d.2.1 d.2.2) r fuel (a13, a15, (0 : Int)) e0 (tl [0, 0, 0] 0 rfl rfl) (fun _ => rfl) ?_
 rintro n ⟨y34, y35, y36⟩ hF
 have e0 : F26_l19 fuel a2 a3 a4 a5 a6 a7 a8 a9 a10 a11 a16 a17 x18 (n + 1) y34 y35 y36 = some r := hF
 rw [F26_l19] at e0
 clear hF
 refine gs ?_
 refine C_seq ?_
 refine C_cd rfl e0 (fun e0 => ?_) (fun e0 => ?_)
 refine go ?_
 obtain ⟨i38,e1,e0⟩:=be e0
 refine C_cut (ι := (List Int × List Int)) (fun i => [(0, sP b1 0), (1, sI a16), (2, sI a17), (14, sI x18), (15, sI y36)]) (fun i => bx5 b1 a2 a3 a4 a5 a6 a7 a8 a9 a10 a11 q12 q14 :: ownA (sl q12) 3 .int i.1 :: ownA (sl q14) 3 .int i.2 :: F) (fun i => i38 = i) ?_ ?_
 refine go ?_
 refine gs ?_
 obtain ⟨i39,e2,e1⟩:=be e1
 refine C_cut (ι := Bool) (fun i => [(0, sP b1 0), (1, sI a16), (2, sI a17), (6, sI y36), (14, sI x18), (15, sI y36), (39, sB i)]) (fun i => bx5 b1 a2 a3 a4 a5 a6 a7 a8 a9 a10 a11 q12 q14 :: ownA (sl q12) 3 .int y34 :: ownA (sl q14) 3 .int y35 :: F) (fun i => i39 = i) ?_ ?_
 refine go ?_
 obtain ⟨x40,w40,e2⟩:=be e2
 refine W rfl (O_arI rfl rfl rfl (ck_e w40).2 (W_re (congrArg sI (ck_e w40).1) ?_))
 obtain ⟨x41,w41,e2⟩:=be e2
 refine W rfl (O_indexAddr_own (k := .int) tyL_28 rfl rfl (idx_lt w41).1 (idx_lt w41).2 ?_)
 refine W rfl (O_load_opt (k := .int) (i := (x40).toNat) (j := 0) ty1_3 rfl rfl (idx_e w41).2 rfl ?_)
 refine go ?_
 obtain ⟨hg42, e2⟩ | ⟨hg42, e2⟩ := bc e2
 refine Wt rfl rfl rfl hg42 rfl rfl (O_move rfl ?_)
 refine Wt rfl rfl rfl hg42 rfl rfl (O_nilCheck rfl (ptr_val _) ?_)
 refine Wt rfl rfl rfl hg42 rfl rfl (O_fieldAddr tyF_53_5 rfl ?_)
 refine Wt rfl rfl rfl hg42 rfl rfl (O_load ty1_28 rfl rfl ?_)
 refine Wt rfl rfl rfl hg42 rfl rfl (O_move rfl ?_)
 refine Wt rfl rfl rfl hg42 rfl rfl (O_move rfl ?_)
 obtain ⟨x43,w43,e2⟩:=be e2
 refine Wt rfl rfl rfl hg42 rfl rfl (O_arI rfl rfl rfl (ck_e w43).2 (W_re (congrArg sI (ck_e w43).1) ?_))
 obtain ⟨x44,w44,e2⟩:=be e2
 refine Wt rfl rfl rfl hg42 rfl rfl (O_indexAddr_own (k := .int) tyL_28 rfl rfl (idx_lt w44).1 (idx_lt w44).2 ?_)
 refine Wt rfl rfl rfl hg42 rfl rfl (O_load_opt (k := .int) (i := (x43).toNat) (j := 0) ty1_3 rfl rfl (idx_e w44).2 rfl ?_)
 refine Wt rfl rfl rfl hg42 rfl rfl (O_cmp rfl rfl rfl ?_)
 refine go ?_
 exact jm e2 (tl [0, 0, 0] 0 rfl rfl)
 refine go ?_
 exact jm e2 (tl [0, 0, 0] 0 rfl rfl)
 rintro z hi
 subst hi
 refine C_cd rfl e1 (fun e1 => ?_) (fun e1 => ?_)
 refine go ?_
 obtain ⟨x46,w46,e1⟩:=be e1
 refine W rfl (O_arI rfl rfl rfl (ck_e w46).2 (W_re (congrArg sI (ck_e w46).1) ?_))
 refine go ?_
 obtain ⟨x47,w47,e1⟩:=be e1
 refine W rfl (O_arI rfl rfl rfl (ck_e w47).2 (W_re (congrArg sI (ck_e w47).1) ?_))
 obtain ⟨r48,hr48,e1⟩:=be e1
 refine W rfl (O_call0 (F := F) fn_27 rfl (F27_ok hG fuel a2 a3 a4 a5 a6 a7 a8 a9 a10 a11 y34 y35 x46 x47 b1 q12 q14 hr48) (sel_perm [0, 0, 0] _) ?_)
 refine go ?_
 exact jm e1 (tl [0, 0, 0] 0 rfl rfl)
 refine go ?_
 exact jm e1 (tl [0, 0, 0] 0 rfl rfl)
 rintro z hi
 subst hi
 refine go ?_
 obtain ⟨x49,w49,e0⟩:=be e0
 refine W rfl (O_arI rfl rfl rfl (ck_e w49).2 (W_re (congrArg sI (ck_e w49).1) ?_))
 refine go ?_
 exact jmpL (i38.1, i38.2, x49) e0 (tl [0, 0, 0] 0 rfl rfl)
 refine go ?_
 obtain rfl := so e0
 refine go ?_
 exact rn' [0, 0, 0] 0 ⟨rfl, rfl⟩ rfl
def F98 (fuel : Nat) (a1 : Int) : Option (Bool) :=
 Option.bind (α := Bool) (
 bif (decide (a1 ≥ (65 : Int))) then (
 bif (decide (a1 ≤ (90 : Int))) then (
 some true) else (
 bif (decide (a1 ≥ (97 : Int))) then (
 bif (decide (a1 ≤ (122 : Int))) then (
 some true) else (
 some (a1 == (95 : Int)))) else (
 some (a1 == (95 : Int))))) else (
 bif (decide (a1 ≥ (97 : Int))) then (
 bif (decide (a1 ≤ (122 : Int))) then (
 some true) else (
 some (a1 == (95 : Int)))) else (
 some (a1 == (95 : Int))))) fun i2 =>
 some i2
theorem F98_ok {w0 : World} (hG : Globs w0) (fuel : Nat) : ∀ (a1 : Int) {r : Bool} (e0 : F98 fuel a1 = some r), Fn w0 prog 98 [.val (.int .u8 a1)] [] (fun s H => s = sB r ∧ H = []) := by
 intro a1 r e0
 rw [F98] at e0
 refine fn_intro2 21 [.tmp 2] func98 rfl rfl rfl rfl fun X hX F => ?_
 refine C_turn (T_start [(0, .val (.int .u8 a1))] rfl (F) rfl) ?_
 refine gs ?_
 obtain ⟨i2,e1,e0⟩:=be e0
 refine C_cut (ι := Bool) (fun i => [(2, sB i)]) (fun i => F) (fun i => i2 = i) ?_ ?_
 refine go ?_
 obtain ⟨hg3, e1⟩ | ⟨hg3, e1⟩ := bc e1
 refine Wt rfl rfl rfl hg3 rfl rfl (O_move rfl ?_)
 refine Wt rfl rfl rfl hg3 rfl rfl (O_cmp rfl rfl rfl ?_)
 refine go ?_
 obtain ⟨hg4, e1⟩ | ⟨hg4, e1⟩ := bc e1
 refine go ?_
 exact jm e1 (tl [] 0 rfl rfl)
 refine Wt rfl rfl rfl hg4 rfl rfl (O_move rfl ?_)
 refine Wt rfl rfl rfl hg4 rfl rfl (O_cmp rfl rfl rfl ?_)
 refine Wt rfl rfl rfl hg4 rfl rfl (O_move rfl ?_)
 obtain ⟨hg5, e1⟩ | ⟨hg5, e1⟩ := bc e1
 refine Wt rfl rfl rfl hg5 rfl rfl (O_move rfl ?_)
 refine Wt rfl rfl rfl hg5 rfl rfl (O_cmp rfl rfl rfl ?_)
 refine Wt rfl rfl rfl hg4 rfl rfl (O_pick rfl (fun _ => rfl) (fun h => (no_tf hg5 h).elim) ?_)
 refine go ?_
 obtain ⟨hg6, e1⟩ | ⟨hg6, e1⟩ := bc e1
 refine go ?_
 exact jm e1 (tl [] 0 rfl rfl)
 refine Wt rfl rfl rfl hg6 rfl rfl (O_move rfl ?_)
 refine Wt rfl rfl rfl hg6 rfl rfl (O_cmp rfl rfl rfl ?_)
 refine go ?_
 exact jm e1 (tl [] 0 rfl rfl)
 refine go ?_
 refine Wt rfl rfl rfl hg4 rfl rfl (O_pick rfl (fun h => (no_tf h hg5).elim) (fun _ => rfl) ?_)
 refine go ?_
 refine Wt rfl rfl rfl rfl rfl rfl (O_move rfl ?_)
 refine Wt rfl rfl rfl rfl rfl rfl (O_cmp rfl rfl rfl ?_)
 refine go ?_
 exact jm e1 (tl [] 0 rfl rfl)
 refine go ?_
 refine Wt rfl rfl rfl rfl rfl rfl (O_move rfl ?_)
 refine Wt rfl rfl rfl rfl rfl rfl (O_cmp rfl rfl rfl ?_)
 refine Wt rfl rfl rfl rfl rfl rfl (O_move rfl ?_)
 obtain ⟨hg7, e1⟩ | ⟨hg7, e1⟩ := bc e1
 refine Wt rfl rfl rfl hg7 rfl rfl (O_move rfl ?_)
 refine Wt rfl rfl rfl hg7 rfl rfl (O_cmp rfl rfl rfl ?_)
 refine Wt rfl rfl rfl rfl rfl rfl (O_pick rfl (fun _ => rfl) (fun h => (no_tf hg7 h).elim) ?_)
 refine go ?_
 obtain ⟨hg8, e1⟩ | ⟨hg8, e1⟩ := bc e1
 refine go ?_
 exact jm e1 (tl [] 0 rfl rfl)
 refine Wt rfl rfl rfl hg8 rfl rfl (O_move rfl ?_)
 refine Wt rfl rfl rfl hg8 rfl rfl (O_cmp rfl rfl rfl ?_)
 refine go ?_
 exact jm e1 (tl [] 0 rfl rfl)
 refine go ?_
 refine Wt rfl rfl rfl rfl rfl rfl (O_pick rfl (fun h => (no_tf h hg7).elim) (fun _ => rfl) ?_)
 refine go ?_
 refine Wt rfl rfl rfl rfl rfl rfl (O_move rfl ?_)
 refine Wt rfl rfl rfl rfl rfl rfl (O_cmp rfl rfl rfl ?_)
 refine go ?_
 exact jm e1 (tl [] 0 rfl rfl)
 rintro z hi
 subst hi
 refine go ?_
 obtain rfl := so e0
 refine go ?_
 exact rt [] 0 ⟨rfl, rfl⟩ rfl rfl
def F101 (fuel : Nat) (a1 : Int) : Option (Bool) :=
 Option.bind (α := Bool) (
 bif (decide (a1 ≥ (48 : Int))) then (
 some (decide (a1 ≤ (57 : Int)))) else (
 some false)) fun i2 =>
 some i2
theorem F101_ok {w0 : World} (hG : Globs w0) (fuel : Nat) : ∀ (a1 : Int) {r : Bool} (e0 : F101 fuel a1 = some r), Fn w0 prog 101 [.val (.int .u8 a1)] [] (fun s H => s = sB r ∧ H = []) := by
 intro a1 r e0
 rw [F101] at e0
 refine fn_intro2 9 [.tmp 2] func101 rfl rfl rfl rfl fun X hX F => ?_
 refine C_turn (T_start [(0, .val (.int .u8 a1))] rfl (F) rfl) ?_
 refine gs ?_
 obtain ⟨i2,e1,e0⟩:=be e0
 refine C_cut (ι := Bool) (fun i => [(2, sB i)]) (fun i => F) (fun i => i2 = i) ?_ ?_
 refine go ?_
 obtain ⟨hg3, e1⟩ | ⟨hg3, e1⟩ := bc e1
 refine Wt rfl rfl rfl hg3 rfl rfl (O_move rfl ?_)
 refine Wt rfl rfl rfl hg3 rfl rfl (O_cmp rfl rfl rfl ?_)
 refine go ?_
 exact jm e1 (tl [] 0 rfl rfl)
 refine go ?_
 exact jm e1 (tl [] 0 rfl rfl)
 rintro z hi
 subst hi
 refine go ?_
 obtain rfl := so e0
 refine go ?_
 exact rt [] 0 ⟨rfl, rfl⟩ rfl rfl
def F100 (fuel : Nat) (a1 : Int) : Option (Bool) :=
 Option.bind (α := Bool) (
 (F98 fuel a1).bind fun r3 =>
 bif r3 then (
 some true) else (
 (F101 fuel a1).bind fun r5 =>
 some r5)) fun i2 =>
 some i2
theorem F100_ok {w0 : World} (hG : Globs w0) (fuel : Nat) : ∀ (a1 : Int) {r : Bool} (e0 : F100 fuel a1 = some r), Fn w0 prog 100 [.val (.int .u8 a1)] [] (fun s H => s = sB r ∧ H = []) := by
 intro a1 r e0
 rw [F100] at e0
 refine fn_intro2 9 [.tmp 2] func100 rfl rfl rfl rfl fun X hX F => ?_
 refine C_turn (T_start [(0, .val (.int .u8 a1))] rfl (F) rfl) ?_
 refine gs ?_
 obtain ⟨i2,e1,e0⟩:=be e0
 refine C_cut (ι := Bool) (fun i => [(2, sB i)]) (fun i => F) (fun i => i2 = i) ?_ ?_
 refine go ?_
 obtain ⟨r3,hr3,e1⟩:=be e1
 refine W rfl (O_callP fn_98 rfl (F98_ok hG fuel a1 hr3) ?_)
 refine go ?_
 obtain ⟨hg4, e1⟩ | ⟨hg4, e1⟩ := bc e1
 refine go ?_
 exact jm e1 (tl [] 0 rfl rfl)
 refine Wt rfl rfl rfl hg4 rfl rfl (O_move rfl ?_)
 obtain ⟨r5,hr5,e1⟩:=be e1
 refine Wt rfl rfl rfl hg4 rfl rfl (O_callP fn_101 rfl (F101_ok hG fuel a1 hr5) ?_)
 refine go ?_
 exact jm e1 (tl [] 0 rfl rfl)
 rintro z hi
 subst hi
 refine go ?_
 obtain rfl := so e0
 refine go ?_
 exact rt [] 0 ⟨rfl, rfl⟩ rfl rfl
def F99_l3 (fuel : Nat) (a1 : List UInt8) : Nat → Int → Option (Int)
 | 0, _ => none
 | n + 1, y4 =>
 Option.bind (α := Bool) (
 bif (decide (y4 < (a1.length : Int))) then (
 (idx a1 y4).bind fun x7 =>
 (F100 fuel (x7.toNat : Int)).bind fun r8 =>
 some r8) else (
 some false)) fun i5 =>
 bif i5 then (
 (ck (y4 + (1 : Int))).bind fun x10 =>
 F99_l3 fuel a1 n x10) else (
 some y4)
def F99 (fuel : Nat) (a1 : List UInt8) : Option (Int) :=
 Option.bind (α := Int) (
 F99_l3 fuel a1 fuel (0 : Int)) fun i2 =>
 some i2
theorem F99_ok {w0 : World} (hG : Globs w0) (fuel : Nat) : ∀ (a1 : List UInt8) {r : Int} (e0 : F99 fuel a1 = some r), Fn w0 prog 99 [.isl .u8 a1, .val (.func (.func 100) #[] #[])] [] (fun s H => s = sI r ∧ H = []) := by
 intro a1 r e0
 rw [F99] at e0
 refine fn_intro2 21 [.tmp 4] func99 rfl rfl rfl rfl fun X hX F => ?_
 refine C_turn (T_start [(0, .isl .u8 a1), (1, .val (.func (.func 100) #[] #[]))] rfl (F) rfl) ?_
 refine gs ?_
 refine gs ?_
 obtain ⟨i2,e1,e0⟩:=be e0
 refine C_cut (ι := Int) (fun i => [(5, sI i)]) (fun i => F) (fun i => i2 = i) ?_ ?_
 refine go ?_
 refine C_loopF (κ := Int) (fun d => [(0, .isl .u8 a1), (1, .val (.func (.func 100) #[] #[])), (5, sI d)]) (fun d => F) (fun n d => F99_l3 fuel a1 n d) i2 fuel (0 : Int) e1 (tl [] 0 rfl rfl) (fun _ => rfl) ?_
 rintro n y4 hF
 have e1 : F99_l3 fuel a1 (n + 1) y4 = some i2 := hF
 rw [F99_l3] at e1
 clear hF
 refine C_seq ?_
 obtain ⟨i5,e2,e1⟩:=be e1
 refine C_cut (ι := Bool) (fun i => [(0, .isl .u8 a1), (1, .val (.func (.func 100) #[] #[])), (5, sI y4), (17, sB i)]) (fun i => F) (fun i => i5 = i) ?_ ?_
 refine go ?_
 obtain ⟨hg6, e2⟩ | ⟨hg6, e2⟩ := bc e2
 refine Wt rfl rfl rfl hg6 rfl rfl (O_move rfl ?_)
 refine Wt rfl rfl rfl hg6 rfl rfl (O_move rfl ?_)
 refine Wt rfl rfl rfl hg6 rfl rfl (O_move rfl ?_)
 obtain ⟨x7,w7,e2⟩:=be e2
 refine Wt rfl rfl rfl hg6 rfl rfl (O_indexAddr (k := .u8) (z := x7) tyL_63 rfl rfl (idx_e w7).1 (idx_e w7).2 ?_)
 refine Wt rfl rfl rfl hg6 rfl rfl (O_load_ipt ty1_5 rfl rfl ?_)
 obtain ⟨r8,hr8,e2⟩:=be e2
 refine Wt rfl rfl rfl hg6 rfl rfl (O_callV0 (ss := [.val (.int .u8 (x7.toNat : Int))]) (F := F) rfl fn_100 rfl (F100_ok hG fuel (x7.toNat : Int) hr8) (sel_perm [] _) ?_)
 refine go ?_
 exact jm e2 (tl [] 0 rfl rfl)
 refine go ?_
 exact jm e2 (tl [] 0 rfl rfl)
 rintro z hi
 subst hi
 refine C_cd rfl e1 (fun e1 => ?_) (fun e1 => ?_)
 refine go ?_
 obtain ⟨x10,w10,e1⟩:=be e1
 refine W rfl (O_arI rfl rfl rfl (ck_e w10).2 (W_re (congrArg sI (ck_e w10).1) ?_))
 refine go ?_
 exact jmpL x10 e1 (tl [] 0 rfl rfl)
 refine go ?_
 exact jm e1 (tl [] 0 rfl rfl)
 rintro z hi
 subst hi
 refine gs ?_
 obtain rfl := so e0
 refine go ?_
 exact rt [] 0 ⟨rfl, rfl⟩ rfl rfl
def F103_l5 (fuel : Nat) (a2 : List ByteArray) (a3 : ByteArray) : Nat → Int → Option ((Unit ⊕ Int))
 | 0, _ => none
 | n + 1, y6 =>
 bif (decide (y6 < (a2.length : Int))) then (
 (idx a2 y6).bind fun x8 =>
 bif (decide (a3 = x8)) then (
 some (.inr y6)) else (
 (ck (y6 + (1 : Int))).bind fun x10 =>
 F103_l5 fuel a2 a3 n x10)) else (
 some (.inl ()))
def F103 (fuel : Nat) (a2 : List ByteArray) (a3 : ByteArray) : Option (Int) :=
 Option.bind (α := (Unit ⊕ Int)) (
 F103_l5 fuel a2 a3 fuel (0 : Int)) (Sum.elim (fun i4 =>
 some (-1 : Int)) (fun z => some z))
theorem F103_ok {w0 : World} (hG : Globs w0) (fuel : Nat) : ∀ (a2 : List ByteArray) (a3 : ByteArray) (q1 : Hnd) {r : Int} (e0 : F103 fuel a2 a3 = some r), Fn w0 prog 103 [.val (sl q1), sS a3] [ownA (sl q1) 9 .str a2] (fun s H => s = sI r ∧ H = [ownA (sl q1) 9 .str a2]) := by
 intro a2 a3 q1 r e0
 rw [F103] at e0
 refine fn_intro2 19 [.tmp 4] func103 rfl rfl rfl rfl fun X hX F => ?_
 refine C_turn (T_start [(0, .val (sl q1)), (1, sS a3)] rfl (ownA (sl q1) 9 .str a2 :: F) rfl) ?_
 refine gs ?_
 obtain ⟨o4,e1,e0⟩:=be e0
 refine C_cut (ι := Unit) (fun i => []) (fun i => ownA (sl q1) 9 .str a2 :: F) (fun i => o4 = .inl ()) ?_ ?_
 refine gs ?_
 refine W rfl (O_len_own tyl_67 rfl ?_)
 refine go ?_
 refine C_loopF (κ := Int) (fun d => [(0, .val (sl q1)), (1, sS a3), (7, sI (a2.length : Int)), (8, sI d)]) (fun d => ownA (sl q1) 9 .str a2 :: F) (fun n d => F103_l5 fuel a2 a3 n d) o4 fuel (0 : Int) e1 (tl [0] 0 rfl rfl) (fun _ => rfl) ?_
 rintro n y6 hF
 have e1 : F103_l5 fuel a2 a3 (n + 1) y6 = some o4 := hF
 rw [F103_l5] at e1
 clear hF
 refine gs ?_
 refine C_seq ?_
 refine C_cd rfl e1 (fun e1 => ?_) (fun e1 => ?_)
 refine go ?_
 refine gs ?_
 refine gs ?_
 refine gs ?_
 obtain ⟨x8,w8,e1⟩:=be e1
 refine W rfl (O_indexAddr_own (k := .str) tyL_67 rfl rfl (idx_lt w8).1 (idx_lt w8).2 ?_)
 refine W rfl (O_load_opt (k := .str) (i := (y6).toNat) (j := 0) ty1_9 rfl rfl (idx_e w8).2 rfl ?_)
 refine W rfl (O_seq rfl rfl ?_)
 refine go ?_
 refine C_cd rfl e1 (fun e1 => ?_) (fun e1 => ?_)
 refine gs ?_
 obtain rfl := so e1
 obtain rfl := so e0
 refine go ?_
 exact rt [0] 0 ⟨rfl, rfl⟩ rfl rfl
 refine go ?_
 obtain ⟨x10,w10,e1⟩:=be e1
 refine W rfl (O_arI rfl rfl rfl (ck_e w10).2 (W_re (congrArg sI (ck_e w10).1) ?_))
 refine go ?_
 exact jmpL x10 e1 (tl [0] 0 rfl rfl)
 refine go ?_
 obtain rfl := so e1
 exact jmp () rfl (tl [0] 0 rfl rfl)
 rintro ⟨⟩ hi
 subst hi
 have e0 := elim_l e0
 refine gs ?_
 obtain rfl := so e0
 refine go ?_
 exact rt [0] 0 ⟨rfl, rfl⟩ rfl rfl
def F71 (fuel : Nat) (a2 : List ByteArray) (a3 : ByteArray) : Option (Bool) :=
 (F103 fuel a2 a3).bind fun r4 =>
 some (decide (r4 ≥ (0 : Int)))
theorem F71_ok {w0 : World} (hG : Globs w0) (fuel : Nat) : ∀ (a2 : List ByteArray) (a3 : ByteArray) (q1 : Hnd) {r : Bool} (e0 : F71 fuel a2 a3 = some r), Fn w0 prog 71 [.val (sl q1), sS a3] [ownA (sl q1) 9 .str a2] (fun s H => s = sB r ∧ H = [ownA (sl q1) 9 .str a2]) := by
 intro a2 a3 q1 r e0
 rw [F71] at e0
 refine fn_intro2 9 [.tmp 4] func71 rfl rfl rfl rfl fun X hX F => ?_
 refine C_turn (T_start [(0, .val (sl q1)), (1, sS a3)] rfl (ownA (sl q1) 9 .str a2 :: F) rfl) ?_
 refine gs ?_
 refine gs ?_
 obtain ⟨r4,hr4,e0⟩:=be e0
 refine W rfl (O_call0 (F := F) fn_103 rfl (F103_ok hG fuel a2 a3 q1 hr4) (sel_perm [0] _) ?_)
 refine go ?_
 obtain rfl := so e0
 refine go ?_
 exact rt [0] 0 ⟨rfl, rfl⟩ rfl rfl
def F102 (fuel : Nat) (a1 : ByteArray) : Option (Bool) :=
 (F71 fuel [(⟨#[112, 97, 99, 107, 97, 103, 101]⟩ : ByteArray), (⟨#[105, 109, 112, 111, 114, 116]⟩ : ByteArray), (⟨#[99, 111, 110, 115, 116]⟩ : ByteArray), (⟨#[118, 97, 114]⟩ : ByteArray), (⟨#[116, 121, 112, 101]⟩ : ByteArray), (⟨#[102, 117, 110, 99]⟩ : ByteArray), (⟨#[109, 97, 112]⟩ : ByteArray), (⟨#[115, 116, 114, 117, 99, 116]⟩ : ByteArray), (⟨#[105, 102]⟩ : ByteArray), (⟨#[101, 108, 115, 101]⟩ : ByteArray), (⟨#[102, 111, 114]⟩ : ByteArray), (⟨#[114, 101, 116, 117, 114, 110]⟩ : ByteArray), (⟨#[98, 114, 101, 97, 107]⟩ : ByteArray), (⟨#[99, 111, 110, 116, 105, 110, 117, 101]⟩ : ByteArray)] a1).bind fun r3 =>
 some r3
theorem F102_ok {w0 : World} (hG : Globs w0) (fuel : Nat) : ∀ (a1 : ByteArray) {r : Bool} (e0 : F102 fuel a1 = some r), Fn w0 prog 102 [sS a1] [] (fun s H => s = sB r ∧ H = []) := by
 intro a1 r e0
 rw [F102] at e0
 refine fn_intro2 6 [.tmp 2] func102 rfl rfl rfl rfl fun X hX F => ?_
 refine C_turn (T_start [(0, sS a1)] rfl (F) rfl) ?_
 refine gs ?_
 refine gs ?_
 refine W rfl (A_build 9 16 .str [(⟨#[112, 97, 99, 107, 97, 103, 101]⟩ : ByteArray), (⟨#[105, 109, 112, 111, 114, 116]⟩ : ByteArray), (⟨#[99, 111, 110, 115, 116]⟩ : ByteArray), (⟨#[118, 97, 114]⟩ : ByteArray), (⟨#[116, 121, 112, 101]⟩ : ByteArray), (⟨#[102, 117, 110, 99]⟩ : ByteArray), (⟨#[109, 97, 112]⟩ : ByteArray), (⟨#[115, 116, 114, 117, 99, 116]⟩ : ByteArray), (⟨#[105, 102]⟩ : ByteArray), (⟨#[101, 108, 115, 101]⟩ : ByteArray), (⟨#[102, 111, 114]⟩ : ByteArray), (⟨#[114, 101, 116, 117, 114, 110]⟩ : ByteArray), (⟨#[98, 114, 101, 97, 107]⟩ : ByteArray), (⟨#[99, 111, 110, 116, 105, 110, 117, 101]⟩ : ByteArray)] (ss := [(0, sS (⟨#[112, 97, 99, 107, 97, 103, 101]⟩ : ByteArray)), (1, sS (⟨#[105, 109, 112, 111, 114, 116]⟩ : ByteArray)), (2, sS (⟨#[99, 111, 110, 115, 116]⟩ : ByteArray)), (3, sS (⟨#[118, 97, 114]⟩ : ByteArray)), (4, sS (⟨#[116, 121, 112, 101]⟩ : ByteArray)), (5, sS (⟨#[102, 117, 110, 99]⟩ : ByteArray)), (6, sS (⟨#[109, 97, 112]⟩ : ByteArray)), (7, sS (⟨#[115, 116, 114, 117, 99, 116]⟩ : ByteArray)), (8, sS (⟨#[105, 102]⟩ : ByteArray)), (9, sS (⟨#[101, 108, 115, 101]⟩ : ByteArray)), (10, sS (⟨#[102, 111, 114]⟩ : ByteArray)), (11, sS (⟨#[114, 101, 116, 117, 114, 110]⟩ : ByteArray)), (12, sS (⟨#[98, 114, 101, 97, 107]⟩ : ByteArray)), (13, sS (⟨#[99, 111, 110, 116, 105, 110, 117, 101]⟩ : ByteArray))]) tyE_67 tyZ_9 rfl rfl rfl rfl rfl rfl fun q2 => ?_)
 refine go ?_
 obtain ⟨r3,hr3,e0⟩:=be e0
 refine W rfl (O_call0 (F := F) fn_71 rfl (F71_ok hG fuel [(⟨#[112, 97, 99, 107, 97, 103, 101]⟩ : ByteArray), (⟨#[105, 109, 112, 111, 114, 116]⟩ : ByteArray), (⟨#[99, 111, 110, 115, 116]⟩ : ByteArray), (⟨#[118, 97, 114]⟩ : ByteArray), (⟨#[116, 121, 112, 101]⟩ : ByteArray), (⟨#[102, 117, 110, 99]⟩ : ByteArray), (⟨#[109, 97, 112]⟩ : ByteArray), (⟨#[115, 116, 114, 117, 99, 116]⟩ : ByteArray), (⟨#[105, 102]⟩ : ByteArray), (⟨#[101, 108, 115, 101]⟩ : ByteArray), (⟨#[102, 111, 114]⟩ : ByteArray), (⟨#[114, 101, 116, 117, 114, 110]⟩ : ByteArray), (⟨#[98, 114, 101, 97, 107]⟩ : ByteArray), (⟨#[99, 111, 110, 116, 105, 110, 117, 101]⟩ : ByteArray)] a1 q2 hr3) (sel_perm [0] _) ?_)
 refine go ?_
 obtain rfl := so e0
 refine go ?_
 exact rt [] 1 ⟨rfl, rfl⟩ rfl rfl
def F70 (fuel : Nat) (a1 : ByteArray) : Option (Bool) :=
 Option.bind (α := Bool) (
 bif (!decide (a1 = (⟨#[]⟩ : ByteArray))) then (
 (sidx a1 (0 : Int)).bind fun x4 =>
 (F98 fuel (x4.toNat : Int)).bind fun r5 =>
 bif r5 then (
 if (a1).size ≤ 1000000000 then (
 (F99 fuel ((a1).data.toList)).bind fun r8 =>
 bif (r8 == (a1.size : Int)) then (
 (F102 fuel a1).bind fun r10 =>
 some (!r10)) else (
 some false)) else none) else (
 some false)) else (
 some false)) fun i2 =>
 some i2
theorem F70_ok {w0 : World} (hG : Globs w0) (fuel : Nat) : ∀ (a1 : ByteArray) {r : Bool} (e0 : F70 fuel a1 = some r), Fn w0 prog 70 [sS a1] [] (fun s H => s = sB r ∧ H = []) := by
 intro a1 r e0
 rw [F70] at e0
 refine fn_intro2 23 [.tmp 2] func70 rfl rfl rfl rfl fun X hX F => ?_
 refine C_turn (T_start [(0, sS a1)] rfl (F) rfl) ?_
 refine gs ?_
 obtain ⟨i2,e1,e0⟩:=be e0
 refine C_cut (ι := Bool) (fun i => [(2, sB i)]) (fun i => F) (fun i => i2 = i) ?_ ?_
 refine go ?_
 refine W rfl (O_sne rfl rfl ?_)
 refine go ?_
 obtain ⟨hg3, e1⟩ | ⟨hg3, e1⟩ := bc e1
 refine Wt rfl rfl rfl hg3 rfl rfl (O_move rfl ?_)
 obtain ⟨x4,w4,e1⟩:=be e1
 refine Wt rfl rfl rfl hg3 rfl rfl (O_index_str tys_9 rfl rfl (sidx_e w4).1 (sidx_e w4).2 ?_)
 obtain ⟨r5,hr5,e1⟩:=be e1
 refine Wt rfl rfl rfl hg3 rfl rfl (O_callP fn_98 rfl (F98_ok hG fuel (x4.toNat : Int) hr5) ?_)
 refine go ?_
 obtain ⟨hg6, e1⟩ | ⟨hg6, e1⟩ := bc e1
 refine Wt rfl rfl rfl hg6 rfl rfl (O_move rfl ?_)
 obtain ⟨h7, e1⟩ := req_e e1
 refine Wt rfl rfl rfl hg6 rfl rfl (O_bytes tys_9 tyQ_63 tyU_5 rfl h7 ?_)
 obtain ⟨r8,hr8,e1⟩:=be e1
 refine Wt rfl rfl rfl hg6 rfl rfl (O_callP fn_99 rfl (F99_ok hG fuel ((a1).data.toList) hr8) ?_)
 refine Wt rfl rfl rfl hg6 rfl rfl (O_move rfl ?_)
 refine Wt rfl rfl rfl hg6 rfl rfl (O_len_str tys_9 rfl ?_)
 refine Wt rfl rfl rfl hg6 rfl rfl (O_cmp rfl rfl rfl ?_)
 refine go ?_
 obtain ⟨hg9, e1⟩ | ⟨hg9, e1⟩ := bc e1
 refine Wt rfl rfl rfl hg9 rfl rfl (O_move rfl ?_)
 obtain ⟨r10,hr10,e1⟩:=be e1
 refine Wt rfl rfl rfl hg9 rfl rfl (O_callP fn_102 rfl (F102_ok hG fuel a1 hr10) ?_)
 refine Wt rfl rfl rfl hg9 rfl rfl (O_not rfl ?_)
 refine go ?_
 exact jm e1 (tl [] 0 rfl rfl)
 refine go ?_
 exact jm e1 (tl [] 0 rfl rfl)
 refine go ?_
 exact jm e1 (tl [] 0 rfl rfl)
 refine go ?_
 exact jm e1 (tl [] 0 rfl rfl)
 rintro z hi
 subst hi
 refine go ?_
 obtain rfl := so e0
 refine go ?_
 exact rt [] 0 ⟨rfl, rfl⟩ rfl rfl
def F131 (fuel : Nat) (a1 : List UInt8) : Option (Int × Int) :=
 if 0 < a1.length then (
 Option.bind (α := Bool) (
 bif ((runeOf a1) == (65533 : Int)) then (
 some (decide ((runeLen a1) < (2 : Int)))) else (
 some false)) fun i3 =>
 bif i3 then (
 some ((-1 : Int), (0 : Int))) else (
 (ck (runeOf a1)).bind fun x6 =>
 some (x6, (runeLen a1)))) else none
theorem F131_ok {w0 : World} (hG : Globs w0) (fuel : Nat) : ∀ (a1 : List UInt8) {r : Int × Int} (e0 : F131 fuel a1 = some r), Fn w0 prog 131 [.isl .u8 a1] [] (fun s H => s = .tup [sI r.1, sI r.2] ∧ H = []) := by
 intro a1 r e0
 rw [F131] at e0
 refine fn_intro2 20 [.tmp 2, .tmp 3] func131 rfl rfl rfl rfl fun X hX F => ?_
 refine C_turn (T_start [(0, .isl .u8 a1)] rfl (F) rfl) ?_
 refine gs ?_
 refine gs ?_
 obtain ⟨h2, e0⟩ := req_e e0
 refine W rfl (O_callP fn_142 rfl (P_decode hG h2) ?_)
 refine go ?_
 refine C_seq ?_
 obtain ⟨i3,e1,e0⟩:=be e0
 refine C_cut (ι := Bool) (fun i => [(4, .val (.int .i32 (runeOf a1))), (5, sI (runeLen a1)), (16, sB i)]) (fun i => F) (fun i => i3 = i) ?_ ?_
 refine go ?_
 obtain ⟨hg4, e1⟩ | ⟨hg4, e1⟩ := bc e1
 refine Wt rfl rfl rfl hg4 rfl rfl (O_move rfl ?_)
 refine Wt rfl rfl rfl hg4 rfl rfl (O_cmp rfl rfl rfl ?_)
 refine go ?_
 exact jm e1 (tl [] 0 rfl rfl)
 refine go ?_
 exact jm e1 (tl [] 0 rfl rfl)
 rintro z hi
 subst hi
 refine C_cd rfl e0 (fun e0 => ?_) (fun e0 => ?_)
 refine gs ?_
 obtain rfl := so e0
 refine go ?_
 exact ret_ok (T_le (E' := [(2, sI (-1 : Int)), (3, sI (0 : Int))]) (.mk [] 0 rfl ⟨rfl, rfl, trivial⟩)) [] 0 [sI (-1 : Int), sI (0 : Int)] [] (.tmp (t := 2) _ rfl (.tmp (t := 3) _ rfl .nil)) rfl ⟨rfl, rfl⟩
 refine go ?_
 refine gs ?_
 obtain ⟨x6,w6,e0⟩:=be e0
 refine W rfl (O_conv_int tyU_21 tyU_3 rfl (W_re (congrArg sI (conv_ck w6)) ?_))
 refine go ?_
 obtain rfl := so e0
 refine go ?_
 exact ret_ok (T_le (E' := [(2, sI x6), (3, sI (runeLen a1))]) (.mk [] 0 rfl ⟨rfl, rfl, trivial⟩)) [] 0 [sI x6, sI (runeLen a1)] [] (.tmp (t := 2) _ rfl (.tmp (t := 3) _ rfl .nil)) rfl ⟨rfl, rfl⟩
def F111_l3 (fuel : Nat) (a1 : List UInt8) : Nat → Int → Option (Int)
 | 0, _ => none
 | n + 1, y4 =>
 bif (decide (y4 < (a1.length : Int))) then (
 if 0 ≤ y4 ∧ y4 ≤ ((a1).length : Int) ∧ ((a1).length : Int) ≤ ((a1).length : Int) then (
 (F131 fuel (((a1).drop (y4).toNat).take ((((a1).length : Int)).toNat - (y4).toNat))).bind fun r7 =>
 bif (r7.2 == (0 : Int)) then (
 some y4) else (
 (ck (y4 + r7.2)).bind fun x9 =>
 F111_l3 fuel a1 n x9)) else none) else (
 some y4)
def F111 (fuel : Nat) (a1 : List UInt8) : Option (Int) :=
 Option.bind (α := Int) (
 F111_l3 fuel a1 fuel (0 : Int)) fun i2 =>
 some i2
theorem F111_ok {w0 : World} (hG : Globs w0) (fuel : Nat) : ∀ (a1 : List UInt8) {r : Int} (e0 : F111 fuel a1 = some r), Fn w0 prog 111 [.isl .u8 a1] [] (fun s H => s = sI r ∧ H = []) := by
 intro a1 r e0
 rw [F111] at e0
 refine fn_intro2 23 [.tmp 2] func111 rfl rfl rfl rfl fun X hX F => ?_
 refine C_turn (T_start [(0, .isl .u8 a1)] rfl (F) rfl) ?_
 refine gs ?_
 refine C_scope ?_
 refine gs ?_
 refine C_seq ?_
 refine C_label ?_
 obtain ⟨i2,e1,e0⟩:=be e0
 refine C_cut (ι := Int) (fun i => [(3, sI i)]) (fun i => F) (fun i => i2 = i) ?_ ?_
 refine go ?_
 refine C_loopF (κ := Int) (fun d => [(0, .isl .u8 a1), (3, sI d)]) (fun d => F) (fun n d => F111_l3 fuel a1 n d) i2 fuel (0 : Int) e1 (tl [] 0 rfl rfl) (fun _ => rfl) ?_
 rintro n y4 hF
 have e1 : F111_l3 fuel a1 (n + 1) y4 = some i2 := hF
 rw [F111_l3] at e1
 clear hF
 refine C_seq ?_
 refine gs ?_
 refine C_cd rfl e1 (fun e1 => ?_) (fun e1 => ?_)
 refine go ?_
 refine gs ?_
 obtain ⟨h6, e1⟩ := req_e e1
 refine W rfl (O_sub_isl (k := .u8) (k1 := .i64) (k2 := .i64) (some y4) none tyL_63 rfl rfl rfl h6 ?_)
 obtain ⟨r7,hr7,e1⟩:=be e1
 refine W rfl (O_callP fn_131 rfl (F131_ok hG fuel (((a1).drop (y4).toNat).take ((((a1).length : Int)).toNat - (y4).toNat)) hr7) ?_)
 refine go ?_
 refine C_seq ?_
 refine gs ?_
 refine C_cd rfl e1 (fun e1 => ?_) (fun e1 => ?_)
 refine go ?_
 exact jm e1 (tl [] 0 rfl rfl)
 refine go ?_
 obtain ⟨x9,w9,e1⟩:=be e1
 refine W rfl (O_arI rfl rfl rfl (ck_e w9).2 (W_re (congrArg sI (ck_e w9).1) ?_))
 refine go ?_
 exact jmpL x9 e1 (tl [] 0 rfl rfl)
 refine go ?_
 exact jm e1 (tl [] 0 rfl rfl)
 rintro z hi
 subst hi
 refine gs ?_
 obtain rfl := so e0
 refine go ?_
 exact rt [] 0 ⟨rfl, rfl⟩ rfl rfl
def F113 (fuel : Nat) (a1 : Tok) : Option (Bool) :=
 bif (a1.kind == (1 : Int)) then (
 Option.bind (α := Bool) (
 (F102 fuel a1.text).bind fun r5 =>
 bif (!r5) then (
 some true) else (
 bif (decide (a1.text = (⟨#[114, 101, 116, 117, 114, 110]⟩ : ByteArray))) then (
 some true) else (
 bif (decide (a1.text = (⟨#[98, 114, 101, 97, 107]⟩ : ByteArray))) then (
 some true) else (
 some (decide (a1.text = (⟨#[99, 111, 110, 116, 105, 110, 117, 101]⟩ : ByteArray))))))) fun i4 =>
 some i4) else (
 Option.bind (α := Bool) (
 bif (a1.kind == (2 : Int)) then (
 some (a1.kind == (2 : Int))) else (
 some (a1.kind == (3 : Int)))) fun i9 =>
 bif i9 then (
 some true) else (
 bif (a1.kind == (4 : Int)) then (
 (F71 fuel [(⟨#[41]⟩ : ByteArray), (⟨#[93]⟩ : ByteArray), (⟨#[125]⟩ : ByteArray), (⟨#[43, 43]⟩ : ByteArray), (⟨#[45, 45]⟩ : ByteArray)] a1.text).bind fun r14 =>
 some r14) else (
 some false)))
theorem F113_ok {w0 : World} (hG : Globs w0) (fuel : Nat) : ∀ (a1 : Tok) {r : Bool} (e0 : F113 fuel a1 = some r), Fn w0 prog 113 [.agg [sI a1.kind, sS a1.text, sI a1.at_, sB a1.first]] [] (fun s H => s = sB r ∧ H = []) := by
 intro a1 r e0
 rw [F113] at e0
 refine fn_intro2 35 [.tmp 2] func113 rfl rfl rfl rfl fun X hX F => ?_
 refine C_turn (T_start [(0, .agg [sI a1.kind, sS a1.text, sI a1.at_, sB a1.first])] rfl (F) rfl) ?_
 refine gs ?_
 refine W rfl (O_box rfl rfl fun b2 => ?_)
 refine go ?_
 refine C_seq ?_
 refine gs ?_
 refine gs ?_
 refine C_cd rfl e0 (fun e0 => ?_) (fun e0 => ?_)
 obtain ⟨i4,e1,e0⟩:=be e0
 refine C_cut (ι := Bool) (fun i => [(2, sB i)]) (fun i => F) (fun i => i4 = i) ?_ ?_
 refine go ?_
 obtain ⟨r5,hr5,e1⟩:=be e1
 refine W rfl (O_callP fn_102 rfl (F102_ok hG fuel a1.text hr5) ?_)
 refine go ?_
 obtain ⟨hg6, e1⟩ | ⟨hg6, e1⟩ := bc e1
 refine go ?_
 exact jm e1 (tl [] 1 rfl rfl)
 refine Wt rfl rfl rfl hg6 rfl rfl (O_fieldAddr tyF_118_1 rfl ?_)
 refine Wt rfl rfl rfl hg6 rfl rfl (O_load ty1_9 rfl rfl ?_)
 refine Wt rfl rfl rfl hg6 rfl rfl (O_seq rfl rfl ?_)
 refine go ?_
 obtain ⟨hg7, e1⟩ | ⟨hg7, e1⟩ := bc e1
 refine go ?_
 exact jm e1 (tl [] 1 rfl rfl)
 refine Wt rfl rfl rfl hg7 rfl rfl (O_fieldAddr tyF_118_1 rfl ?_)
 refine Wt rfl rfl rfl hg7 rfl rfl (O_load ty1_9 rfl rfl ?_)
 refine Wt rfl rfl rfl hg7 rfl rfl (O_seq rfl rfl ?_)
 refine go ?_
 obtain ⟨hg8, e1⟩ | ⟨hg8, e1⟩ := bc e1
 refine go ?_
 exact jm e1 (tl [] 1 rfl rfl)
 refine Wt rfl rfl rfl hg8 rfl rfl (O_fieldAddr tyF_118_1 rfl ?_)
 refine Wt rfl rfl rfl hg8 rfl rfl (O_load ty1_9 rfl rfl ?_)
 refine Wt rfl rfl rfl hg8 rfl rfl (O_seq rfl rfl ?_)
 refine go ?_
 exact jm e1 (tl [] 1 rfl rfl)
 rintro z hi
 subst hi
 refine go ?_
 obtain rfl := so e0
 refine go ?_
 exact rt [] 0 ⟨rfl, rfl⟩ rfl rfl
 obtain ⟨i9,e1,e0⟩:=be e0
 refine C_cut (ι := Bool) (fun i => [(1, sP b2 0), (4, sI a1.kind), (26, sB i)]) (fun i => bx6 b2 a1.kind a1.text a1.at_ a1.first :: F) (fun i => i9 = i) ?_ ?_
 refine gs ?_
 refine C_cd rfl e1 (fun e1 => ?_) (fun e1 => ?_)
 refine go ?_
 exact jm e1 (tl [0] 0 rfl rfl)
 refine go ?_
 exact jm e1 (tl [0] 0 rfl rfl)
 rintro z hi
 subst hi
 refine C_cd rfl e0 (fun e0 => ?_) (fun e0 => ?_)
 refine gs ?_
 obtain rfl := so e0
 refine go ?_
 exact rt [] 1 ⟨rfl, rfl⟩ rfl rfl
 refine gs ?_
 refine C_cd rfl e0 (fun e0 => ?_) (fun e0 => ?_)
 refine gs ?_
 refine W rfl (A_build 9 16 .str [(⟨#[41]⟩ : ByteArray), (⟨#[93]⟩ : ByteArray), (⟨#[125]⟩ : ByteArray), (⟨#[43, 43]⟩ : ByteArray), (⟨#[45, 45]⟩ : ByteArray)] (ss := [(0, sS (⟨#[41]⟩ : ByteArray)), (1, sS (⟨#[93]⟩ : ByteArray)), (2, sS (⟨#[125]⟩ : ByteArray)), (3, sS (⟨#[43, 43]⟩ : ByteArray)), (4, sS (⟨#[45, 45]⟩ : ByteArray))]) tyE_67 tyZ_9 rfl rfl rfl rfl rfl rfl fun q13 => ?_)
 refine go ?_
 obtain ⟨r14,hr14,e0⟩:=be e0
 refine W rfl (O_call0 (F := bx6 b2 a1.kind a1.text a1.at_ a1.first :: F) fn_71 rfl (F71_ok hG fuel [(⟨#[41]⟩ : ByteArray), (⟨#[93]⟩ : ByteArray), (⟨#[125]⟩ : ByteArray), (⟨#[43, 43]⟩ : ByteArray), (⟨#[45, 45]⟩ : ByteArray)] a1.text q13 hr14) (sel_perm [0] _) ?_)
 refine go ?_
 obtain rfl := so e0
 refine go ?_
 exact rt [] 2 ⟨rfl, rfl⟩ rfl rfl
 refine go ?_
 refine gs ?_
 obtain rfl := so e0
 refine go ?_
 exact rt [] 1 ⟨rfl, rfl⟩ rfl rfl
def F115 (fuel : Nat) (a1 : Int) : Option (Bool) :=
 Option.bind (α := Bool) (
 (F98 fuel a1).bind fun r3 =>
 bif r3 then (
 some true) else (
 (F101 fuel a1).bind fun r5 =>
 some r5)) fun i2 =>
 some i2
theorem F115_ok {w0 : World} (hG : Globs w0) (fuel : Nat) : ∀ (a1 : Int) {r : Bool} (e0 : F115 fuel a1 = some r), Fn w0 prog 115 [.val (.int .u8 a1)] [] (fun s H => s = sB r ∧ H = []) := by
 intro a1 r e0
 rw [F115] at e0
 refine fn_intro2 9 [.tmp 2] func115 rfl rfl rfl rfl fun X hX F => ?_
 refine C_turn (T_start [(0, .val (.int .u8 a1))] rfl (F) rfl) ?_
 refine gs ?_
 obtain ⟨i2,e1,e0⟩:=be e0
 refine C_cut (ι := Bool) (fun i => [(2, sB i)]) (fun i => F) (fun i => i2 = i) ?_ ?_
 refine go ?_
 obtain ⟨r3,hr3,e1⟩:=be e1
 refine W rfl (O_callP fn_98 rfl (F98_ok hG fuel a1 hr3) ?_)
 refine go ?_
 obtain ⟨hg4, e1⟩ | ⟨hg4, e1⟩ := bc e1
 refine go ?_
 exact jm e1 (tl [] 0 rfl rfl)
 refine Wt rfl rfl rfl hg4 rfl rfl (O_move rfl ?_)
 obtain ⟨r5,hr5,e1⟩:=be e1
 refine Wt rfl rfl rfl hg4 rfl rfl (O_callP fn_101 rfl (F101_ok hG fuel a1 hr5) ?_)
 refine go ?_
 exact jm e1 (tl [] 0 rfl rfl)
 rintro z hi
 subst hi
 refine go ?_
 obtain rfl := so e0
 refine go ?_
 exact rt [] 0 ⟨rfl, rfl⟩ rfl rfl
def F99v1_l3 (fuel : Nat) (a1 : List UInt8) : Nat → Int → Option (Int)
 | 0, _ => none
 | n + 1, y4 =>
 Option.bind (α := Bool) (
 bif (decide (y4 < (a1.length : Int))) then (
 (idx a1 y4).bind fun x7 =>
 (F115 fuel (x7.toNat : Int)).bind fun r8 =>
 some r8) else (
 some false)) fun i5 =>
 bif i5 then (
 (ck (y4 + (1 : Int))).bind fun x10 =>
 F99v1_l3 fuel a1 n x10) else (
 some y4)
def F99v1 (fuel : Nat) (a1 : List UInt8) : Option (Int) :=
 Option.bind (α := Int) (
 F99v1_l3 fuel a1 fuel (0 : Int)) fun i2 =>
 some i2
theorem F99v1_ok {w0 : World} (hG : Globs w0) (fuel : Nat) : ∀ (a1 : List UInt8) {r : Int} (e0 : F99v1 fuel a1 = some r), Fn w0 prog 99 [.isl .u8 a1, .val (.func (.func 115) #[] #[])] [] (fun s H => s = sI r ∧ H = []) := by
 intro a1 r e0
 rw [F99v1] at e0
 refine fn_intro2 21 [.tmp 4] func99 rfl rfl rfl rfl fun X hX F => ?_
 refine C_turn (T_start [(0, .isl .u8 a1), (1, .val (.func (.func 115) #[] #[]))] rfl (F) rfl) ?_
 refine gs ?_
 refine gs ?_
 obtain ⟨i2,e1,e0⟩:=be e0
 refine C_cut (ι := Int) (fun i => [(5, sI i)]) (fun i => F) (fun i => i2 = i) ?_ ?_
 refine go ?_
 refine C_loopF (κ := Int) (fun d => [(0, .isl .u8 a1), (1, .val (.func (.func 115) #[] #[])), (5, sI d)]) (fun d => F) (fun n d => F99v1_l3 fuel a1 n d) i2 fuel (0 : Int) e1 (tl [] 0 rfl rfl) (fun _ => rfl) ?_
 rintro n y4 hF
 have e1 : F99v1_l3 fuel a1 (n + 1) y4 = some i2 := hF
 rw [F99v1_l3] at e1
 clear hF
 refine C_seq ?_
 obtain ⟨i5,e2,e1⟩:=be e1
 refine C_cut (ι := Bool) (fun i => [(0, .isl .u8 a1), (1, .val (.func (.func 115) #[] #[])), (5, sI y4), (17, sB i)]) (fun i => F) (fun i => i5 = i) ?_ ?_
 refine go ?_
 obtain ⟨hg6, e2⟩ | ⟨hg6, e2⟩ := bc e2
 refine Wt rfl rfl rfl hg6 rfl rfl (O_move rfl ?_)
 refine Wt rfl rfl rfl hg6 rfl rfl (O_move rfl ?_)
 refine Wt rfl rfl rfl hg6 rfl rfl (O_move rfl ?_)
 obtain ⟨x7,w7,e2⟩:=be e2
 refine Wt rfl rfl rfl hg6 rfl rfl (O_indexAddr (k := .u8) (z := x7) tyL_63 rfl rfl (idx_e w7).1 (idx_e w7).2 ?_)
 refine Wt rfl rfl rfl hg6 rfl rfl (O_load_ipt ty1_5 rfl rfl ?_)
 obtain ⟨r8,hr8,e2⟩:=be e2
 refine Wt rfl rfl rfl hg6 rfl rfl (O_callV0 (ss := [.val (.int .u8 (x7.toNat : Int))]) (F := F) rfl fn_115 rfl (F115_ok hG fuel (x7.toNat : Int) hr8) (sel_perm [] _) ?_)
 refine go ?_
 exact jm e2 (tl [] 0 rfl rfl)
 refine go ?_
 exact jm e2 (tl [] 0 rfl rfl)
 rintro z hi
 subst hi
 refine C_cd rfl e1 (fun e1 => ?_) (fun e1 => ?_)
 refine go ?_
 obtain ⟨x10,w10,e1⟩:=be e1
 refine W rfl (O_arI rfl rfl rfl (ck_e w10).2 (W_re (congrArg sI (ck_e w10).1) ?_))
 refine go ?_
 exact jmpL x10 e1 (tl [] 0 rfl rfl)
 refine go ?_
 exact jm e1 (tl [] 0 rfl rfl)
 rintro z hi
 subst hi
 refine gs ?_
 obtain rfl := so e0
 refine go ?_
 exact rt [] 0 ⟨rfl, rfl⟩ rfl rfl
def F99v2_l3 (fuel : Nat) (a1 : List UInt8) : Nat → Int → Option (Int)
 | 0, _ => none
 | n + 1, y4 =>
 Option.bind (α := Bool) (
 bif (decide (y4 < (a1.length : Int))) then (
 (idx a1 y4).bind fun x7 =>
 (F101 fuel (x7.toNat : Int)).bind fun r8 =>
 some r8) else (
 some false)) fun i5 =>
 bif i5 then (
 (ck (y4 + (1 : Int))).bind fun x10 =>
 F99v2_l3 fuel a1 n x10) else (
 some y4)
def F99v2 (fuel : Nat) (a1 : List UInt8) : Option (Int) :=
 Option.bind (α := Int) (
 F99v2_l3 fuel a1 fuel (0 : Int)) fun i2 =>
 some i2
theorem F99v2_ok {w0 : World} (hG : Globs w0) (fuel : Nat) : ∀ (a1 : List UInt8) {r : Int} (e0 : F99v2 fuel a1 = some r), Fn w0 prog 99 [.isl .u8 a1, .val (.func (.func 101) #[] #[])] [] (fun s H => s = sI r ∧ H = []) := by
 intro a1 r e0
 rw [F99v2] at e0
 refine fn_intro2 21 [.tmp 4] func99 rfl rfl rfl rfl fun X hX F => ?_
 refine C_turn (T_start [(0, .isl .u8 a1), (1, .val (.func (.func 101) #[] #[]))] rfl (F) rfl) ?_
 refine gs ?_
 refine gs ?_
 obtain ⟨i2,e1,e0⟩:=be e0
 refine C_cut (ι := Int) (fun i => [(5, sI i)]) (fun i => F) (fun i => i2 = i) ?_ ?_
 refine go ?_
 refine C_loopF (κ := Int) (fun d => [(0, .isl .u8 a1), (1, .val (.func (.func 101) #[] #[])), (5, sI d)]) (fun d => F) (fun n d => F99v2_l3 fuel a1 n d) i2 fuel (0 : Int) e1 (tl [] 0 rfl rfl) (fun _ => rfl) ?_
 rintro n y4 hF
 have e1 : F99v2_l3 fuel a1 (n + 1) y4 = some i2 := hF
 rw [F99v2_l3] at e1
 clear hF
 refine C_seq ?_
 obtain ⟨i5,e2,e1⟩:=be e1
 refine C_cut (ι := Bool) (fun i => [(0, .isl .u8 a1), (1, .val (.func (.func 101) #[] #[])), (5, sI y4), (17, sB i)]) (fun i => F) (fun i => i5 = i) ?_ ?_
 refine go ?_
 obtain ⟨hg6, e2⟩ | ⟨hg6, e2⟩ := bc e2
 refine Wt rfl rfl rfl hg6 rfl rfl (O_move rfl ?_)
 refine Wt rfl rfl rfl hg6 rfl rfl (O_move rfl ?_)
 refine Wt rfl rfl rfl hg6 rfl rfl (O_move rfl ?_)
 obtain ⟨x7,w7,e2⟩:=be e2
 refine Wt rfl rfl rfl hg6 rfl rfl (O_indexAddr (k := .u8) (z := x7) tyL_63 rfl rfl (idx_e w7).1 (idx_e w7).2 ?_)
 refine Wt rfl rfl rfl hg6 rfl rfl (O_load_ipt ty1_5 rfl rfl ?_)
 obtain ⟨r8,hr8,e2⟩:=be e2
 refine Wt rfl rfl rfl hg6 rfl rfl (O_callV0 (ss := [.val (.int .u8 (x7.toNat : Int))]) (F := F) rfl fn_101 rfl (F101_ok hG fuel (x7.toNat : Int) hr8) (sel_perm [] _) ?_)
 refine go ?_
 exact jm e2 (tl [] 0 rfl rfl)
 refine go ?_
 exact jm e2 (tl [] 0 rfl rfl)
 rintro z hi
 subst hi
 refine C_cd rfl e1 (fun e1 => ?_) (fun e1 => ?_)
 refine go ?_
 obtain ⟨x10,w10,e1⟩:=be e1
 refine W rfl (O_arI rfl rfl rfl (ck_e w10).2 (W_re (congrArg sI (ck_e w10).1) ?_))
 refine go ?_
 exact jmpL x10 e1 (tl [] 0 rfl rfl)
 refine go ?_
 exact jm e1 (tl [] 0 rfl rfl)
 rintro z hi
 subst hi
 refine gs ?_
 obtain rfl := so e0
 refine go ?_
 exact rt [] 0 ⟨rfl, rfl⟩ rfl rfl
def F116_l3 (fuel : Nat) (a1 : List UInt8) : Nat → Int → Option ((Unit ⊕ Int))
 | 0, _ => none
 | n + 1, y4 =>
 bif (decide (y4 < (a1.length : Int))) then (
 Option.bind (α := (Int ⊕ Int)) (
 (idx a1 y4).bind fun x7 =>
 bif ((x7.toNat : Int) == (34 : Int)) then (
 (ck (y4 + (1 : Int))).bind fun x9 =>
 some (.inr x9)) else (
 bif ((x7.toNat : Int) == (10 : Int)) then (
 some (.inr (0 : Int))) else (
 bif ((x7.toNat : Int) == (92 : Int)) then (
 (ck (y4 + (1 : Int))).bind fun x12 =>
 Option.bind (α := Bool) (
 bif (decide (x12 < (a1.length : Int))) then (
 (idx a1 x12).bind fun x15 =>
 some ((x15.toNat : Int) == (10 : Int))) else (
 some false)) fun i13 =>
 bif i13 then (
 some (.inr (0 : Int))) else (
 some (.inl x12))) else (
 some (.inl y4))))) (Sum.elim (fun i6 =>
 (ck (i6 + (1 : Int))).bind fun x17 =>
 F116_l3 fuel a1 n x17) (fun z => some (.inr z)))) else (
 some (.inl ()))
def F116 (fuel : Nat) (a1 : List UInt8) : Option (Int) :=
 Option.bind (α := (Unit ⊕ Int)) (
 F116_l3 fuel a1 fuel (1 : Int)) (Sum.elim (fun i2 =>
 some (0 : Int)) (fun z => some z))
theorem F116_ok {w0 : World} (hG : Globs w0) (fuel : Nat) : ∀ (a1 : List UInt8) {r : Int} (e0 : F116 fuel a1 = some r), Fn w0 prog 116 [.isl .u8 a1] [] (fun s H => s = sI r ∧ H = []) := by
 intro a1 r e0
 rw [F116] at e0
 refine fn_intro2 35 [.tmp 2] func116 rfl rfl rfl rfl fun X hX F => ?_
 refine C_turn (T_start [(0, .isl .u8 a1)] rfl (F) rfl) ?_
 refine gs ?_
 obtain ⟨o2,e1,e0⟩:=be e0
 refine C_cut (ι := Unit) (fun i => []) (fun i => F) (fun i => o2 = .inl ()) ?_ ?_
 refine gs ?_
 refine C_loopF (κ := Int) (fun d => [(0, .isl .u8 a1), (3, sI d)]) (fun d => F) (fun n d => F116_l3 fuel a1 n d) o2 fuel (1 : Int) e1 (tl [] 0 rfl rfl) (fun _ => rfl) ?_
 rintro n y4 hF
 have e1 : F116_l3 fuel a1 (n + 1) y4 = some o2 := hF
 rw [F116_l3] at e1
 clear hF
 refine C_seq ?_
 refine gs ?_
 refine C_cd rfl e1 (fun e1 => ?_) (fun e1 => ?_)
 refine go ?_
 obtain ⟨o6,e2,e1⟩:=be e1
 refine C_cut (ι := Int) (fun i => [(0, .isl .u8 a1), (3, sI i)]) (fun i => F) (fun i => o6 = .inl i) ?_ ?_
 refine go ?_
 refine gs ?_
 obtain ⟨x7,w7,e2⟩:=be e2
 refine W rfl (O_indexAddr (k := .u8) (z := x7) tyL_63 rfl rfl (idx_e w7).1 (idx_e w7).2 ?_)
 refine go ?_
 refine gs ?_
 refine C_cd rfl e2 (fun e2 => ?_) (fun e2 => ?_)
 refine gs ?_
 obtain ⟨x9,w9,e2⟩:=be e2
 refine W rfl (O_arI rfl rfl rfl (ck_e w9).2 (W_re (congrArg sI (ck_e w9).1) ?_))
 refine go ?_
 obtain rfl := so e2
 obtain rfl := so e1
 obtain rfl := so e0
 refine go ?_
 exact rt [] 0 ⟨rfl, rfl⟩ rfl rfl
 refine gs ?_
 refine C_cd rfl e2 (fun e2 => ?_) (fun e2 => ?_)
 refine gs ?_
 obtain rfl := so e2
 obtain rfl := so e1
 obtain rfl := so e0
 refine go ?_
 exact rt [] 0 ⟨rfl, rfl⟩ rfl rfl
 refine gs ?_
 refine C_cd rfl e2 (fun e2 => ?_) (fun e2 => ?_)
 refine gs ?_
 obtain ⟨x12,w12,e2⟩:=be e2
 refine W rfl (O_arI rfl rfl rfl (ck_e w12).2 (W_re (congrArg sI (ck_e w12).1) ?_))
 refine go ?_
 obtain ⟨i13,e3,e2⟩:=be e2
 refine C_cut (ι := Bool) (fun i => [(0, .isl .u8 a1), (3, sI x12), (34, sB i)]) (fun i => F) (fun i => i13 = i) ?_ ?_
 refine go ?_
 obtain ⟨hg14, e3⟩ | ⟨hg14, e3⟩ := bc e3
 refine Wt rfl rfl rfl hg14 rfl rfl (O_move rfl ?_)
 refine Wt rfl rfl rfl hg14 rfl rfl (O_move rfl ?_)
 obtain ⟨x15,w15,e3⟩:=be e3
 refine Wt rfl rfl rfl hg14 rfl rfl (O_indexAddr (k := .u8) (z := x15) tyL_63 rfl rfl (idx_e w15).1 (idx_e w15).2 ?_)
 refine Wt rfl rfl rfl hg14 rfl rfl (O_load_ipt ty1_5 rfl rfl ?_)
 refine Wt rfl rfl rfl hg14 rfl rfl (O_cmp rfl rfl rfl ?_)
 refine go ?_
 exact jm e3 (tl [] 0 rfl rfl)
 refine go ?_
 exact jm e3 (tl [] 0 rfl rfl)
 rintro z hi
 subst hi
 refine C_cd rfl e2 (fun e2 => ?_) (fun e2 => ?_)
 refine gs ?_
 obtain rfl := so e2
 obtain rfl := so e1
 obtain rfl := so e0
 refine go ?_
 exact rt [] 0 ⟨rfl, rfl⟩ rfl rfl
 refine go ?_
 obtain rfl := so e2
 exact jmp x12 rfl (tl [] 0 rfl rfl)
 refine go ?_
 obtain rfl := so e2
 exact jmp y4 rfl (tl [] 0 rfl rfl)
 rintro i6 hi
 subst hi
 have e1 := elim_l e1
 refine go ?_
 obtain ⟨x17,w17,e1⟩:=be e1
 refine W rfl (O_arI rfl rfl rfl (ck_e w17).2 (W_re (congrArg sI (ck_e w17).1) ?_))
 refine go ?_
 exact jmpL x17 e1 (tl [] 0 rfl rfl)
 refine go ?_
 obtain rfl := so e1
 exact jmp () rfl (tl [] 0 rfl rfl)
 rintro ⟨⟩ hi
 subst hi
 have e0 := elim_l e0
 refine gs ?_
 obtain rfl := so e0
 refine go ?_
 exact rt [] 0 ⟨rfl, rfl⟩ rfl rfl
def F132 (fuel : Nat) (a1 : List UInt8) (a2 : List UInt8) : Option (Unit) :=
 some ()
theorem F132_ok {w0 : World} (hG : Globs w0) (fuel : Nat) : ∀ (a1 : List UInt8) (a2 : List UInt8) {r : Unit} (e0 : F132 fuel a1 a2 = some r), Fn w0 prog 132 [.isl .u8 a1, .isl .u8 a2] [] (fun s H => s = sB (decide ((⟨(a1).toArray⟩ : ByteArray) = (⟨(a2).toArray⟩ : ByteArray))) ∧ H = []) := by
 intro a1 a2 r e0
 rw [F132] at e0
 refine fn_intro2 10 [.tmp 4] func132 rfl rfl rfl rfl fun X hX F => ?_
 refine C_turn (T_start [(0, .isl .u8 a1), (1, .isl .u8 a2)] rfl (F) rfl) ?_
 refine gs ?_
 refine gs ?_
 refine W rfl (O_string tyQ_63 tys_9 tyU_5 rfl ?_)
 refine go ?_
 refine W rfl (O_string tyQ_63 tys_9 tyU_5 rfl ?_)
 refine W rfl (O_seq rfl rfl ?_)
 refine go ?_
 obtain rfl := so e0
 refine go ?_
 exact rt [] 0 ⟨rfl, rfl⟩ rfl rfl
def F117 (fuel : Nat) (a1 : List UInt8) (a2 : List UInt8) : Option (Bool) :=
 Option.bind (α := Bool) (
 bif (decide ((a1.length : Int) ≥ (a2.length : Int))) then (
 if 0 ≤ (0 : Int) ∧ (0 : Int) ≤ (a2.length : Int) ∧ (a2.length : Int) ≤ ((a1).length : Int) then (
 (F132 fuel (((a1).drop ((0 : Int)).toNat).take (((a2.length : Int)).toNat - ((0 : Int)).toNat)) a2).bind fun r6 =>
 some (decide ((⟨((((a1).drop ((0 : Int)).toNat).take (((a2.length : Int)).toNat - ((0 : Int)).toNat))).toArray⟩ : ByteArray) = (⟨(a2).toArray⟩ : ByteArray)))) else none) else (
 some false)) fun i3 =>
 some i3
theorem F117_ok {w0 : World} (hG : Globs w0) (fuel : Nat) : ∀ (a1 : List UInt8) (a2 : List UInt8) {r : Bool} (e0 : F117 fuel a1 a2 = some r), Fn w0 prog 117 [.isl .u8 a1, .isl .u8 a2] [] (fun s H => s = sB r ∧ H = []) := by
 intro a1 a2 r e0
 rw [F117] at e0
 refine fn_intro2 18 [.tmp 4] func117 rfl rfl rfl rfl fun X hX F => ?_
 refine C_turn (T_start [(0, .isl .u8 a1), (1, .isl .u8 a2)] rfl (F) rfl) ?_
 refine gs ?_
 obtain ⟨i3,e1,e0⟩:=be e0
 refine C_cut (ι := Bool) (fun i => [(4, sB i)]) (fun i => F) (fun i => i3 = i) ?_ ?_
 refine go ?_
 obtain ⟨hg4, e1⟩ | ⟨hg4, e1⟩ := bc e1
 refine Wt rfl rfl rfl hg4 rfl rfl (O_move rfl ?_)
 refine Wt rfl rfl rfl hg4 rfl rfl (O_move rfl ?_)
 refine Wt rfl rfl rfl hg4 rfl rfl (O_len_isl tyl_63 rfl ?_)
 obtain ⟨h5, e1⟩ := req_e e1
 refine Wt rfl rfl rfl hg4 rfl rfl (O_sub_isl (k := .u8) (k1 := .i64) (k2 := .i64) none (some (a2.length : Int)) tyL_63 rfl rfl rfl h5 ?_)
 refine Wt rfl rfl rfl hg4 rfl rfl (O_move rfl ?_)
 obtain ⟨r6,hr6,e1⟩:=be e1
 refine Wt rfl rfl rfl hg4 rfl rfl (O_callP fn_132 rfl (F132_ok hG fuel (((a1).drop ((0 : Int)).toNat).take (((a2.length : Int)).toNat - ((0 : Int)).toNat)) a2 hr6) ?_)
 refine go ?_
 exact jm e1 (tl [] 0 rfl rfl)
 refine go ?_
 exact jm e1 (tl [] 0 rfl rfl)
 rintro z hi
 subst hi
 refine go ?_
 obtain rfl := so e0
 refine go ?_
 exact rt [] 0 ⟨rfl, rfl⟩ rfl rfl
def F120_l3 (fuel : Nat) (a1 : List UInt8) : Nat → Int → Option ((Unit ⊕ Int))
 | 0, _ => none
 | n + 1, y4 =>
 bif (decide (y4 > (0 : Int))) then (
 Option.bind (α := (Unit ⊕ Int)) (
 bif (decide ((a1.length : Int) < y4)) then (
 some (.inl ())) else (
 Option.bind (α := Bool) (
 bif (y4 == (2 : Int)) then (
 if 0 ≤ (0 : Int) ∧ (0 : Int) ≤ (2 : Int) ∧ (2 : Int) ≤ ((a1).length : Int) then (
 (F71 fuel [(⟨#[60, 60]⟩ : ByteArray), (⟨#[62, 62]⟩ : ByteArray), (⟨#[38, 94]⟩ : ByteArray), (⟨#[38, 38]⟩ : ByteArray), (⟨#[124, 124]⟩ : ByteArray), (⟨#[61, 61]⟩ : ByteArray), (⟨#[33, 61]⟩ : ByteArray), (⟨#[60, 61]⟩ : ByteArray), (⟨#[62, 61]⟩ : ByteArray), (⟨#[58, 61]⟩ : ByteArray), (⟨#[43, 61]⟩ : ByteArray), (⟨#[45, 61]⟩ : ByteArray), (⟨#[42, 61]⟩ : ByteArray), (⟨#[47, 61]⟩ : ByteArray), (⟨#[37, 61]⟩ : ByteArray), (⟨#[43, 43]⟩ : ByteArray), (⟨#[45, 45]⟩ : ByteArray)] (⟨((((a1).drop ((0 : Int)).toNat).take (((2 : Int)).toNat - ((0 : Int)).toNat))).toArray⟩ : ByteArray)).bind fun r12 =>
 some r12) else none) else (
 some false)) fun i8 =>
 bif i8 then (
 some (.inr (2 : Int))) else (
 Option.bind (α := Bool) (
 bif (y4 == (1 : Int)) then (
 (idx a1 (0 : Int)).bind fun x16 =>
 some (decide ((idxByte (⟨#[43, 45, 42, 47, 37, 38, 124, 94, 60, 62, 33, 61, 40, 41, 91, 93, 123, 125, 44, 46]⟩ : ByteArray).data.toList x16) ≥ (0 : Int)))) else (
 some false)) fun i14 =>
 bif i14 then (
 some (.inr (1 : Int))) else (
 some (.inl ()))))) (Sum.elim (fun i6 =>
 (ck (y4 - (1 : Int))).bind fun x18 =>
 F120_l3 fuel a1 n x18) (fun z => some (.inr z)))) else (
 some (.inl ()))
def F120 (fuel : Nat) (a1 : List UInt8) : Option (Int) :=
 Option.bind (α := (Unit ⊕ Int)) (
 F120_l3 fuel a1 fuel (2 : Int)) (Sum.elim (fun i2 =>
 some (0 : Int)) (fun z => some z))
theorem F120_ok {w0 : World} (hG : Globs w0) (fuel : Nat) : ∀ (a1 : List UInt8) {r : Int} (e0 : F120 fuel a1 = some r), Fn w0 prog 120 [.isl .u8 a1] [] (fun s H => s = sI r ∧ H = []) := by
 intro a1 r e0
 rw [F120] at e0
 refine fn_intro2 30 [.tmp 2] func120 rfl rfl rfl rfl fun X hX F => ?_
 refine C_turn (T_start [(0, .isl .u8 a1)] rfl (F) rfl) ?_
 refine gs ?_
 refine C_scope ?_
 refine C_seq ?_
 refine C_label ?_
 obtain ⟨o2,e1,e0⟩:=be e0
 refine C_cut (ι := Unit) (fun i => []) (fun i => F) (fun i => o2 = .inl ()) ?_ ?_
 refine gs ?_
 refine C_loopF (κ := Int) (fun d => [(0, .isl .u8 a1), (3, sI d)]) (fun d => F) (fun n d => F120_l3 fuel a1 n d) o2 fuel (2 : Int) e1 (tl [] 0 rfl rfl) (fun _ => rfl) ?_
 rintro n y4 hF
 have e1 : F120_l3 fuel a1 (n + 1) y4 = some o2 := hF
 rw [F120_l3] at e1
 clear hF
 refine C_seq ?_
 refine gs ?_
 refine C_cd rfl e1 (fun e1 => ?_) (fun e1 => ?_)
 refine go ?_
 obtain ⟨o6,e2,e1⟩:=be e1
 refine C_cut (ι := Unit) (fun i => [(0, .isl .u8 a1), (3, sI y4)]) (fun i => F) (fun i => o6 = .inl ()) ?_ ?_
 refine go ?_
 refine C_seq ?_
 refine gs ?_
 refine C_cd rfl e2 (fun e2 => ?_) (fun e2 => ?_)
 refine go ?_
 obtain rfl := so e2
 exact jmp () rfl (tl [] 0 rfl rfl)
 refine go ?_
 refine C_seq ?_
 obtain ⟨i8,e3,e2⟩:=be e2
 refine C_cut (ι := Bool) (fun i => [(0, .isl .u8 a1), (3, sI y4), (20, sB i)]) (fun i => F) (fun i => i8 = i) ?_ ?_
 refine go ?_
 obtain ⟨hg9, e3⟩ | ⟨hg9, e3⟩ := bc e3
 refine Wt rfl rfl rfl hg9 rfl rfl (A_build 9 16 .str [(⟨#[60, 60]⟩ : ByteArray), (⟨#[62, 62]⟩ : ByteArray), (⟨#[38, 94]⟩ : ByteArray), (⟨#[38, 38]⟩ : ByteArray), (⟨#[124, 124]⟩ : ByteArray), (⟨#[61, 61]⟩ : ByteArray), (⟨#[33, 61]⟩ : ByteArray), (⟨#[60, 61]⟩ : ByteArray), (⟨#[62, 61]⟩ : ByteArray), (⟨#[58, 61]⟩ : ByteArray), (⟨#[43, 61]⟩ : ByteArray), (⟨#[45, 61]⟩ : ByteArray), (⟨#[42, 61]⟩ : ByteArray), (⟨#[47, 61]⟩ : ByteArray), (⟨#[37, 61]⟩ : ByteArray), (⟨#[43, 43]⟩ : ByteArray), (⟨#[45, 45]⟩ : ByteArray)] (ss := [(0, sS (⟨#[60, 60]⟩ : ByteArray)), (1, sS (⟨#[62, 62]⟩ : ByteArray)), (2, sS (⟨#[38, 94]⟩ : ByteArray)), (3, sS (⟨#[38, 38]⟩ : ByteArray)), (4, sS (⟨#[124, 124]⟩ : ByteArray)), (5, sS (⟨#[61, 61]⟩ : ByteArray)), (6, sS (⟨#[33, 61]⟩ : ByteArray)), (7, sS (⟨#[60, 61]⟩ : ByteArray)), (8, sS (⟨#[62, 61]⟩ : ByteArray)), (9, sS (⟨#[58, 61]⟩ : ByteArray)), (10, sS (⟨#[43, 61]⟩ : ByteArray)), (11, sS (⟨#[45, 61]⟩ : ByteArray)), (12, sS (⟨#[42, 61]⟩ : ByteArray)), (13, sS (⟨#[47, 61]⟩ : ByteArray)), (14, sS (⟨#[37, 61]⟩ : ByteArray)), (15, sS (⟨#[43, 43]⟩ : ByteArray)), (16, sS (⟨#[45, 45]⟩ : ByteArray))]) tyE_67 tyZ_9 rfl rfl rfl rfl rfl rfl fun q10 => ?_)
 refine Wt rfl rfl rfl hg9 rfl rfl (O_move rfl ?_)
 obtain ⟨h11, e3⟩ := req_e e3
 refine Wt rfl rfl rfl hg9 rfl rfl (O_sub_isl (k := .u8) (k1 := .i64) (k2 := .i64) none (some (2 : Int)) tyL_63 rfl rfl rfl h11 ?_)
 refine Wt rfl rfl rfl hg9 rfl rfl (O_string tyQ_63 tys_9 tyU_5 rfl ?_)
 obtain ⟨r12,hr12,e3⟩:=be e3
 refine Wt rfl rfl rfl hg9 rfl rfl (O_call0 (F := F) fn_71 rfl (F71_ok hG fuel [(⟨#[60, 60]⟩ : ByteArray), (⟨#[62, 62]⟩ : ByteArray), (⟨#[38, 94]⟩ : ByteArray), (⟨#[38, 38]⟩ : ByteArray), (⟨#[124, 124]⟩ : ByteArray), (⟨#[61, 61]⟩ : ByteArray), (⟨#[33, 61]⟩ : ByteArray), (⟨#[60, 61]⟩ : ByteArray), (⟨#[62, 61]⟩ : ByteArray), (⟨#[58, 61]⟩ : ByteArray), (⟨#[43, 61]⟩ : ByteArray), (⟨#[45, 61]⟩ : ByteArray), (⟨#[42, 61]⟩ : ByteArray), (⟨#[47, 61]⟩ : ByteArray), (⟨#[37, 61]⟩ : ByteArray), (⟨#[43, 43]⟩ : ByteArray), (⟨#[45, 45]⟩ : ByteArray)] (⟨((((a1).drop ((0 : Int)).toNat).take (((2 : Int)).toNat - ((0 : Int)).toNat))).toArray⟩ : ByteArray) q10 hr12) (sel_perm [0] _) ?_)
 refine go ?_
 exact jm e3 (tl [] 1 rfl rfl)
 refine go ?_
 exact jm e3 (tl [] 0 rfl rfl)
 rintro z hi
 subst hi
 refine C_cd rfl e2 (fun e2 => ?_) (fun e2 => ?_)
 refine gs ?_
 obtain rfl := so e2
 obtain rfl := so e1
 obtain rfl := so e0
 refine go ?_
 exact rt [] 0 ⟨rfl, rfl⟩ rfl rfl
 refine go ?_
 obtain ⟨i14,e3,e2⟩:=be e2
 refine C_cut (ι := Bool) (fun i => [(0, .isl .u8 a1), (3, sI y4), (29, sB i)]) (fun i => F) (fun i => i14 = i) ?_ ?_
 refine go ?_
 obtain ⟨hg15, e3⟩ | ⟨hg15, e3⟩ := bc e3
 refine Wt rfl rfl rfl hg15 rfl rfl (O_move rfl ?_)
 obtain ⟨x16,w16,e3⟩:=be e3
 refine Wt rfl rfl rfl hg15 rfl rfl (O_indexAddr (k := .u8) (z := x16) tyL_63 rfl rfl (idx_e w16).1 (idx_e w16).2 ?_)
 refine Wt rfl rfl rfl hg15 rfl rfl (O_load_ipt ty1_5 rfl rfl ?_)
 refine Wt rfl rfl rfl hg15 rfl rfl (O_callP fn_138 rfl (P_indexS w0 (⟨#[43, 45, 42, 47, 37, 38, 124, 94, 60, 62, 33, 61, 40, 41, 91, 93, 123, 125, 44, 46]⟩ : ByteArray) x16) ?_)
 refine Wt rfl rfl rfl hg15 rfl rfl (O_cmp rfl rfl rfl ?_)
 refine go ?_
 exact jm e3 (tl [] 0 rfl rfl)
 refine go ?_
 exact jm e3 (tl [] 0 rfl rfl)
 rintro z hi
 subst hi
 refine C_cd rfl e2 (fun e2 => ?_) (fun e2 => ?_)
 refine gs ?_
 obtain rfl := so e2
 obtain rfl := so e1
 obtain rfl := so e0
 refine go ?_
 exact rt [] 0 ⟨rfl, rfl⟩ rfl rfl
 refine go ?_
 obtain rfl := so e2
 exact jmp () rfl (tl [] 0 rfl rfl)
 rintro ⟨⟩ hi
 subst hi
 have e1 := elim_l e1
 refine go ?_
 obtain ⟨x18,w18,e1⟩:=be e1
 refine W rfl (O_arI rfl rfl rfl (ck_e w18).2 (W_re (congrArg sI (ck_e w18).1) ?_))
 refine go ?_
 exact jmpL x18 e1 (tl [] 0 rfl rfl)
 refine go ?_
 obtain rfl := so e1
 exact jmp () rfl (tl [] 0 rfl rfl)
 rintro ⟨⟩ hi
 subst hi
 have e0 := elim_l e0
 refine gs ?_
 obtain rfl := so e0
 refine go ?_
 exact rt [] 0 ⟨rfl, rfl⟩ rfl rfl
def F114v1 (fuel : Nat) (a2 : Int) (a3 : ByteArray) (a4 : Int) (a5 : Bool) (a8 : List Tok) (a10 : Bool) : Option (List Tok) :=
 Option.bind (α := List Tok) (
 (F113 fuel (Tok.mk a2 a3 a4 a5)).bind fun r12 =>
 bif r12 then (
 (ck (a4 + (a3.size : Int))).bind fun x14 =>
 if ((a8).length + ([(Tok.mk (6 : Int) (⟨#[]⟩ : ByteArray) x14 false)]).length) * 40 ≤ 140737488355328 then (
 some (a8 ++ [(Tok.mk (6 : Int) (⟨#[]⟩ : ByteArray) x14 false)])) else none) else (
 some a8)) fun i11 =>
 some i11
theorem F114v1_ok {w0 : World} (hG : Globs w0) (fuel : Nat) : ∀ (a2 : Int) (a3 : ByteArray) (a4 : Int) (a5 : Bool) (a8 : List Tok) (a10 : Bool) (b1 : Nat) (b6 : Nat) (q7 : Hnd) (b9 : Nat) {r : List Tok} (e0 : F114v1 fuel a2 a3 a4 a5 a8 a10 = some r), Fn w0 prog 114 [sP b1 0, sP b6 0, sP b9 0] [bx6 b1 a2 a3 a4 a5, boxA b6 115 [.val (sl q7)], ownA (sl q7) 118 .tok a8, boxA b9 4 [sB a10]] (fun s H => ∃ k0 : Hnd, s = .tup [] ∧ H = [bx6 b1 (0 : Int) (⟨#[]⟩ : ByteArray) (0 : Int) false, boxA b6 115 [.val (sl k0)], ownA (sl k0) 118 .tok r, boxA b9 4 [sB true]]) := by
 intro a2 a3 a4 a5 a8 a10 b1 b6 q7 b9 r e0
 rw [F114v1] at e0
 refine fn_intro2 16 [] func114 rfl rfl rfl rfl fun X hX F => ?_
 refine C_turn (T_start [(0, sP b1 0), (1, sP b6 0), (2, sP b9 0)] rfl (bx6 b1 a2 a3 a4 a5 :: boxA b6 115 [.val (sl q7)] :: ownA (sl q7) 118 .tok a8 :: boxA b9 4 [sB a10] :: F) rfl) ?_
 obtain ⟨i11,e1,e0⟩:=be e0
 refine C_cut (ι := List Tok × Hnd) (fun i => [(0, sP b1 0), (2, sP b9 0)]) (fun i => bx6 b1 a2 a3 a4 a5 :: boxA b6 115 [.val (sl i.2)] :: ownA (sl i.2) 118 .tok i.1 :: boxA b9 4 [sB a10] :: F) (fun i => i11 = i.1) ?_ ?_
 refine gs ?_
 obtain ⟨r12,hr12,e1⟩:=be e1
 refine W rfl (O_callP fn_113 rfl (F113_ok hG fuel (Tok.mk a2 a3 a4 a5) hr12) ?_)
 refine go ?_
 refine C_cd rfl e1 (fun e1 => ?_) (fun e1 => ?_)
 refine go ?_
 refine W rfl (O_len_str tys_9 rfl ?_)
 obtain ⟨x14,w14,e1⟩:=be e1
 refine W rfl (O_arI rfl rfl rfl (ck_e w14).2 (W_re (congrArg sI (ck_e w14).1) ?_))
 refine W rfl (O_build (ss := [(0, sI (6 : Int)), (2, sI x14)]) tyZ_118 tyP_118 rfl rfl rfl ?_)
 refine W rfl (A_build 118 40 .tok [(Tok.mk (6 : Int) (⟨#[]⟩ : ByteArray) x14 false)] (ss := [(0, .agg [sI (6 : Int), sS (⟨#[]⟩ : ByteArray), sI x14, sB false])]) tyE_115 tyZ_118 rfl rfl rfl rfl rfl rfl fun q15 => ?_)
 obtain ⟨h16, e1⟩ := req_e e1
 refine W rfl (A_own (k := .tok) (by_ := 40) tyE_115 rfl rfl rfl rfl h16 fun q17 => ?_)
 refine Wn (S_one [.val (sl q17)] tyS_115 rfl rfl rfl rfl rfl ?_)
 refine go ?_
 obtain rfl := so e1
 exact jmp ((a8 ++ [(Tok.mk (6 : Int) (⟨#[]⟩ : ByteArray) x14 false)]), q17) rfl (tl [0, 0, 0, 0] 0 rfl rfl)
 refine go ?_
 obtain rfl := so e1
 exact jmp (a8, q7) rfl (tl [0, 0, 0, 0] 0 rfl rfl)
 rintro ⟨z, q18⟩ hi
 subst hi
 refine go ?_
 refine W rfl (O_build (ss := []) tyZ_118 tyP_118 rfl rfl rfl ?_)
 refine Wn (S_one [sB true] tyS_4 rfl rfl rfl rfl rfl ?_)
 refine Wn (S_any [sI (0 : Int), sS (⟨#[]⟩ : ByteArray), sI (0 : Int), sB false] tyS_118 rfl rfl rfl rfl (Nat.le_of_ble_eq_true rfl) rfl ?_)
 refine go ?_
 obtain rfl := so e0
 refine go ?_
 exact rn' [0, 0, 0, 0] 0 ⟨q18, rfl, rfl⟩ rfl
def F112v1 (fuel : Nat) (a1 : Tok) (a3 : Int) (a4 : ByteArray) (a5 : Int) (a6 : Bool) (a9 : List Tok) (a11 : Bool) : Option (Int × ByteArray × Int × Bool × List Tok) :=
 Option.bind (α := Int × ByteArray × Int × Bool × List Tok) (
 Option.bind (α := Bool) (
 bif (a1.kind == (5 : Int)) then (
 (F113 fuel (Tok.mk a3 a4 a5 a6)).bind fun r16 =>
 some r16) else (
 some false)) fun i14 =>
 bif i14 then (
 (ck (a5 + (a4.size : Int))).bind fun x18 =>
 if ((a9).length + ([(Tok.mk (6 : Int) (⟨#[]⟩ : ByteArray) x18 false)]).length) * 40 ≤ 140737488355328 then (
 some ((0 : Int), (⟨#[]⟩ : ByteArray), (0 : Int), false, (a9 ++ [(Tok.mk (6 : Int) (⟨#[]⟩ : ByteArray) x18 false)]))) else none) else (
 some (a3, a4, a5, a6, a9))) fun i13 =>
 if ((i13.2.2.2.2).length + ([(Tok.mk a1.kind a1.text a1.at_ a11)]).length) * 40 ≤ 140737488355328 then (
 bif (a1.kind != (5 : Int)) then (
 some (a1.kind, a1.text, a1.at_, a11, (i13.2.2.2.2 ++ [(Tok.mk a1.kind a1.text a1.at_ a11)]))) else (
 some (i13.1, i13.2.1, i13.2.2.1, i13.2.2.2.1, (i13.2.2.2.2 ++ [(Tok.mk a1.kind a1.text a1.at_ a11)])))) else none
theorem F112v1_ok {w0 : World} (hG : Globs w0) (fuel : Nat) : ∀ (a1 : Tok) (a3 : Int) (a4 : ByteArray) (a5 : Int) (a6 : Bool) (a9 : List Tok) (a11 : Bool) (b2 : Nat) (b7 : Nat) (q8 : Hnd) (b10 : Nat) {r : Int × ByteArray × Int × Bool × List Tok} (e0 : F112v1 fuel a1 a3 a4 a5 a6 a9 a11 = some r), Fn w0 prog 112 [.agg [sI a1.kind, sS a1.text, sI a1.at_, sB a1.first], sP b2 0, sP b7 0, sP b10 0] [bx6 b2 a3 a4 a5 a6, boxA b7 115 [.val (sl q8)], ownA (sl q8) 118 .tok a9, boxA b10 4 [sB a11]] (fun s H => ∃ k0 : Hnd, s = .tup [] ∧ H = [bx6 b2 r.1 r.2.1 r.2.2.1 r.2.2.2.1, boxA b7 115 [.val (sl k0)], ownA (sl k0) 118 .tok r.2.2.2.2, boxA b10 4 [sB false]]) := by
 intro a1 a3 a4 a5 a6 a9 a11 b2 b7 q8 b10 r e0
 rw [F112v1] at e0
 refine fn_intro2 33 [] func112 rfl rfl rfl rfl fun X hX F => ?_
 refine C_turn (T_start [(0, .agg [sI a1.kind, sS a1.text, sI a1.at_, sB a1.first]), (1, sP b2 0), (2, sP b7 0), (3, sP b10 0)] rfl (bx6 b2 a3 a4 a5 a6 :: boxA b7 115 [.val (sl q8)] :: ownA (sl q8) 118 .tok a9 :: boxA b10 4 [sB a11] :: F) rfl) ?_
 refine gs ?_
 refine W rfl (O_box rfl rfl fun b12 => ?_)
 refine go ?_
 obtain ⟨i13,e1,e0⟩:=be e0
 refine C_cut (ι := (Int × ByteArray × Int × Bool × List Tok) × Hnd) (fun i => [(1, sP b2 0), (2, sP b7 0), (3, sP b10 0), (4, sP b12 0)]) (fun i => bx6 b2 i.1.1 i.1.2.1 i.1.2.2.1 i.1.2.2.2.1 :: boxA b7 115 [.val (sl i.2)] :: ownA (sl i.2) 118 .tok i.1.2.2.2.2 :: boxA b10 4 [sB a11] :: bx6 b12 a1.kind a1.text a1.at_ a1.first :: F) (fun i => i13 = i.1) ?_ ?_
 obtain ⟨i14,e2,e1⟩:=be e1
 refine C_cut (ι := Bool) (fun i => [(1, sP b2 0), (2, sP b7 0), (3, sP b10 0), (4, sP b12 0), (11, sB i)]) (fun i => bx6 b2 a3 a4 a5 a6 :: boxA b7 115 [.val (sl q8)] :: ownA (sl q8) 118 .tok a9 :: boxA b10 4 [sB a11] :: bx6 b12 a1.kind a1.text a1.at_ a1.first :: F) (fun i => i14 = i) ?_ ?_
 refine go ?_
 obtain ⟨hg15, e2⟩ | ⟨hg15, e2⟩ := bc e2
 refine Wt rfl rfl rfl hg15 rfl rfl (O_load_all tyA_118 rfl rfl ?_)
 obtain ⟨r16,hr16,e2⟩:=be e2
 refine Wt rfl rfl rfl hg15 rfl rfl (O_callP fn_113 rfl (F113_ok hG fuel (Tok.mk a3 a4 a5 a6) hr16) ?_)
 refine go ?_
 exact jm e2 (tl [1, 1, 1, 1, 0] 0 rfl rfl)
 refine go ?_
 exact jm e2 (tl [1, 1, 1, 1, 0] 0 rfl rfl)
 rintro z hi
 subst hi
 refine C_cd rfl e1 (fun e1 => ?_) (fun e1 => ?_)
 refine go ?_
 refine W rfl (O_len_str tys_9 rfl ?_)
 obtain ⟨x18,w18,e1⟩:=be e1
 refine W rfl (O_arI rfl rfl rfl (ck_e w18).2 (W_re (congrArg sI (ck_e w18).1) ?_))
 refine W rfl (O_build (ss := [(0, sI (6 : Int)), (2, sI x18)]) tyZ_118 tyP_118 rfl rfl rfl ?_)
 refine W rfl (A_build 118 40 .tok [(Tok.mk (6 : Int) (⟨#[]⟩ : ByteArray) x18 false)] (ss := [(0, .agg [sI (6 : Int), sS (⟨#[]⟩ : ByteArray), sI x18, sB false])]) tyE_115 tyZ_118 rfl rfl rfl rfl rfl rfl fun q19 => ?_)
 obtain ⟨h20, e1⟩ := req_e e1
 refine W rfl (A_own (k := .tok) (by_ := 40) tyE_115 rfl rfl rfl rfl h20 fun q21 => ?_)
 refine W rfl (O_build (ss := []) tyZ_118 tyP_118 rfl rfl rfl ?_)
 refine Wn (S_one [.val (sl q21)] tyS_115 rfl rfl rfl rfl rfl ?_)
 refine Wn (S_any [sI (0 : Int), sS (⟨#[]⟩ : ByteArray), sI (0 : Int), sB false] tyS_118 rfl rfl rfl rfl (Nat.le_of_ble_eq_true rfl) rfl ?_)
 refine go ?_
 obtain rfl := so e1
 exact jmp (((0 : Int), (⟨#[]⟩ : ByteArray), (0 : Int), false, (a9 ++ [(Tok.mk (6 : Int) (⟨#[]⟩ : ByteArray) x18 false)])), q21) rfl (tl [0, 0, 0, 0, 0] 0 rfl rfl)
 refine go ?_
 obtain rfl := so e1
 exact jmp ((a3, a4, a5, a6, a9), q8) rfl (tl [0, 0, 0, 0, 0] 0 rfl rfl)
 rintro ⟨z, q22⟩ hi
 subst hi
 refine gs ?_
 refine Wn (S_one [sI a1.kind, sS a1.text, sI a1.at_, sB a11] tyS_4 rfl rfl rfl rfl rfl ?_)
 refine Wn (S_one [sB false] tyS_4 rfl rfl rfl rfl rfl ?_)
 refine go ?_
 refine gs ?_
 refine W rfl (A_build 118 40 .tok [(Tok.mk a1.kind a1.text a1.at_ a11)] (ss := [(0, .agg [sI a1.kind, sS a1.text, sI a1.at_, sB a11])]) tyE_115 tyZ_118 rfl rfl rfl rfl rfl rfl fun q23 => ?_)
 obtain ⟨h24, e0⟩ := req_e e0
 refine W rfl (A_own (k := .tok) (by_ := 40) tyE_115 rfl rfl rfl rfl h24 fun q25 => ?_)
 refine Wn (S_one [.val (sl q25)] tyS_115 rfl rfl rfl rfl rfl ?_)
 refine go ?_
 refine gs ?_
 refine C_cd rfl e0 (fun e0 => ?_) (fun e0 => ?_)
 refine go ?_
 refine Wn (S_any [sI a1.kind, sS a1.text, sI a1.at_, sB a11] tyS_118 rfl rfl rfl rfl (Nat.le_of_ble_eq_true rfl) rfl ?_)
 refine go ?_
 obtain rfl := so e0
 refine go ?_
 exact rn' [0, 0, 0, 0] 1 ⟨q25, rfl, rfl⟩ rfl
 refine go ?_
 obtain rfl := so e0
 refine go ?_
 exact rn' [0, 0, 0, 0] 1 ⟨q25, rfl, rfl⟩ rfl
def F82_l9 (fuel : Nat) (a1 : List UInt8) : Nat → List Tok → Int → ByteArray → Int → Bool → Bool → Int → Option (((List Tok × Int × ByteArray × Int × Bool × Bool) ⊕ (List Tok × Int × Int)))
 | 0, _, _, _, _, _, _, _ => none
 | n + 1, y49, y50, y51, y52, y53, y54, y55 =>
 bif (decide (y55 < (a1.length : Int))) then (
 if 0 ≤ y55 ∧ y55 ≤ ((a1).length : Int) ∧ ((a1).length : Int) ≤ ((a1).length : Int) then (
 (idx (((a1).drop (y55).toNat).take ((((a1).length : Int)).toNat - (y55).toNat)) (0 : Int)).bind fun x59 =>
 Option.bind (α := ((Int × Int) ⊕ (List Tok × Int × ByteArray × Int × Bool × Bool × Int))) (
 bif ((x59.toNat : Int) == (10 : Int)) then (
 (F114v1 fuel y50 y51 y52 y53 y49 y54).bind fun r62 =>
 (ck (y55 + (1 : Int))).bind fun x64 =>
 some (.inr (r62, (0 : Int), (⟨#[]⟩ : ByteArray), (0 : Int), false, true, x64))) else (
 Option.bind (α := Bool) (
 bif ((x59.toNat : Int) == (32 : Int)) then (
 some true) else (
 bif ((x59.toNat : Int) == (9 : Int)) then (
 some true) else (
 some ((x59.toNat : Int) == (13 : Int))))) fun i65 =>
 bif i65 then (
 (ck (y55 + (1 : Int))).bind fun x69 =>
 some (.inr (y49, y50, y51, y52, y53, y54, x69))) else (
 (F98 fuel (x59.toNat : Int)).bind fun r70 =>
 bif r70 then (
 (F99v1 fuel (((a1).drop (y55).toNat).take ((((a1).length : Int)).toNat - (y55).toNat))).bind fun r72 =>
 some (.inl (r72, (1 : Int)))) else (
 (F101 fuel (x59.toNat : Int)).bind fun r73 =>
 bif r73 then (
 (F99v2 fuel (((a1).drop (y55).toNat).take ((((a1).length : Int)).toNat - (y55).toNat))).bind fun r75 =>
 Option.bind (α := Bool) (
 bif ((x59.toNat : Int) == (48 : Int)) then (
 some (decide (r75 > (1 : Int)))) else (
 some false)) fun i76 =>
 bif i76 then (
 some (.inl ((0 : Int), (2 : Int)))) else (
 some (.inl (r75, (2 : Int))))) else (
 bif ((x59.toNat : Int) == (34 : Int)) then (
 (F116 fuel (((a1).drop (y55).toNat).take ((((a1).length : Int)).toNat - (y55).toNat))).bind fun r80 =>
 some (.inl (r80, (3 : Int)))) else (
 bif ((x59.toNat : Int) == (59 : Int)) then (
 some (.inl ((1 : Int), (6 : Int)))) else (
 (F117 fuel (((a1).drop (y55).toNat).take ((((a1).length : Int)).toNat - (y55).toNat)) [(47 : UInt8), (47 : UInt8)]).bind fun r83 =>
 bif r83 then (
 if 0 < ((((a1).drop (y55).toNat).take ((((a1).length : Int)).toNat - (y55).toNat))).length then (
 Option.bind (α := Int) (
 bif (decide ((idxByte (((a1).drop (y55).toNat).take ((((a1).length : Int)).toNat - (y55).toNat)) (10 : UInt8)) < (0 : Int))) then (
 some ((((a1).drop (y55).toNat).take ((((a1).length : Int)).toNat - (y55).toNat)).length : Int)) else (
 some (idxByte (((a1).drop (y55).toNat).take ((((a1).length : Int)).toNat - (y55).toNat)) (10 : UInt8)))) fun i86 =>
 if 0 ≤ (0 : Int) ∧ (0 : Int) ≤ i86 ∧ i86 ≤ (((((a1).drop (y55).toNat).take ((((a1).length : Int)).toNat - (y55).toNat))).length : Int) then (
 some (.inl (((trimR ((((((a1).drop (y55).toNat).take ((((a1).length : Int)).toNat - (y55).toNat))).drop ((0 : Int)).toNat).take ((i86).toNat - ((0 : Int)).toNat))).length : Int), (5 : Int)))) else none) else none) else (
 (F120 fuel (((a1).drop (y55).toNat).take ((((a1).length : Int)).toNat - (y55).toNat))).bind fun r89 =>
 some (.inl (r89, (4 : Int))))))))))) (Sum.elim (fun i60 =>
 bif (i60.1 == (0 : Int)) then (
 some (.inr ([], y55, (4 : Int)))) else (
 if 0 ≤ (0 : Int) ∧ (0 : Int) ≤ i60.1 ∧ i60.1 ≤ (((((a1).drop (y55).toNat).take ((((a1).length : Int)).toNat - (y55).toNat))).length : Int) then (
 (F112v1 fuel (Tok.mk i60.2 (⟨(((((((a1).drop (y55).toNat).take ((((a1).length : Int)).toNat - (y55).toNat))).drop ((0 : Int)).toNat).take ((i60.1).toNat - ((0 : Int)).toNat))).toArray⟩ : ByteArray) y55 false) y50 y51 y52 y53 y49 y54).bind fun r92 =>
 (ck (y55 + i60.1)).bind fun x94 =>
 F82_l9 fuel a1 n r92.2.2.2.2 r92.1 r92.2.1 r92.2.2.1 r92.2.2.2.1 false x94) else none)) (fun z => F82_l9 fuel a1 n z.1 z.2.1 z.2.2.1 z.2.2.2.1 z.2.2.2.2.1 z.2.2.2.2.2.1 z.2.2.2.2.2.2))) else none) else (
 some (.inl (y49, y50, y51, y52, y53, y54)))
def F82 (fuel : Nat) (a1 : List UInt8) : Option (List Tok × Int × Int) :=
 bif (decide ((a1.length : Int) > (16777216 : Int))) then (
 some ([], (0 : Int), (2 : Int))) else (
 (F111 fuel a1).bind fun r3 =>
 bif (decide (r3 < (a1.length : Int))) then (
 some ([], r3, (3 : Int))) else (
 Option.bind (α := ((List Tok × Int × ByteArray × Int × Bool × Bool) ⊕ (List Tok × Int × Int))) (
 F82_l9 fuel a1 fuel [] (0 : Int) (⟨#[]⟩ : ByteArray) (0 : Int) false true (0 : Int)) (Sum.elim (fun i8 =>
 (F114v1 fuel i8.2.1 i8.2.2.1 i8.2.2.2.1 i8.2.2.2.2.1 i8.1 i8.2.2.2.2.2).bind fun r96 =>
 some (r96, (0 : Int), (0 : Int))) (fun z => some z))))
theorem F82_ok {w0 : World} (hG : Globs w0) (fuel : Nat) : ∀ (a1 : List UInt8) {r : List Tok × Int × Int} (e0 : F82 fuel a1 = some r), Fn w0 prog 82 [.isl .u8 a1] [] (fun s H => s = .tup [.isl .tok r.1, sI r.2.1, sI r.2.2] ∧ H = []) := by
 intro a1 r e0
 rw [F82] at e0
 refine fn_intro2 119 [.tmp 2, .tmp 3, .tmp 4] func82 rfl rfl rfl rfl fun X hX F => ?_
 refine C_turn (T_start [(0, .isl .u8 a1)] rfl (F) rfl) ?_
 refine gs ?_
 refine C_seq ?_
 refine gs ?_
 refine C_cd rfl e0 (fun e0 => ?_) (fun e0 => ?_)
 refine gs ?_
 obtain rfl := so e0
 refine go ?_
 exact ret_ok (Turn.trans (T_imp 2 rfl (RepImp.nil .tok)) (T_le (E' := [(2, .isl .tok []), (3, sI (0 : Int)), (4, sI (2 : Int))]) (.mk [] 0 rfl ⟨rfl, rfl, rfl, trivial⟩))) [] 0 [.isl .tok [], sI (0 : Int), sI (2 : Int)] [] (.tmp (t := 2) _ rfl (.tmp (t := 3) _ rfl (.tmp (t := 4) _ rfl .nil))) rfl ⟨rfl, rfl⟩
 refine go ?_
 refine C_seq ?_
 refine gs ?_
 obtain ⟨r3,hr3,e0⟩:=be e0
 refine W rfl (O_callP fn_111 rfl (F111_ok hG fuel a1 hr3) ?_)
 refine go ?_
 refine gs ?_
 refine C_cd rfl e0 (fun e0 => ?_) (fun e0 => ?_)
 refine gs ?_
 obtain rfl := so e0
 refine go ?_
 exact ret_ok (Turn.trans (T_imp 2 rfl (RepImp.nil .tok)) (T_le (E' := [(2, .isl .tok []), (3, sI r3), (4, sI (3 : Int))]) (.mk [] 0 rfl ⟨rfl, rfl, rfl, trivial⟩))) [] 0 [.isl .tok [], sI r3, sI (3 : Int)] [] (.tmp (t := 2) _ rfl (.tmp (t := 3) _ rfl (.tmp (t := 4) _ rfl .nil))) rfl ⟨rfl, rfl⟩
 refine go ?_
 refine gs ?_
 refine W rfl (O_alloc tyZ_115 rfl fun b5 => ?_)
 refine go ?_
 refine gs ?_
 refine W rfl (O_build (ss := []) tyZ_118 tyP_118 rfl rfl rfl ?_)
 refine W rfl (O_alloc tyZ_4 rfl fun b6 => ?_)
 refine W rfl (O_alloc tyZ_118 rfl fun b7 => ?_)
 refine Wn (S_one [sB true] tyS_4 rfl rfl rfl rfl rfl ?_)
 refine Wn (S_any [sI (0 : Int), sS (⟨#[]⟩ : ByteArray), sI (0 : Int), sB false] tyS_118 rfl rfl rfl rfl (Nat.le_of_ble_eq_true rfl) rfl ?_)
 refine go ?_
 refine gs ?_
 refine W rfl (O_makeFunc (vs := []) (us := [.pointer (some ⟨b7, 0, none⟩), .pointer (some ⟨b5, 0, none⟩), .pointer (some ⟨b6, 0, none⟩)]) rfl rfl ?_)
 refine go ?_
 refine gs ?_
 refine W rfl (O_makeFunc (vs := []) (us := [.pointer (some ⟨b7, 0, none⟩), .pointer (some ⟨b5, 0, none⟩), .pointer (some ⟨b6, 0, none⟩)]) rfl rfl ?_)
 refine go ?_
 obtain ⟨o8,e1,e0⟩:=be e0
 refine C_cut (ι := (List Tok × Int × ByteArray × Int × Bool × Bool) × Hnd) (fun i => [(6, sP b5 0), (10, .val (.func (.func 114) #[] #[.pointer (some ⟨b7, 0, none⟩), .pointer (some ⟨b5, 0, none⟩), .pointer (some ⟨b6, 0, none⟩)]))]) (fun i => boxA b5 115 [.val (sl i.2)] :: ownA (sl i.2) 118 .tok i.1.1 :: bx6 b7 i.1.2.1 i.1.2.2.1 i.1.2.2.2.1 i.1.2.2.2.2.1 :: boxA b6 4 [sB i.1.2.2.2.2.2] :: F) (fun i => o8 = .inl i.1) ?_ ?_
 refine gs ?_
 refine C_loopF (κ := (List Tok × Int × ByteArray × Int × Bool × Bool × Int) × Hnd) (fun d => [(0, .isl .u8 a1), (6, sP b5 0), (9, .val (.func (.func 112) #[] #[.pointer (some ⟨b7, 0, none⟩), .pointer (some ⟨b5, 0, none⟩), .pointer (some ⟨b6, 0, none⟩)])), (10, .val (.func (.func 114) #[] #[.pointer (some ⟨b7, 0, none⟩), .pointer (some ⟨b5, 0, none⟩), .pointer (some ⟨b6, 0, none⟩)])), (11, sI d.1.2.2.2.2.2.2)]) (fun d => boxA b5 115 [.val (sl d.2)] :: ownA (sl d.2) 118 .tok d.1.1 :: bx6 b7 d.1.2.1 d.1.2.2.1 d.1.2.2.2.1 d.1.2.2.2.2.1 :: boxA b6 4 [sB d.1.2.2.2.2.2.1] :: F) (fun n d => F82_l9 fuel a1 n d.1.1 d.1.2.1 d.1.2.2.1 d.1.2.2.2.1 d.1.2.2.2.2.1 d.1.2.2.2.2.2.1 d.1.2.2.2.2.2.2) o8 fuel (([], (0 : Int), (⟨#[]⟩ : ByteArray), (0 : Int), false, true, (0 : Int)), (none, 0, 0)) e1 (Turn.trans (T_nil 118 .tok) (tl [3, 0, 0, 0] 0 rfl rfl)) (fun _ => rfl) ?_
 rintro n ⟨⟨y49, y50, y51, y52, y53, y54, y55⟩, q56⟩ hF
 have e1 : F82_l9 fuel a1 (n + 1) y49 y50 y51 y52 y53 y54 y55 = some o8 := hF
 rw [F82_l9] at e1
 clear hF
 refine C_seq ?_
 refine gs ?_
 refine C_cd rfl e1 (fun e1 => ?_) (fun e1 => ?_)
 refine go ?_
 refine gs ?_
 obtain ⟨h58, e1⟩ := req_e e1
 refine W rfl (O_sub_isl (k := .u8) (k1 := .i64) (k2 := .i64) (some y55) none tyL_63 rfl rfl rfl h58 ?_)
 refine go ?_
 refine gs ?_
 obtain ⟨x59,w59,e1⟩:=be e1
 refine W rfl (O_indexAddr (k := .u8) (z := x59) tyL_63 rfl rfl (idx_e w59).1 (idx_e w59).2 ?_)
 refine go ?_
 refine gs ?_
 obtain ⟨o60,e2,e1⟩:=be e1
 refine C_cut (ι := (Int × Int)) (fun i => [(0, .isl .u8 a1), (6, sP b5 0), (9, .val (.func (.func 112) #[] #[.pointer (some ⟨b7, 0, none⟩), .pointer (some ⟨b5, 0, none⟩), .pointer (some ⟨b6, 0, none⟩)])), (10, .val (.func (.func 114) #[] #[.pointer (some ⟨b7, 0, none⟩), .pointer (some ⟨b5, 0, none⟩), .pointer (some ⟨b6, 0, none⟩)])), (11, sI y55), (12, .isl .u8 (((a1).drop (y55).toNat).take ((((a1).length : Int)).toNat - (y55).toNat))), (14, sI i.1), (15, sI i.2)]) (fun i => boxA b5 115 [.val (sl q56)] :: ownA (sl q56) 118 .tok y49 :: bx6 b7 y50 y51 y52 y53 :: boxA b6 4 [sB y54] :: F) (fun i => o60 = .inl i) ?_ ?_
 refine go ?_
 refine gs ?_
 refine C_cd rfl e2 (fun e2 => ?_) (fun e2 => ?_)
 refine gs ?_
 obtain ⟨r62,hr62,e2⟩:=be e2
 refine W rfl (O_callV1 (ss := []) (F := F) rfl fn_114 rfl (F114v1_ok hG fuel y50 y51 y52 y53 y49 y54 b7 b5 q56 b6 hr62) (sel_perm [2, 0, 0, 0] _) fun q63 => ?_)
 refine go ?_
 refine gs ?_
 obtain ⟨x64,w64,e2⟩:=be e2
 refine W rfl (O_arI rfl rfl rfl (ck_e w64).2 (W_re (congrArg sI (ck_e w64).1) ?_))
 refine go ?_
 obtain rfl := so e2
 have e1 : F82_l9 fuel a1 n r62 (0 : Int) (⟨#[]⟩ : ByteArray) (0 : Int) false true x64 = some o8 := e1
 exact jmpL ((r62, (0 : Int), (⟨#[]⟩ : ByteArray), (0 : Int), false, true, x64), q63) e1 (tl [1, 1, 0, 0] 0 rfl rfl)
 obtain ⟨i65,e3,e2⟩:=be e2
 refine C_cut (ι := Bool) (fun i => [(0, .isl .u8 a1), (6, sP b5 0), (9, .val (.func (.func 112) #[] #[.pointer (some ⟨b7, 0, none⟩), .pointer (some ⟨b5, 0, none⟩), .pointer (some ⟨b6, 0, none⟩)])), (10, .val (.func (.func 114) #[] #[.pointer (some ⟨b7, 0, none⟩), .pointer (some ⟨b5, 0, none⟩), .pointer (some ⟨b6, 0, none⟩)])), (11, sI y55), (12, .isl .u8 (((a1).drop (y55).toNat).take ((((a1).length : Int)).toNat - (y55).toNat))), (13, .val (.int .u8 (x59.toNat : Int))), (48, sB i)]) (fun i => boxA b5 115 [.val (sl q56)] :: ownA (sl q56) 118 .tok y49 :: bx6 b7 y50 y51 y52 y53 :: boxA b6 4 [sB y54] :: F) (fun i => i65 = i) ?_ ?_
 refine go ?_
 obtain ⟨hg66, e3⟩ | ⟨hg66, e3⟩ := bc e3
 refine go ?_
 exact jm e3 (tl [0, 0, 0, 0] 0 rfl rfl)
 refine Wt rfl rfl rfl hg66 rfl rfl (O_move rfl ?_)
 refine Wt rfl rfl rfl hg66 rfl rfl (O_cmp rfl rfl rfl ?_)
 refine go ?_
 obtain ⟨hg67, e3⟩ | ⟨hg67, e3⟩ := bc e3
 refine go ?_
 exact jm e3 (tl [0, 0, 0, 0] 0 rfl rfl)
 refine Wt rfl rfl rfl hg67 rfl rfl (O_move rfl ?_)
 refine Wt rfl rfl rfl hg67 rfl rfl (O_cmp rfl rfl rfl ?_)
 refine go ?_
 exact jm e3 (tl [0, 0, 0, 0] 0 rfl rfl)
 rintro z hi
 subst hi
 refine C_cd rfl e2 (fun e2 => ?_) (fun e2 => ?_)
 refine gs ?_
 obtain ⟨x69,w69,e2⟩:=be e2
 refine W rfl (O_arI rfl rfl rfl (ck_e w69).2 (W_re (congrArg sI (ck_e w69).1) ?_))
 refine go ?_
 obtain rfl := so e2
 have e1 : F82_l9 fuel a1 n y49 y50 y51 y52 y53 y54 x69 = some o8 := e1
 exact jmpL ((y49, y50, y51, y52, y53, y54, x69), q56) e1 (tl [0, 0, 0, 0] 0 rfl rfl)
 refine gs ?_
 obtain ⟨r70,hr70,e2⟩:=be e2
 refine W rfl (O_callP fn_98 rfl (F98_ok hG fuel (x59.toNat : Int) hr70) ?_)
 refine go ?_
 refine C_cd rfl e2 (fun e2 => ?_) (fun e2 => ?_)
 refine go ?_
 obtain ⟨r72,hr72,e2⟩:=be e2
 refine W rfl (O_callP fn_99 rfl (F99v1_ok hG fuel (((a1).drop (y55).toNat).take ((((a1).length : Int)).toNat - (y55).toNat)) hr72) ?_)
 refine go ?_
 obtain rfl := so e2
 exact jmp (r72, (1 : Int)) rfl (tl [0, 0, 0, 0] 0 rfl rfl)
 refine gs ?_
 obtain ⟨r73,hr73,e2⟩:=be e2
 refine W rfl (O_callP fn_101 rfl (F101_ok hG fuel (x59.toNat : Int) hr73) ?_)
 refine go ?_
 refine C_cd rfl e2 (fun e2 => ?_) (fun e2 => ?_)
 refine gs ?_
 obtain ⟨r75,hr75,e2⟩:=be e2
 refine W rfl (O_callP fn_99 rfl (F99v2_ok hG fuel (((a1).drop (y55).toNat).take ((((a1).length : Int)).toNat - (y55).toNat)) hr75) ?_)
 refine go ?_
 obtain ⟨i76,e3,e2⟩:=be e2
 refine C_cut (ι := Bool) (fun i => [(0, .isl .u8 a1), (6, sP b5 0), (9, .val (.func (.func 112) #[] #[.pointer (some ⟨b7, 0, none⟩), .pointer (some ⟨b5, 0, none⟩), .pointer (some ⟨b6, 0, none⟩)])), (10, .val (.func (.func 114) #[] #[.pointer (some ⟨b7, 0, none⟩), .pointer (some ⟨b5, 0, none⟩), .pointer (some ⟨b6, 0, none⟩)])), (11, sI y55), (12, .isl .u8 (((a1).drop (y55).toNat).take ((((a1).length : Int)).toNat - (y55).toNat))), (14, sI r75), (15, sI (2 : Int)), (76, sB i)]) (fun i => boxA b5 115 [.val (sl q56)] :: ownA (sl q56) 118 .tok y49 :: bx6 b7 y50 y51 y52 y53 :: boxA b6 4 [sB y54] :: F) (fun i => i76 = i) ?_ ?_
 refine go ?_
 obtain ⟨hg77, e3⟩ | ⟨hg77, e3⟩ := bc e3
 refine Wt rfl rfl rfl hg77 rfl rfl (O_move rfl ?_)
 refine Wt rfl rfl rfl hg77 rfl rfl (O_cmp rfl rfl rfl ?_)
 refine go ?_
 exact jm e3 (tl [0, 0, 0, 0] 0 rfl rfl)
 refine go ?_
 exact jm e3 (tl [0, 0, 0, 0] 0 rfl rfl)
 rintro z hi
 subst hi
 refine C_cd rfl e2 (fun e2 => ?_) (fun e2 => ?_)
 refine go ?_
 obtain rfl := so e2
 exact jmp ((0 : Int), (2 : Int)) rfl (tl [0, 0, 0, 0] 0 rfl rfl)
 refine go ?_
 obtain rfl := so e2
 exact jmp (r75, (2 : Int)) rfl (tl [0, 0, 0, 0] 0 rfl rfl)
 refine gs ?_
 refine C_cd rfl e2 (fun e2 => ?_) (fun e2 => ?_)
 refine go ?_
 obtain ⟨r80,hr80,e2⟩:=be e2
 refine W rfl (O_callP fn_116 rfl (F116_ok hG fuel (((a1).drop (y55).toNat).take ((((a1).length : Int)).toNat - (y55).toNat)) hr80) ?_)
 refine go ?_
 obtain rfl := so e2
 exact jmp (r80, (3 : Int)) rfl (tl [0, 0, 0, 0] 0 rfl rfl)
 refine gs ?_
 refine C_cd rfl e2 (fun e2 => ?_) (fun e2 => ?_)
 refine go ?_
 obtain rfl := so e2
 exact jmp ((1 : Int), (6 : Int)) rfl (tl [0, 0, 0, 0] 0 rfl rfl)
 refine gs ?_
 refine W rfl (A_build 5 1 .u8 [(47 : UInt8), (47 : UInt8)] (ss := [(0, .val (.int .u8 (47 : Int))), (1, .val (.int .u8 (47 : Int)))]) tyE_63 tyZ_5 rfl rfl rfl rfl rfl rfl fun q82 => ?_)
 refine W rfl (O_convB tyQ_63 tyU_5 rfl (List.cons_ne_nil _ _) ?_)
 obtain ⟨r83,hr83,e2⟩:=be e2
 refine W rfl (O_callP fn_117 rfl (F117_ok hG fuel (((a1).drop (y55).toNat).take ((((a1).length : Int)).toNat - (y55).toNat)) [(47 : UInt8), (47 : UInt8)] hr83) ?_)
 refine go ?_
 refine C_cd rfl e2 (fun e2 => ?_) (fun e2 => ?_)
 refine gs ?_
 obtain ⟨h85, e2⟩ := req_e e2
 refine W rfl (O_callP fn_118 rfl (P_indexB w0 h85 (10 : UInt8)) ?_)
 refine go ?_
 obtain ⟨i86,e3,e2⟩:=be e2
 refine C_cut (ι := Int) (fun i => [(0, .isl .u8 a1), (6, sP b5 0), (9, .val (.func (.func 112) #[] #[.pointer (some ⟨b7, 0, none⟩), .pointer (some ⟨b5, 0, none⟩), .pointer (some ⟨b6, 0, none⟩)])), (10, .val (.func (.func 114) #[] #[.pointer (some ⟨b7, 0, none⟩), .pointer (some ⟨b5, 0, none⟩), .pointer (some ⟨b6, 0, none⟩)])), (11, sI y55), (12, .isl .u8 (((a1).drop (y55).toNat).take ((((a1).length : Int)).toNat - (y55).toNat))), (14, sI i), (15, sI (5 : Int))]) (fun i => boxA b5 115 [.val (sl q56)] :: ownA (sl q56) 118 .tok y49 :: bx6 b7 y50 y51 y52 y53 :: boxA b6 4 [sB y54] :: F) (fun i => i86 = i) ?_ ?_
 refine gs ?_
 refine C_cd rfl e3 (fun e3 => ?_) (fun e3 => ?_)
 refine go ?_
 exact jm e3 (tl [0, 0, 0, 0] 0 rfl rfl)
 refine go ?_
 exact jm e3 (tl [0, 0, 0, 0] 0 rfl rfl)
 rintro z hi
 subst hi
 refine go ?_
 obtain ⟨h88, e2⟩ := req_e e2
 refine W rfl (O_sub_isl (k := .u8) (k1 := .i64) (k2 := .i64) none (some i86) tyL_63 rfl rfl rfl h88 ?_)
 refine W rfl (O_callP fn_119 rfl (P_trim w0 ((((((a1).drop (y55).toNat).take ((((a1).length : Int)).toNat - (y55).toNat))).drop ((0 : Int)).toNat).take ((i86).toNat - ((0 : Int)).toNat))) ?_)
 refine go ?_
 obtain rfl := so e2
 exact jmp (((trimR ((((((a1).drop (y55).toNat).take ((((a1).length : Int)).toNat - (y55).toNat))).drop ((0 : Int)).toNat).take ((i86).toNat - ((0 : Int)).toNat))).length : Int), (5 : Int)) rfl (tl [0, 0, 0, 0] 0 rfl rfl)
 refine go ?_
 obtain ⟨r89,hr89,e2⟩:=be e2
 refine W rfl (O_callP fn_120 rfl (F120_ok hG fuel (((a1).drop (y55).toNat).take ((((a1).length : Int)).toNat - (y55).toNat)) hr89) ?_)
 refine go ?_
 obtain rfl := so e2
 exact jmp (r89, (4 : Int)) rfl (tl [0, 0, 0, 0] 0 rfl rfl)
 rintro i60 hi
 subst hi
 have e1 := elim_l e1
 refine C_seq ?_
 refine gs ?_
 refine C_cd rfl e1 (fun e1 => ?_) (fun e1 => ?_)
 refine gs ?_
 obtain rfl := so e1
 obtain rfl := so e0
 refine go ?_
 exact ret_ok (Turn.trans (T_imp 2 rfl (RepImp.nil .tok)) (T_le (E' := [(2, .isl .tok []), (3, sI y55), (4, sI (4 : Int))]) (.mk [] 4 rfl ⟨rfl, rfl, rfl, trivial⟩))) [] 0 [.isl .tok [], sI y55, sI (4 : Int)] [] (.tmp (t := 2) _ rfl (.tmp (t := 3) _ rfl (.tmp (t := 4) _ rfl .nil))) rfl ⟨rfl, rfl⟩
 refine go ?_
 refine gs ?_
 obtain ⟨h91, e1⟩ := req_e e1
 refine W rfl (O_sub_isl (k := .u8) (k1 := .i64) (k2 := .i64) none (some i60.1) tyL_63 rfl rfl rfl h91 ?_)
 refine W rfl (O_string tyQ_63 tys_9 tyU_5 rfl ?_)
 refine go ?_
 refine W rfl (O_build (ss := [(0, sI i60.2), (1, sS (⟨(((((((a1).drop (y55).toNat).take ((((a1).length : Int)).toNat - (y55).toNat))).drop ((0 : Int)).toNat).take ((i60.1).toNat - ((0 : Int)).toNat))).toArray⟩ : ByteArray)), (2, sI y55)]) tyZ_118 tyP_118 rfl rfl rfl ?_)
 obtain ⟨r92,hr92,e1⟩:=be e1
 refine W rfl (O_callV1 (ss := [.agg [sI i60.2, sS (⟨(((((((a1).drop (y55).toNat).take ((((a1).length : Int)).toNat - (y55).toNat))).drop ((0 : Int)).toNat).take ((i60.1).toNat - ((0 : Int)).toNat))).toArray⟩ : ByteArray), sI y55, sB false]]) (F := F) rfl fn_112 rfl (F112v1_ok hG fuel (Tok.mk i60.2 (⟨(((((((a1).drop (y55).toNat).take ((((a1).length : Int)).toNat - (y55).toNat))).drop ((0 : Int)).toNat).take ((i60.1).toNat - ((0 : Int)).toNat))).toArray⟩ : ByteArray) y55 false) y50 y51 y52 y53 y49 y54 b7 b5 q56 b6 hr92) (sel_perm [2, 0, 0, 0] _) fun q93 => ?_)
 refine go ?_
 obtain ⟨x94,w94,e1⟩:=be e1
 refine W rfl (O_arI rfl rfl rfl (ck_e w94).2 (W_re (congrArg sI (ck_e w94).1) ?_))
 refine go ?_
 exact jmpL ((r92.2.2.2.2, r92.1, r92.2.1, r92.2.2.1, r92.2.2.2.1, false, x94), q93) e1 (tl [1, 1, 0, 0] 0 rfl rfl)
 refine go ?_
 obtain rfl := so e1
 exact jmp ((y49, y50, y51, y52, y53, y54), q56) rfl (tl [0, 0, 0, 0] 0 rfl rfl)
 rintro ⟨i8, q95⟩ hi
 subst hi
 have e0 := elim_l e0
 refine gs ?_
 obtain ⟨r96,hr96,e0⟩:=be e0
 refine W rfl (O_callV1 (ss := []) (F := F) rfl fn_114 rfl (F114v1_ok hG fuel i8.2.1 i8.2.2.1 i8.2.2.2.1 i8.2.2.2.2.1 i8.1 i8.2.2.2.2.2 b7 b5 q95 b6 hr96) (sel_perm [2, 0, 0, 0] _) fun q97 => ?_)
 refine go ?_
 refine gs ?_
 obtain rfl := so e0
 refine go ?_
 exact ret_ok (Turn.trans (T_sel [2] 3 (ownA (sl q97) 118 .tok r96 :: F) rfl) (Turn.trans (T_freezeL (sl q97) (k := .tok) (.cons 2 rfl .here (.cons 118 rfl .here .nil))) (T_le (E' := [(2, .isl .tok r96), (3, sI (0 : Int)), (4, sI (0 : Int))]) (.mk [] 0 rfl ⟨rfl, rfl, rfl, trivial⟩)))) [] 0 [.isl .tok r96, sI (0 : Int), sI (0 : Int)] [] (.tmp (t := 2) _ rfl (.tmp (t := 3) _ rfl (.tmp (t := 4) _ rfl .nil))) rfl ⟨rfl, rfl⟩
def F59 (fuel : Nat) (a1 : ByteArray) (a2 : Int) : Option (Bool) :=
 if (a1).size ≤ 1000000000 then (
 (F82 fuel ((a1).data.toList)).bind fun r4 =>
 Option.bind (α := Bool) (
 bif (r4.2.2 == (0 : Int)) then (
 bif (decide ((r4.1.length : Int) > (0 : Int))) then (
 (idx r4.1 (0 : Int)).bind fun x8 =>
 bif (x8.kind == a2) then (
 some (decide (x8.text = a1))) else (
 some false)) else (
 some false)) else (
 some false)) fun i5 =>
 some i5) else none
theorem F59_ok {w0 : World} (hG : Globs w0) (fuel : Nat) : ∀ (a1 : ByteArray) (a2 : Int) {r : Bool} (e0 : F59 fuel a1 a2 = some r), Fn w0 prog 59 [sS a1, sI a2] [] (fun s H => s = sB r ∧ H = []) := by
 intro a1 a2 r e0
 rw [F59] at e0
 refine fn_intro2 38 [.tmp 4] func59 rfl rfl rfl rfl fun X hX F => ?_
 refine C_turn (T_start [(0, sS a1), (1, sI a2)] rfl (F) rfl) ?_
 refine gs ?_
 refine gs ?_
 obtain ⟨h3, e0⟩ := req_e e0
 refine W rfl (O_bytes tys_9 tyQ_63 tyU_5 rfl h3 ?_)
 obtain ⟨r4,hr4,e0⟩:=be e0
 refine W rfl (O_callP fn_82 rfl (F82_ok hG fuel ((a1).data.toList) hr4) ?_)
 refine go ?_
 obtain ⟨i5,e1,e0⟩:=be e0
 refine C_cut (ι := Bool) (fun i => [(4, sB i)]) (fun i => F) (fun i => i5 = i) ?_ ?_
 refine go ?_
 obtain ⟨hg6, e1⟩ | ⟨hg6, e1⟩ := bc e1
 refine Wt rfl rfl rfl hg6 rfl rfl (O_move rfl ?_)
 refine Wt rfl rfl rfl hg6 rfl rfl (O_len_isl tyl_115 rfl ?_)
 refine Wt rfl rfl rfl hg6 rfl rfl (O_cmp rfl rfl rfl ?_)
 refine go ?_
 obtain ⟨hg7, e1⟩ | ⟨hg7, e1⟩ := bc e1
 refine Wt rfl rfl rfl hg7 rfl rfl (O_move rfl ?_)
 obtain ⟨x8,w8,e1⟩:=be e1
 refine Wt rfl rfl rfl hg7 rfl rfl (O_indexAddr (k := .tok) (z := x8) tyL_115 rfl rfl (idx_e w8).1 (idx_e w8).2 ?_)
 refine Wt rfl rfl rfl hg7 rfl rfl (O_fieldAddr_ipt tyF_118_0 rfl ?_)
 refine Wt rfl rfl rfl hg7 rfl rfl (O_load_ipt ty1_3 rfl rfl ?_)
 refine Wt rfl rfl rfl hg7 rfl rfl (O_move rfl ?_)
 refine Wt rfl rfl rfl hg7 rfl rfl (O_cmp rfl rfl rfl ?_)
 refine go ?_
 obtain ⟨hg9, e1⟩ | ⟨hg9, e1⟩ := bc e1
 refine Wt rfl rfl rfl hg9 rfl rfl (O_move rfl ?_)
 refine Wt rfl rfl rfl hg9 rfl rfl (O_indexAddr (k := .tok) (z := x8) tyL_115 rfl rfl (idx_e w8).1 (idx_e w8).2 ?_)
 refine Wt rfl rfl rfl hg9 rfl rfl (O_fieldAddr_ipt tyF_118_1 rfl ?_)
 refine Wt rfl rfl rfl hg9 rfl rfl (O_load_ipt ty1_9 rfl rfl ?_)
 refine Wt rfl rfl rfl hg9 rfl rfl (O_move rfl ?_)
 refine Wt rfl rfl rfl hg9 rfl rfl (O_seq rfl rfl ?_)
 refine go ?_
 exact jm e1 (tl [] 0 rfl rfl)
 refine go ?_
 exact jm e1 (tl [] 0 rfl rfl)
 refine go ?_
 exact jm e1 (tl [] 0 rfl rfl)
 refine go ?_
 exact jm e1 (tl [] 0 rfl rfl)
 rintro z hi
 subst hi
 refine go ?_
 obtain rfl := so e0
 refine go ?_
 exact rt [] 0 ⟨rfl, rfl⟩ rfl rfl
def F103v1_l4 (fuel : Nat) (a1 : List ByteArray) (a2 : ByteArray) : Nat → Int → Option ((Unit ⊕ Int))
 | 0, _ => none
 | n + 1, y5 =>
 bif (decide (y5 < (a1.length : Int))) then (
 (idx a1 y5).bind fun x7 =>
 bif (decide (a2 = x7)) then (
 some (.inr y5)) else (
 (ck (y5 + (1 : Int))).bind fun x9 =>
 F103v1_l4 fuel a1 a2 n x9)) else (
 some (.inl ()))
def F103v1 (fuel : Nat) (a1 : List ByteArray) (a2 : ByteArray) : Option (Int) :=
 Option.bind (α := (Unit ⊕ Int)) (
 F103v1_l4 fuel a1 a2 fuel (0 : Int)) (Sum.elim (fun i3 =>
 some (-1 : Int)) (fun z => some z))
theorem F103v1_ok {w0 : World} (hG : Globs w0) (fuel : Nat) : ∀ (a1 : List ByteArray) (a2 : ByteArray) {r : Int} (e0 : F103v1 fuel a1 a2 = some r), Fn w0 prog 103 [.isl .str a1, sS a2] [] (fun s H => s = sI r ∧ H = []) := by
 intro a1 a2 r e0
 rw [F103v1] at e0
 refine fn_intro2 19 [.tmp 4] func103 rfl rfl rfl rfl fun X hX F => ?_
 refine C_turn (T_start [(0, .isl .str a1), (1, sS a2)] rfl (F) rfl) ?_
 refine gs ?_
 obtain ⟨o3,e1,e0⟩:=be e0
 refine C_cut (ι := Unit) (fun i => []) (fun i => F) (fun i => o3 = .inl ()) ?_ ?_
 refine gs ?_
 refine C_loopF (κ := Int) (fun d => [(0, .isl .str a1), (1, sS a2), (7, sI (a1.length : Int)), (8, sI d)]) (fun d => F) (fun n d => F103v1_l4 fuel a1 a2 n d) o3 fuel (0 : Int) e1 (tl [] 0 rfl rfl) (fun _ => rfl) ?_
 rintro n y5 hF
 have e1 : F103v1_l4 fuel a1 a2 (n + 1) y5 = some o3 := hF
 rw [F103v1_l4] at e1
 clear hF
 refine gs ?_
 refine C_seq ?_
 refine C_cd rfl e1 (fun e1 => ?_) (fun e1 => ?_)
 refine go ?_
 refine gs ?_
 refine gs ?_
 refine gs ?_
 obtain ⟨x7,w7,e1⟩:=be e1
 refine W rfl (O_indexAddr (k := .str) (z := x7) tyL_67 rfl rfl (idx_e w7).1 (idx_e w7).2 ?_)
 refine go ?_
 refine W rfl (O_seq rfl rfl ?_)
 refine go ?_
 refine C_cd rfl e1 (fun e1 => ?_) (fun e1 => ?_)
 refine gs ?_
 obtain rfl := so e1
 obtain rfl := so e0
 refine go ?_
 exact rt [] 0 ⟨rfl, rfl⟩ rfl rfl
 refine go ?_
 obtain ⟨x9,w9,e1⟩:=be e1
 refine W rfl (O_arI rfl rfl rfl (ck_e w9).2 (W_re (congrArg sI (ck_e w9).1) ?_))
 refine go ?_
 exact jmpL x9 e1 (tl [] 0 rfl rfl)
 refine go ?_
 obtain rfl := so e1
 exact jmp () rfl (tl [] 0 rfl rfl)
 rintro ⟨⟩ hi
 subst hi
 have e0 := elim_l e0
 refine gs ?_
 obtain rfl := so e0
 refine go ?_
 exact rt [] 0 ⟨rfl, rfl⟩ rfl rfl
def F71v1 (fuel : Nat) (a1 : List ByteArray) (a2 : ByteArray) : Option (Bool) :=
 (F103v1 fuel a1 a2).bind fun r3 =>
 some (decide (r3 ≥ (0 : Int)))
theorem F71v1_ok {w0 : World} (hG : Globs w0) (fuel : Nat) : ∀ (a1 : List ByteArray) (a2 : ByteArray) {r : Bool} (e0 : F71v1 fuel a1 a2 = some r), Fn w0 prog 71 [.isl .str a1, sS a2] [] (fun s H => s = sB r ∧ H = []) := by
 intro a1 a2 r e0
 rw [F71v1] at e0
 refine fn_intro2 9 [.tmp 4] func71 rfl rfl rfl rfl fun X hX F => ?_
 refine C_turn (T_start [(0, .isl .str a1), (1, sS a2)] rfl (F) rfl) ?_
 refine gs ?_
 refine gs ?_
 obtain ⟨r3,hr3,e0⟩:=be e0
 refine W rfl (O_callP fn_103 rfl (F103v1_ok hG fuel a1 a2 hr3) ?_)
 refine go ?_
 obtain rfl := so e0
 refine go ?_
 exact rt [] 0 ⟨rfl, rfl⟩ rfl rfl
def F105 (fuel : Nat) (a1 : List ByteArray) (a3 : ByteArray) : Option (Bool) :=
 (F71v1 fuel a1 a3).bind fun r4 =>
 some r4
theorem F105_ok {w0 : World} (hG : Globs w0) (fuel : Nat) : ∀ (a1 : List ByteArray) (a3 : ByteArray) (b2 : Nat) {r : Bool} (e0 : F105 fuel a1 a3 = some r), Fn w0 prog 105 [.isl .str a1, sP b2 0] [boxA b2 9 [sS a3]] (fun s H => s = sB r ∧ H = [boxA b2 9 [sS a3]]) := by
 intro a1 a3 b2 r e0
 rw [F105] at e0
 refine fn_intro2 7 [.tmp 3] func105 rfl rfl rfl rfl fun X hX F => ?_
 refine C_turn (T_start [(0, .isl .str a1), (1, sP b2 0)] rfl (boxA b2 9 [sS a3] :: F) rfl) ?_
 refine gs ?_
 refine gs ?_
 obtain ⟨r4,hr4,e0⟩:=be e0
 refine W rfl (O_callP fn_71 rfl (F71v1_ok hG fuel a1 a3 hr4) ?_)
 refine go ?_
 obtain rfl := so e0
 refine go ?_
 exact rt [0] 0 ⟨rfl, rfl⟩ rfl rfl
def F104_l6 (fuel : Nat) (a2 : List (List ByteArray)) (a4 : ByteArray) : Nat → Int → Option ((Unit ⊕ Int))
 | 0, _ => none
 | n + 1, y7 =>
 bif (decide (y7 < (a2.length : Int))) then (
 (idx a2 y7).bind fun x9 =>
 (F105 fuel x9 a4).bind fun r10 =>
 bif r10 then (
 some (.inr y7)) else (
 (ck (y7 + (1 : Int))).bind fun x12 =>
 F104_l6 fuel a2 a4 n x12)) else (
 some (.inl ()))
def F104 (fuel : Nat) (a2 : List (List ByteArray)) (a4 : ByteArray) : Option (Int) :=
 Option.bind (α := (Unit ⊕ Int)) (
 F104_l6 fuel a2 a4 fuel (0 : Int)) (Sum.elim (fun i5 =>
 some (-1 : Int)) (fun z => some z))
theorem F104_ok {w0 : World} (hG : Globs w0) (fuel : Nat) : ∀ (a2 : List (List ByteArray)) (a4 : ByteArray) (q1 : Hnd) (b3 : Nat) {r : Int} (e0 : F104 fuel a2 a4 = some r), Fn w0 prog 104 [.val (sl q1), .val (.func (.func 105) #[] #[.pointer (some ⟨b3, 0, none⟩)])] [ownA (sl q1) 67 .strs a2, boxA b3 9 [sS a4]] (fun s H => s = sI r ∧ H = [ownA (sl q1) 67 .strs a2, boxA b3 9 [sS a4]]) := by
 intro a2 a4 q1 b3 r e0
 rw [F104] at e0
 refine fn_intro2 19 [.tmp 4] func104 rfl rfl rfl rfl fun X hX F => ?_
 refine C_turn (T_start [(0, .val (sl q1)), (1, .val (.func (.func 105) #[] #[.pointer (some ⟨b3, 0, none⟩)]))] rfl (ownA (sl q1) 67 .strs a2 :: boxA b3 9 [sS a4] :: F) rfl) ?_
 refine gs ?_
 obtain ⟨o5,e1,e0⟩:=be e0
 refine C_cut (ι := Unit) (fun i => []) (fun i => ownA (sl q1) 67 .strs a2 :: boxA b3 9 [sS a4] :: F) (fun i => o5 = .inl ()) ?_ ?_
 refine gs ?_
 refine W rfl (O_len_own tyl_135 rfl ?_)
 refine go ?_
 refine C_loopF (κ := Int) (fun d => [(0, .val (sl q1)), (1, .val (.func (.func 105) #[] #[.pointer (some ⟨b3, 0, none⟩)])), (7, sI (a2.length : Int)), (8, sI d)]) (fun d => ownA (sl q1) 67 .strs a2 :: boxA b3 9 [sS a4] :: F) (fun n d => F104_l6 fuel a2 a4 n d) o5 fuel (0 : Int) e1 (tl [0, 0] 0 rfl rfl) (fun _ => rfl) ?_
 rintro n y7 hF
 have e1 : F104_l6 fuel a2 a4 (n + 1) y7 = some o5 := hF
 rw [F104_l6] at e1
 clear hF
 refine gs ?_
 refine C_seq ?_
 refine C_cd rfl e1 (fun e1 => ?_) (fun e1 => ?_)
 refine go ?_
 refine gs ?_
 refine gs ?_
 refine gs ?_
 obtain ⟨x9,w9,e1⟩:=be e1
 refine W rfl (O_indexAddr_own (k := .strs) tyL_135 rfl rfl (idx_lt w9).1 (idx_lt w9).2 ?_)
 refine W rfl (O_load_opt (k := .strs) (i := (y7).toNat) (j := 0) ty1_67 rfl rfl (idx_e w9).2 rfl ?_)
 obtain ⟨r10,hr10,e1⟩:=be e1
 refine W rfl (O_callV0 (ss := [.isl .str x9]) (F := ownA (sl q1) 67 .strs a2 :: F) rfl fn_105 rfl (F105_ok hG fuel x9 a4 b3 hr10) (sel_perm [1] _) ?_)
 refine go ?_
 refine C_cd rfl e1 (fun e1 => ?_) (fun e1 => ?_)
 refine gs ?_
 obtain rfl := so e1
 obtain rfl := so e0
 refine go ?_
 exact rt [1, 0] 0 ⟨rfl, rfl⟩ rfl rfl
 refine go ?_
 obtain ⟨x12,w12,e1⟩:=be e1
 refine W rfl (O_arI rfl rfl rfl (ck_e w12).2 (W_re (congrArg sI (ck_e w12).1) ?_))
 refine go ?_
 exact jmpL x12 e1 (tl [1, 0] 0 rfl rfl)
 refine go ?_
 obtain rfl := so e1
 exact jmp () rfl (tl [0, 0] 0 rfl rfl)
 rintro ⟨⟩ hi
 subst hi
 have e0 := elim_l e0
 refine gs ?_
 obtain rfl := so e0
 refine go ?_
 exact rt [0, 0] 0 ⟨rfl, rfl⟩ rfl rfl
def F72 (fuel : Nat) (a1 : ByteArray) : Option (Int) :=
 (F104 fuel [[(⟨#[124, 124]⟩ : ByteArray)], [(⟨#[38, 38]⟩ : ByteArray)], [(⟨#[61, 61]⟩ : ByteArray), (⟨#[33, 61]⟩ : ByteArray), (⟨#[60]⟩ : ByteArray), (⟨#[60, 61]⟩ : ByteArray), (⟨#[62]⟩ : ByteArray), (⟨#[62, 61]⟩ : ByteArray)], [(⟨#[43]⟩ : ByteArray), (⟨#[45]⟩ : ByteArray), (⟨#[124]⟩ : ByteArray), (⟨#[94]⟩ : ByteArray)], [(⟨#[42]⟩ : ByteArray), (⟨#[47]⟩ : ByteArray), (⟨#[37]⟩ : ByteArray), (⟨#[60, 60]⟩ : ByteArray), (⟨#[62, 62]⟩ : ByteArray), (⟨#[38]⟩ : ByteArray), (⟨#[38, 94]⟩ : ByteArray)]] a1).bind fun r9 =>
 (ck ((1 : Int) + r9)).bind fun x10 =>
 some x10
theorem F72_ok {w0 : World} (hG : Globs w0) (fuel : Nat) : ∀ (a1 : ByteArray) {r : Int} (e0 : F72 fuel a1 = some r), Fn w0 prog 72 [sS a1] [] (fun s H => s = sI r ∧ H = []) := by
 intro a1 r e0
 rw [F72] at e0
 refine fn_intro2 14 [.tmp 2] func72 rfl rfl rfl rfl fun X hX F => ?_
 refine C_turn (T_start [(0, sS a1)] rfl (F) rfl) ?_
 refine gs ?_
 refine W rfl (O_box rfl rfl fun b2 => ?_)
 refine go ?_
 refine gs ?_
 refine W rfl (A_build 9 16 .str [(⟨#[124, 124]⟩ : ByteArray)] (ss := [(0, sS (⟨#[124, 124]⟩ : ByteArray))]) tyE_67 tyZ_9 rfl rfl rfl rfl rfl rfl fun q3 => ?_)
 refine W rfl (A_build 9 16 .str [(⟨#[38, 38]⟩ : ByteArray)] (ss := [(0, sS (⟨#[38, 38]⟩ : ByteArray))]) tyE_67 tyZ_9 rfl rfl rfl rfl rfl rfl fun q4 => ?_)
 refine W rfl (A_build 9 16 .str [(⟨#[61, 61]⟩ : ByteArray), (⟨#[33, 61]⟩ : ByteArray), (⟨#[60]⟩ : ByteArray), (⟨#[60, 61]⟩ : ByteArray), (⟨#[62]⟩ : ByteArray), (⟨#[62, 61]⟩ : ByteArray)] (ss := [(0, sS (⟨#[61, 61]⟩ : ByteArray)), (1, sS (⟨#[33, 61]⟩ : ByteArray)), (2, sS (⟨#[60]⟩ : ByteArray)), (3, sS (⟨#[60, 61]⟩ : ByteArray)), (4, sS (⟨#[62]⟩ : ByteArray)), (5, sS (⟨#[62, 61]⟩ : ByteArray))]) tyE_67 tyZ_9 rfl rfl rfl rfl rfl rfl fun q5 => ?_)
 refine W rfl (A_build 9 16 .str [(⟨#[43]⟩ : ByteArray), (⟨#[45]⟩ : ByteArray), (⟨#[124]⟩ : ByteArray), (⟨#[94]⟩ : ByteArray)] (ss := [(0, sS (⟨#[43]⟩ : ByteArray)), (1, sS (⟨#[45]⟩ : ByteArray)), (2, sS (⟨#[124]⟩ : ByteArray)), (3, sS (⟨#[94]⟩ : ByteArray))]) tyE_67 tyZ_9 rfl rfl rfl rfl rfl rfl fun q6 => ?_)
 refine W rfl (A_build 9 16 .str [(⟨#[42]⟩ : ByteArray), (⟨#[47]⟩ : ByteArray), (⟨#[37]⟩ : ByteArray), (⟨#[60, 60]⟩ : ByteArray), (⟨#[62, 62]⟩ : ByteArray), (⟨#[38]⟩ : ByteArray), (⟨#[38, 94]⟩ : ByteArray)] (ss := [(0, sS (⟨#[42]⟩ : ByteArray)), (1, sS (⟨#[47]⟩ : ByteArray)), (2, sS (⟨#[37]⟩ : ByteArray)), (3, sS (⟨#[60, 60]⟩ : ByteArray)), (4, sS (⟨#[62, 62]⟩ : ByteArray)), (5, sS (⟨#[38]⟩ : ByteArray)), (6, sS (⟨#[38, 94]⟩ : ByteArray))]) tyE_67 tyZ_9 rfl rfl rfl rfl rfl rfl fun q7 => ?_)
 refine W_turn (T_freezeL (sl q3) (k := .str) (.cons 4 rfl .here .nil)) ?_
 refine W_turn (T_freezeL (sl q4) (k := .str) (.cons 5 rfl .here .nil)) ?_
 refine W_turn (T_freezeL (sl q5) (k := .str) (.cons 6 rfl .here .nil)) ?_
 refine W_turn (T_freezeL (sl q6) (k := .str) (.cons 7 rfl .here .nil)) ?_
 refine W_turn (T_freezeL (sl q7) (k := .str) (.cons 8 rfl .here .nil)) ?_
 refine W rfl (A_build 67 24 .strs [[(⟨#[124, 124]⟩ : ByteArray)], [(⟨#[38, 38]⟩ : ByteArray)], [(⟨#[61, 61]⟩ : ByteArray), (⟨#[33, 61]⟩ : ByteArray), (⟨#[60]⟩ : ByteArray), (⟨#[60, 61]⟩ : ByteArray), (⟨#[62]⟩ : ByteArray), (⟨#[62, 61]⟩ : ByteArray)], [(⟨#[43]⟩ : ByteArray), (⟨#[45]⟩ : ByteArray), (⟨#[124]⟩ : ByteArray), (⟨#[94]⟩ : ByteArray)], [(⟨#[42]⟩ : ByteArray), (⟨#[47]⟩ : ByteArray), (⟨#[37]⟩ : ByteArray), (⟨#[60, 60]⟩ : ByteArray), (⟨#[62, 62]⟩ : ByteArray), (⟨#[38]⟩ : ByteArray), (⟨#[38, 94]⟩ : ByteArray)]] (ss := [(0, .isl .str [(⟨#[124, 124]⟩ : ByteArray)]), (1, .isl .str [(⟨#[38, 38]⟩ : ByteArray)]), (2, .isl .str [(⟨#[61, 61]⟩ : ByteArray), (⟨#[33, 61]⟩ : ByteArray), (⟨#[60]⟩ : ByteArray), (⟨#[60, 61]⟩ : ByteArray), (⟨#[62]⟩ : ByteArray), (⟨#[62, 61]⟩ : ByteArray)]), (3, .isl .str [(⟨#[43]⟩ : ByteArray), (⟨#[45]⟩ : ByteArray), (⟨#[124]⟩ : ByteArray), (⟨#[94]⟩ : ByteArray)]), (4, .isl .str [(⟨#[42]⟩ : ByteArray), (⟨#[47]⟩ : ByteArray), (⟨#[37]⟩ : ByteArray), (⟨#[60, 60]⟩ : ByteArray), (⟨#[62, 62]⟩ : ByteArray), (⟨#[38]⟩ : ByteArray), (⟨#[38, 94]⟩ : ByteArray)])]) tyE_135 tyZ_67 rfl rfl rfl rfl rfl rfl fun q8 => ?_)
 refine go ?_
 refine gs ?_
 refine W rfl (O_makeFunc (vs := []) (us := [.pointer (some ⟨b2, 0, none⟩)]) rfl rfl ?_)
 obtain ⟨r9,hr9,e0⟩:=be e0
 refine W rfl (O_call0 (F := F) fn_104 rfl (F104_ok hG fuel [[(⟨#[124, 124]⟩ : ByteArray)], [(⟨#[38, 38]⟩ : ByteArray)], [(⟨#[61, 61]⟩ : ByteArray), (⟨#[33, 61]⟩ : ByteArray), (⟨#[60]⟩ : ByteArray), (⟨#[60, 61]⟩ : ByteArray), (⟨#[62]⟩ : ByteArray), (⟨#[62, 61]⟩ : ByteArray)], [(⟨#[43]⟩ : ByteArray), (⟨#[45]⟩ : ByteArray), (⟨#[124]⟩ : ByteArray), (⟨#[94]⟩ : ByteArray)], [(⟨#[42]⟩ : ByteArray), (⟨#[47]⟩ : ByteArray), (⟨#[37]⟩ : ByteArray), (⟨#[60, 60]⟩ : ByteArray), (⟨#[62, 62]⟩ : ByteArray), (⟨#[38]⟩ : ByteArray), (⟨#[38, 94]⟩ : ByteArray)]] a1 q8 b2 hr9) (sel_perm [0, 0] _) ?_)
 obtain ⟨x10,w10,e0⟩:=be e0
 refine W rfl (O_arI rfl rfl rfl (ck_e w10).2 (W_re (congrArg sI (ck_e w10).1) ?_))
 refine go ?_
 obtain rfl := so e0
 refine go ?_
 exact rt [] 2 ⟨rfl, rfl⟩ rfl rfl
def F57 (fuel : Nat) (a1 : Tree) : Option (Bool) :=
 Option.bind (α := Bool) (
 bif (a1.kind == (2 : Int)) then (
 some (a1.kind == (2 : Int))) else (
 bif (a1.kind == (4 : Int)) then (
 some (a1.kind == (4 : Int))) else (
 bif (a1.kind == (5 : Int)) then (
 some (a1.kind == (5 : Int))) else (
 bif (a1.kind == (6 : Int)) then (
 some (a1.kind == (6 : Int))) else (
 bif (a1.kind == (7 : Int)) then (
 some (a1.kind == (7 : Int))) else (
 bif (a1.kind == (14 : Int)) then (
 some (a1.kind == (14 : Int))) else (
 bif (a1.kind == (16 : Int)) then (
 some (a1.kind == (16 : Int))) else (
 bif (a1.kind == (9 : Int)) then (
 some (a1.kind == (9 : Int))) else (
 some (a1.kind == (32 : Int))))))))))) fun i3 =>
 bif i3 then (
 (F70 fuel a1.text).bind fun r13 =>
 some r13) else (
 Option.bind (α := Bool) (
 bif (a1.kind == (3 : Int)) then (
 some (a1.kind == (3 : Int))) else (
 some (a1.kind == (27 : Int)))) fun i14 =>
 bif i14 then (
 (F59 fuel a1.text (3 : Int)).bind fun r17 =>
 some r17) else (
 bif (a1.kind == (26 : Int)) then (
 (F59 fuel a1.text (2 : Int)).bind fun r19 =>
 some r19) else (
 bif (a1.kind == (8 : Int)) then (
 (F59 fuel a1.text (5 : Int)).bind fun r21 =>
 some r21) else (
 bif (a1.kind == (21 : Int)) then (
 (F71 fuel [(⟨#[61]⟩ : ByteArray), (⟨#[58, 61]⟩ : ByteArray), (⟨#[43, 61]⟩ : ByteArray), (⟨#[45, 61]⟩ : ByteArray), (⟨#[42, 61]⟩ : ByteArray), (⟨#[47, 61]⟩ : ByteArray), (⟨#[37, 61]⟩ : ByteArray)] a1.text).bind fun r24 =>
 some r24) else (
 bif (a1.kind == (22 : Int)) then (
 Option.bind (α := Bool) (
 bif (decide (a1.text = (⟨#[43, 43]⟩ : ByteArray))) then (
 some true) else (
 some (decide (a1.text = (⟨#[45, 45]⟩ : ByteArray))))) fun i26 =>
 some i26) else (
 bif (a1.kind == (28 : Int)) then (
 (F71 fuel [(⟨#[45]⟩ : ByteArray), (⟨#[33]⟩ : ByteArray), (⟨#[94]⟩ : ByteArray), (⟨#[42]⟩ : ByteArray), (⟨#[38]⟩ : ByteArray), (⟨#[43]⟩ : ByteArray)] a1.text).bind fun r30 =>
 some r30) else (
 bif (a1.kind == (29 : Int)) then (
 (F72 fuel a1.text).bind fun r32 =>
 some (decide (r32 > (0 : Int)))) else (
 some (decide (a1.text = (⟨#[]⟩ : ByteArray)))))))))))
theorem F57_ok {w0 : World} (hG : Globs w0) (fuel : Nat) : ∀ (a1 : Tree) {r : Bool} (e0 : F57 fuel a1 = some r), Fn w0 prog 57 [.agg [sI a1.kind, sS a1.text, sS a1.trail, .isl .node a1.kids]] [] (fun s H => s = sB r ∧ H = []) := by
 intro a1 r e0
 rw [F57] at e0
 refine fn_intro2 65 [.tmp 2] func57 rfl rfl rfl rfl fun X hX F => ?_
 refine C_turn (T_start [(0, .agg [sI a1.kind, sS a1.text, sS a1.trail, .isl .node a1.kids])] rfl (F) rfl) ?_
 refine gs ?_
 refine W rfl (O_box rfl rfl fun b2 => ?_)
 refine go ?_
 refine C_seq ?_
 refine gs ?_
 obtain ⟨i3,e1,e0⟩:=be e0
 refine C_cut (ι := Bool) (fun i => [(1, sP b2 0), (4, sI a1.kind), (5, sB i)]) (fun i => bx1 b2 a1.kind a1.text a1.trail a1.kids :: F) (fun i => i3 = i) ?_ ?_
 refine gs ?_
 refine C_cd rfl e1 (fun e1 => ?_) (fun e1 => ?_)
 refine go ?_
 exact jm e1 (tl [0] 0 rfl rfl)
 refine gs ?_
 refine C_cd rfl e1 (fun e1 => ?_) (fun e1 => ?_)
 refine go ?_
 exact jm e1 (tl [0] 0 rfl rfl)
 refine gs ?_
 refine C_cd rfl e1 (fun e1 => ?_) (fun e1 => ?_)
 refine go ?_
 exact jm e1 (tl [0] 0 rfl rfl)
 refine gs ?_
 refine C_cd rfl e1 (fun e1 => ?_) (fun e1 => ?_)
 refine go ?_
 exact jm e1 (tl [0] 0 rfl rfl)
 refine gs ?_
 refine C_cd rfl e1 (fun e1 => ?_) (fun e1 => ?_)
 refine go ?_
 exact jm e1 (tl [0] 0 rfl rfl)
 refine gs ?_
 refine C_cd rfl e1 (fun e1 => ?_) (fun e1 => ?_)
 refine go ?_
 exact jm e1 (tl [0] 0 rfl rfl)
 refine gs ?_
 refine C_cd rfl e1 (fun e1 => ?_) (fun e1 => ?_)
 refine go ?_
 exact jm e1 (tl [0] 0 rfl rfl)
 refine gs ?_
 refine C_cd rfl e1 (fun e1 => ?_) (fun e1 => ?_)
 refine go ?_
 exact jm e1 (tl [0] 0 rfl rfl)
 refine go ?_
 exact jm e1 (tl [0] 0 rfl rfl)
 rintro z hi
 subst hi
 refine C_cd rfl e0 (fun e0 => ?_) (fun e0 => ?_)
 refine gs ?_
 obtain ⟨r13,hr13,e0⟩:=be e0
 refine W rfl (O_callP fn_70 rfl (F70_ok hG fuel a1.text hr13) ?_)
 refine go ?_
 obtain rfl := so e0
 refine go ?_
 exact rt [] 1 ⟨rfl, rfl⟩ rfl rfl
 obtain ⟨i14,e1,e0⟩:=be e0
 refine C_cut (ι := Bool) (fun i => [(1, sP b2 0), (4, sI a1.kind), (18, sB i)]) (fun i => bx1 b2 a1.kind a1.text a1.trail a1.kids :: F) (fun i => i14 = i) ?_ ?_
 refine gs ?_
 refine C_cd rfl e1 (fun e1 => ?_) (fun e1 => ?_)
 refine go ?_
 exact jm e1 (tl [0] 0 rfl rfl)
 refine go ?_
 exact jm e1 (tl [0] 0 rfl rfl)
 rintro z hi
 subst hi
 refine C_cd rfl e0 (fun e0 => ?_) (fun e0 => ?_)
 refine gs ?_
 obtain ⟨r17,hr17,e0⟩:=be e0
 refine W rfl (O_callP fn_59 rfl (F59_ok hG fuel a1.text (3 : Int) hr17) ?_)
 refine go ?_
 obtain rfl := so e0
 refine go ?_
 exact rt [] 1 ⟨rfl, rfl⟩ rfl rfl
 refine gs ?_
 refine C_cd rfl e0 (fun e0 => ?_) (fun e0 => ?_)
 refine gs ?_
 obtain ⟨r19,hr19,e0⟩:=be e0
 refine W rfl (O_callP fn_59 rfl (F59_ok hG fuel a1.text (2 : Int) hr19) ?_)
 refine go ?_
 obtain rfl := so e0
 refine go ?_
 exact rt [] 1 ⟨rfl, rfl⟩ rfl rfl
 refine gs ?_
 refine C_cd rfl e0 (fun e0 => ?_) (fun e0 => ?_)
 refine gs ?_
 obtain ⟨r21,hr21,e0⟩:=be e0
 refine W rfl (O_callP fn_59 rfl (F59_ok hG fuel a1.text (5 : Int) hr21) ?_)
 refine go ?_
 obtain rfl := so e0
 refine go ?_
 exact rt [] 1 ⟨rfl, rfl⟩ rfl rfl
 refine gs ?_
 refine C_cd rfl e0 (fun e0 => ?_) (fun e0 => ?_)
 refine gs ?_
 refine W rfl (A_build 9 16 .str [(⟨#[61]⟩ : ByteArray), (⟨#[58, 61]⟩ : ByteArray), (⟨#[43, 61]⟩ : ByteArray), (⟨#[45, 61]⟩ : ByteArray), (⟨#[42, 61]⟩ : ByteArray), (⟨#[47, 61]⟩ : ByteArray), (⟨#[37, 61]⟩ : ByteArray)] (ss := [(0, sS (⟨#[61]⟩ : ByteArray)), (1, sS (⟨#[58, 61]⟩ : ByteArray)), (2, sS (⟨#[43, 61]⟩ : ByteArray)), (3, sS (⟨#[45, 61]⟩ : ByteArray)), (4, sS (⟨#[42, 61]⟩ : ByteArray)), (5, sS (⟨#[47, 61]⟩ : ByteArray)), (6, sS (⟨#[37, 61]⟩ : ByteArray))]) tyE_67 tyZ_9 rfl rfl rfl rfl rfl rfl fun q23 => ?_)
 refine go ?_
 obtain ⟨r24,hr24,e0⟩:=be e0
 refine W rfl (O_call0 (F := bx1 b2 a1.kind a1.text a1.trail a1.kids :: F) fn_71 rfl (F71_ok hG fuel [(⟨#[61]⟩ : ByteArray), (⟨#[58, 61]⟩ : ByteArray), (⟨#[43, 61]⟩ : ByteArray), (⟨#[45, 61]⟩ : ByteArray), (⟨#[42, 61]⟩ : ByteArray), (⟨#[47, 61]⟩ : ByteArray), (⟨#[37, 61]⟩ : ByteArray)] a1.text q23 hr24) (sel_perm [0] _) ?_)
 refine go ?_
 obtain rfl := so e0
 refine go ?_
 exact rt [] 2 ⟨rfl, rfl⟩ rfl rfl
 refine gs ?_
 refine C_cd rfl e0 (fun e0 => ?_) (fun e0 => ?_)
 obtain ⟨i26,e1,e0⟩:=be e0
 refine C_cut (ι := Bool) (fun i => [(2, sB i)]) (fun i => F) (fun i => i26 = i) ?_ ?_
 refine go ?_
 refine W rfl (O_seq rfl rfl ?_)
 refine go ?_
 obtain ⟨hg27, e1⟩ | ⟨hg27, e1⟩ := bc e1
 refine go ?_
 exact jm e1 (tl [] 1 rfl rfl)
 refine Wt rfl rfl rfl hg27 rfl rfl (O_fieldAddr tyF_24_1 rfl ?_)
 refine Wt rfl rfl rfl hg27 rfl rfl (O_load ty1_9 rfl rfl ?_)
 refine Wt rfl rfl rfl hg27 rfl rfl (O_seq rfl rfl ?_)
 refine go ?_
 exact jm e1 (tl [] 1 rfl rfl)
 rintro z hi
 subst hi
 refine go ?_
 obtain rfl := so e0
 refine go ?_
 exact rt [] 0 ⟨rfl, rfl⟩ rfl rfl
 refine gs ?_
 refine C_cd rfl e0 (fun e0 => ?_) (fun e0 => ?_)
 refine gs ?_
 refine W rfl (A_build 9 16 .str [(⟨#[45]⟩ : ByteArray), (⟨#[33]⟩ : ByteArray), (⟨#[94]⟩ : ByteArray), (⟨#[42]⟩ : ByteArray), (⟨#[38]⟩ : ByteArray), (⟨#[43]⟩ : ByteArray)] (ss := [(0, sS (⟨#[45]⟩ : ByteArray)), (1, sS (⟨#[33]⟩ : ByteArray)), (2, sS (⟨#[94]⟩ : ByteArray)), (3, sS (⟨#[42]⟩ : ByteArray)), (4, sS (⟨#[38]⟩ : ByteArray)), (5, sS (⟨#[43]⟩ : ByteArray))]) tyE_67 tyZ_9 rfl rfl rfl rfl rfl rfl fun q29 => ?_)
 refine go ?_
 obtain ⟨r30,hr30,e0⟩:=be e0
 refine W rfl (O_call0 (F := bx1 b2 a1.kind a1.text a1.trail a1.kids :: F) fn_71 rfl (F71_ok hG fuel [(⟨#[45]⟩ : ByteArray), (⟨#[33]⟩ : ByteArray), (⟨#[94]⟩ : ByteArray), (⟨#[42]⟩ : ByteArray), (⟨#[38]⟩ : ByteArray), (⟨#[43]⟩ : ByteArray)] a1.text q29 hr30) (sel_perm [0] _) ?_)
 refine go ?_
 obtain rfl := so e0
 refine go ?_
 exact rt [] 2 ⟨rfl, rfl⟩ rfl rfl
 refine gs ?_
 refine C_cd rfl e0 (fun e0 => ?_) (fun e0 => ?_)
 refine gs ?_
 obtain ⟨r32,hr32,e0⟩:=be e0
 refine W rfl (O_callP fn_72 rfl (F72_ok hG fuel a1.text hr32) ?_)
 refine go ?_
 obtain rfl := so e0
 refine go ?_
 exact rt [] 1 ⟨rfl, rfl⟩ rfl rfl
 refine go ?_
 refine gs ?_
 refine W rfl (O_seq rfl rfl ?_)
 refine go ?_
 obtain rfl := so e0
 refine go ?_
 exact rt [] 1 ⟨rfl, rfl⟩ rfl rfl
def F60 (fuel : Nat) (a2 : List Int) : Option (Unit) :=
 some ()
theorem F60_ok {w0 : World} (hG : Globs w0) (fuel : Nat) : ∀ (a2 : List Int) (q1 : Hnd) {r : Unit} (e0 : F60 fuel a2 = some r), Fn w0 prog 60 [.val (sl q1)] [ownA (sl q1) 3 .int a2] (fun s H => ∃ k0 : Nat, s = .val (.func (.func 83) #[] #[.pointer (some ⟨k0, 0, none⟩)]) ∧ H = [ownA (sl q1) 3 .int a2, boxA k0 28 [.val (sl q1)]]) := by
 intro a2 q1 r e0
 rw [F60] at e0
 refine fn_intro2 4 [.tmp 2] func60 rfl rfl rfl rfl fun X hX F => ?_
 refine C_turn (T_start [(0, .val (sl q1))] rfl (ownA (sl q1) 3 .int a2 :: F) rfl) ?_
 refine gs ?_
 refine W rfl (O_box rfl rfl fun b3 => ?_)
 refine go ?_
 refine gs ?_
 refine W rfl (O_makeFunc (vs := []) (us := [.pointer (some ⟨b3, 0, none⟩)]) rfl rfl ?_)
 refine go ?_
 obtain rfl := so e0
 refine go ?_
 exact rt [1, 0] 0 ⟨b3, rfl, rfl⟩ rfl rfl
def F121_l5 (fuel : Nat) (a2 : List Int) (a3 : Int) : Nat → Int → Option ((Unit ⊕ Int))
 | 0, _ => none
 | n + 1, y6 =>
 bif (decide (y6 < (a2.length : Int))) then (
 (idx a2 y6).bind fun x8 =>
 bif (a3 == x8) then (
 some (.inr y6)) else (
 (ck (y6 + (1 : Int))).bind fun x10 =>
 F121_l5 fuel a2 a3 n x10)) else (
 some (.inl ()))
def F121 (fuel : Nat) (a2 : List Int) (a3 : Int) : Option (Int) :=
 Option.bind (α := (Unit ⊕ Int)) (
 F121_l5 fuel a2 a3 fuel (0 : Int)) (Sum.elim (fun i4 =>
 some (-1 : Int)) (fun z => some z))
theorem F121_ok {w0 : World} (hG : Globs w0) (fuel : Nat) : ∀ (a2 : List Int) (a3 : Int) (q1 : Hnd) {r : Int} (e0 : F121 fuel a2 a3 = some r), Fn w0 prog 121 [.val (sl q1), sI a3] [ownA (sl q1) 3 .int a2] (fun s H => s = sI r ∧ H = [ownA (sl q1) 3 .int a2]) := by
 intro a2 a3 q1 r e0
 rw [F121] at e0
 refine fn_intro2 19 [.tmp 4] func121 rfl rfl rfl rfl fun X hX F => ?_
 refine C_turn (T_start [(0, .val (sl q1)), (1, sI a3)] rfl (ownA (sl q1) 3 .int a2 :: F) rfl) ?_
 refine gs ?_
 obtain ⟨o4,e1,e0⟩:=be e0
 refine C_cut (ι := Unit) (fun i => []) (fun i => ownA (sl q1) 3 .int a2 :: F) (fun i => o4 = .inl ()) ?_ ?_
 refine gs ?_
 refine W rfl (O_len_own tyl_28 rfl ?_)
 refine go ?_
 refine C_loopF (κ := Int) (fun d => [(0, .val (sl q1)), (1, sI a3), (7, sI (a2.length : Int)), (8, sI d)]) (fun d => ownA (sl q1) 3 .int a2 :: F) (fun n d => F121_l5 fuel a2 a3 n d) o4 fuel (0 : Int) e1 (tl [0] 0 rfl rfl) (fun _ => rfl) ?_
 rintro n y6 hF
 have e1 : F121_l5 fuel a2 a3 (n + 1) y6 = some o4 := hF
 rw [F121_l5] at e1
 clear hF
 refine gs ?_
 refine C_seq ?_
 refine C_cd rfl e1 (fun e1 => ?_) (fun e1 => ?_)
 refine go ?_
 refine gs ?_
 refine gs ?_
 refine gs ?_
 obtain ⟨x8,w8,e1⟩:=be e1
 refine W rfl (O_indexAddr_own (k := .int) tyL_28 rfl rfl (idx_lt w8).1 (idx_lt w8).2 ?_)
 refine W rfl (O_load_opt (k := .int) (i := (y6).toNat) (j := 0) ty1_3 rfl rfl (idx_e w8).2 rfl ?_)
 refine go ?_
 refine C_cd rfl e1 (fun e1 => ?_) (fun e1 => ?_)
 refine gs ?_
 obtain rfl := so e1
 obtain rfl := so e0
 refine go ?_
 exact rt [0] 0 ⟨rfl, rfl⟩ rfl rfl
 refine go ?_
 obtain ⟨x10,w10,e1⟩:=be e1
 refine W rfl (O_arI rfl rfl rfl (ck_e w10).2 (W_re (congrArg sI (ck_e w10).1) ?_))
 refine go ?_
 exact jmpL x10 e1 (tl [0] 0 rfl rfl)
 refine go ?_
 obtain rfl := so e1
 exact jmp () rfl (tl [0] 0 rfl rfl)
 rintro ⟨⟩ hi
 subst hi
 have e0 := elim_l e0
 refine gs ?_
 obtain rfl := so e0
 refine go ?_
 exact rt [0] 0 ⟨rfl, rfl⟩ rfl rfl
def F84 (fuel : Nat) (a2 : List Int) (a3 : Int) : Option (Bool) :=
 (F121 fuel a2 a3).bind fun r4 =>
 some (decide (r4 ≥ (0 : Int)))
theorem F84_ok {w0 : World} (hG : Globs w0) (fuel : Nat) : ∀ (a2 : List Int) (a3 : Int) (q1 : Hnd) {r : Bool} (e0 : F84 fuel a2 a3 = some r), Fn w0 prog 84 [.val (sl q1), sI a3] [ownA (sl q1) 3 .int a2] (fun s H => s = sB r ∧ H = [ownA (sl q1) 3 .int a2]) := by
 intro a2 a3 q1 r e0
 rw [F84] at e0
 refine fn_intro2 9 [.tmp 4] func84 rfl rfl rfl rfl fun X hX F => ?_
 refine C_turn (T_start [(0, .val (sl q1)), (1, sI a3)] rfl (ownA (sl q1) 3 .int a2 :: F) rfl) ?_
 refine gs ?_
 refine gs ?_
 obtain ⟨r4,hr4,e0⟩:=be e0
 refine W rfl (O_call0 (F := F) fn_121 rfl (F121_ok hG fuel a2 a3 q1 hr4) (sel_perm [0] _) ?_)
 refine go ?_
 obtain rfl := so e0
 refine go ?_
 exact rt [0] 0 ⟨rfl, rfl⟩ rfl rfl
def F83 (fuel : Nat) (a1 : Tree) (a4 : List Int) : Option (Bool) :=
 (F84 fuel a4 a1.kind).bind fun r6 =>
 some r6
theorem F83_ok {w0 : World} (hG : Globs w0) (fuel : Nat) : ∀ (a1 : Tree) (a4 : List Int) (b2 : Nat) (q3 : Hnd) {r : Bool} (e0 : F83 fuel a1 a4 = some r), Fn w0 prog 83 [.agg [sI a1.kind, sS a1.text, sS a1.trail, .isl .node a1.kids], sP b2 0] [boxA b2 28 [.val (sl q3)], ownA (sl q3) 3 .int a4] (fun s H => s = sB r ∧ H = [boxA b2 28 [.val (sl q3)], ownA (sl q3) 3 .int a4]) := by
 intro a1 a4 b2 q3 r e0
 rw [F83] at e0
 refine fn_intro2 8 [.tmp 3] func83 rfl rfl rfl rfl fun X hX F => ?_
 refine C_turn (T_start [(0, .agg [sI a1.kind, sS a1.text, sS a1.trail, .isl .node a1.kids]), (1, sP b2 0)] rfl (boxA b2 28 [.val (sl q3)] :: ownA (sl q3) 3 .int a4 :: F) rfl) ?_
 refine gs ?_
 refine W rfl (O_box rfl rfl fun b5 => ?_)
 refine go ?_
 refine gs ?_
 obtain ⟨r6,hr6,e0⟩:=be e0
 refine W rfl (O_call0 (F := bx1 b5 a1.kind a1.text a1.trail a1.kids :: boxA b2 28 [.val (sl q3)] :: F) fn_84 rfl (F84_ok hG fuel a4 a1.kind q3 hr6) (sel_perm [2] _) ?_)
 refine go ?_
 obtain rfl := so e0
 refine go ?_
 exact rt [2, 0] 1 ⟨rfl, rfl⟩ rfl rfl
def F73_l3 (fuel : Nat) (a1 : List Tree) : Nat → Int → Int → Option ((Int ⊕ Bool))
 | 0, _, _ => none
 | n + 1, y4, y5 =>
 bif (decide (y5 < (a1.length : Int))) then (
 Option.bind (α := (Int ⊕ Bool)) (
 (idx a1 y5).bind fun x8 =>
 bif (x8.kind == (8 : Int)) then (
 some (.inl y4)) else (
 Option.bind (α := Bool) (
 bif (x8.kind == (2 : Int)) then (
 some (y4 == (0 : Int))) else (
 some false)) fun i11 =>
 bif i11 then (
 some (.inl (1 : Int))) else (
 Option.bind (α := Bool) (
 bif (x8.kind == (3 : Int)) then (
 some (y4 == (1 : Int))) else (
 some false)) fun i14 =>
 bif i14 then (
 some (.inl y4)) else (
 Option.bind (α := Bool) (
 (F60 fuel [(4 : Int), (5 : Int), (6 : Int), (7 : Int)]).bind fun r19 =>
 (F83 fuel x8 [(4 : Int), (5 : Int), (6 : Int), (7 : Int)]).bind fun r21 =>
 bif r21 then (
 some (decide (y4 > (0 : Int)))) else (
 some false)) fun i17 =>
 bif i17 then (
 some (.inl (2 : Int))) else (
 some (.inr false)))))) (Sum.elim (fun i7 =>
 (ck (y5 + (1 : Int))).bind fun x24 =>
 F73_l3 fuel a1 n i7 x24) (fun z => some (.inr z)))) else (
 some (.inl y4))
def F73 (fuel : Nat) (a1 : List Tree) : Option (Bool) :=
 Option.bind (α := (Int ⊕ Bool)) (
 F73_l3 fuel a1 fuel (0 : Int) (0 : Int)) (Sum.elim (fun i2 =>
 some (decide (i2 > (0 : Int)))) (fun z => some z))
theorem F73_ok {w0 : World} (hG : Globs w0) (fuel : Nat) : ∀ (a1 : List Tree) {r : Bool} (e0 : F73 fuel a1 = some r), Fn w0 prog 73 [.isl .node a1] [] (fun s H => s = sB r ∧ H = []) := by
 intro a1 r e0
 rw [F73] at e0
 refine fn_intro2 44 [.tmp 2] func73 rfl rfl rfl rfl fun X hX F => ?_
 refine C_turn (T_start [(0, .isl .node a1)] rfl (F) rfl) ?_
 refine gs ?_
 refine gs ?_
 obtain ⟨o2,e1,e0⟩:=be e0
 refine C_cut (ι := Int) (fun i => [(3, sI i)]) (fun i => F) (fun i => o2 = .inl i) ?_ ?_
 refine gs ?_
 refine C_loopF (κ := (Int × Int)) (fun d => [(3, sI d.1),(6, .isl .node a1),(7, sI (a1.length : Int)),(8, sI d.2)]) (fun d => F) (fun n d => F73_l3 fuel a1 n d.1 d.2) o2 fuel ((0 : Int),(0 : Int)) e1 (tl [] 0 rfl rfl) (fun _ => rfl) ?_
 rintro n ⟨y4, y5⟩ hF
 have e1 : F73_l3 fuel a1 (n + 1) y4 y5 = some o2 := hF
 rw [F73_l3] at e1
 clear hF
 refine gs ?_
 refine C_seq ?_
 refine C_cd rfl e1 (fun e1 => ?_) (fun e1 => ?_)
 refine go ?_
 obtain ⟨o7,e2,e1⟩:=be e1
 refine C_cut (ι := Int) (fun i => [(3, sI i),(6, .isl .node a1),(7, sI (a1.length : Int)),(8, sI y5)]) (fun i => F) (fun i => o7 = .inl i) ?_ ?_
 refine go ?_
 refine gs ?_
 obtain ⟨x8,w8,e2⟩:=be e2
 refine W rfl (O_indexAddr (k := .node) (z := x8) tyL_22 rfl rfl (idx_e w8).1 (idx_e w8).2 ?_)
 refine W rfl (O_load_ipt_all (k := .node) tyA_24 rfl ?_)
 refine W rfl (O_alloc tyZ_24 rfl fun b9 => ?_)
 refine Wn (S_any [sI x8.kind, sS x8.text, sS x8.trail, .isl .node x8.kids] tyS_24 rfl rfl rfl rfl (Nat.le_of_ble_eq_true rfl) rfl ?_)
 refine go ?_
 refine gs ?_
 refine C_cd rfl e2 (fun e2 => ?_) (fun e2 => ?_)
 refine go ?_
 obtain rfl := so e2
 exact jmp y4 rfl (tl [] 1 rfl rfl)
 obtain ⟨i11,e3,e2⟩:=be e2
 refine C_cut (ι := Bool) (fun i => [(3, sI y4),(5, sP b9 0),(6, .isl .node a1),(7, sI (a1.length : Int)),(8, sI y5),(16, sB i)]) (fun i => bx1 b9 x8.kind x8.text x8.trail x8.kids :: F) (fun i => i11 = i) ?_ ?_
 refine go ?_
 obtain ⟨hg12, e3⟩ | ⟨hg12, e3⟩ := bc e3
 refine Wt rfl rfl rfl hg12 rfl rfl (O_move rfl ?_)
 refine Wt rfl rfl rfl hg12 rfl rfl (O_cmp rfl rfl rfl ?_)
 refine go ?_
 exact jm e3 (tl [0] 0 rfl rfl)
 refine go ?_
 exact jm e3 (tl [0] 0 rfl rfl)
 rintro z hi
 subst hi
 refine C_cd rfl e2 (fun e2 => ?_) (fun e2 => ?_)
 refine go ?_
 obtain rfl := so e2
 exact jmp (1 : Int) rfl (tl [] 1 rfl rfl)
 obtain ⟨i14,e3,e2⟩:=be e2
 refine C_cut (ι := Bool) (fun i => [(3, sI y4),(5, sP b9 0),(6, .isl .node a1),(7, sI (a1.length : Int)),(8, sI y5),(24, sB i)]) (fun i => bx1 b9 x8.kind x8.text x8.trail x8.kids :: F) (fun i => i14 = i) ?_ ?_
 refine go ?_
 obtain ⟨hg15, e3⟩ | ⟨hg15, e3⟩ := bc e3
 refine Wt rfl rfl rfl hg15 rfl rfl (O_move rfl ?_)
 refine Wt rfl rfl rfl hg15 rfl rfl (O_cmp rfl rfl rfl ?_)
 refine go ?_
 exact jm e3 (tl [0] 0 rfl rfl)
 refine go ?_
 exact jm e3 (tl [0] 0 rfl rfl)
 rintro z hi
 subst hi
 refine C_cd rfl e2 (fun e2 => ?_) (fun e2 => ?_)
 refine go ?_
 obtain rfl := so e2
 exact jmp y4 rfl (tl [] 1 rfl rfl)
 obtain ⟨i17,e3,e2⟩:=be e2
 refine C_cut (ι := Bool) (fun i => [(6, .isl .node a1),(7, sI (a1.length : Int)),(8, sI y5),(32, sB i)]) (fun i => F) (fun i => i17 = i) ?_ ?_
 refine C_draw2 [(0,nw),(2,pu),(1, .take),(3,mn),(4,fr),(5,fr),(6,fr),(7,fr),(8,fr)] [false] [] (bx1 b9 x8.kind x8.text x8.trail x8.kids :: F) rfl rfl rfl (by kernel_rfl) rfl ?_
 refine D_new rfl rfl ⟨0, Hnd, fun q18 => .val (sl q18), fun q18 => ownA (sl q18) 3 .int [(4 : Int),(5 : Int),(6 : Int),(7 : Int)]⟩ rfl (fun G => A_build 3 8 .int [(4 : Int),(5 : Int),(6 : Int),(7 : Int)] (ss := [(0, sI (4 : Int)),(1, sI (5 : Int)),(2, sI (6 : Int)),(3, sI (7 : Int))]) tyE_28 tyZ_3 rfl rfl rfl rfl rfl rfl fun q18 => ⟨q18, rfl, rfl⟩) ?_
 refine gd ?_
 obtain ⟨r19,hr19,e3⟩:=be e3
 refine D_take _ _ rfl rfl rfl (fun q18 => ?_)
 refine D_mainX rfl fun G => O_call1 (F := ((bx1 b9 x8.kind x8.text x8.trail x8.kids :: F) ++ G)) fn_60 rfl (F60_ok hG fuel [(4 : Int),(5 : Int),(6 : Int),(7 : Int)] q18 hr19) (sel_perm [0] _) fun b20 => (D_end ?_)
 obtain ⟨r21,hr21,e3⟩:=be e3
 refine D_main rfl (D_mainX rfl fun G => O_callV0 (ss := [.agg [sI x8.kind, sS x8.text, sS x8.trail, .isl .node x8.kids]]) (F := ((bx1 b9 x8.kind x8.text x8.trail x8.kids :: F) ++ G)) (lk rfl rfl) fn_83 rfl (F83_ok hG fuel x8 [(4 : Int),(5 : Int),(6 : Int),(7 : Int)] b20 q18 hr21) (sel_perm [1, 0] _) (D_end ?_))
 refine gd ?_
 obtain ⟨hg22, e3⟩ | ⟨hg22, e3⟩ := bc e3
 refine gd ?_
 refine D_nil ?_
 exact jm e3 (tl [] 3 rfl rfl)
 refine gd ?_
 refine D_nil ?_
 exact jm e3 (tl [] 3 rfl rfl)
 rintro z hi
 subst hi
 refine C_cd rfl e2 (fun e2 => ?_) (fun e2 => ?_)
 refine go ?_
 obtain rfl := so e2
 exact jmp (2 : Int) rfl (tl [] 0 rfl rfl)
 refine gs ?_
 obtain rfl := so e2
 obtain rfl := so e1
 obtain rfl := so e0
 refine go ?_
 exact rt [] 0 ⟨rfl, rfl⟩ rfl rfl
 rintro i7 hi
 subst hi
 have e1 := elim_l e1
 refine go ?_
 obtain ⟨x24,w24,e1⟩:=be e1
 refine W rfl (O_arI rfl rfl rfl (ck_e w24).2 (W_re (congrArg sI (ck_e w24).1) ?_))
 refine go ?_
 exact jmpL (i7, x24) e1 (tl [] 0 rfl rfl)
 refine go ?_
 obtain rfl := so e1
 exact jmp y4 rfl (tl [] 0 rfl rfl)
 rintro i2 hi
 subst hi
 have e0 := elim_l e0
 refine gs ?_
 obtain rfl := so e0
 refine go ?_
 exact rt [] 0 ⟨rfl, rfl⟩ rfl rfl
def F75 (fuel : Nat) (a1 : Tree) : Option (Bool) :=
 Option.bind (α := Bool) (
 bif (a1.kind == (9 : Int)) then (
 some (a1.kind == (9 : Int))) else (
 bif (a1.kind == (26 : Int)) then (
 some (a1.kind == (26 : Int))) else (
 bif (a1.kind == (27 : Int)) then (
 some (a1.kind == (27 : Int))) else (
 bif (a1.kind == (28 : Int)) then (
 some (a1.kind == (28 : Int))) else (
 bif (a1.kind == (29 : Int)) then (
 some (a1.kind == (29 : Int))) else (
 bif (a1.kind == (30 : Int)) then (
 some (a1.kind == (30 : Int))) else (
 bif (a1.kind == (31 : Int)) then (
 some (a1.kind == (31 : Int))) else (
 some (a1.kind == (32 : Int)))))))))) fun i3 =>
 bif i3 then (
 some true) else (
 some false)
theorem F75_ok {w0 : World} (hG : Globs w0) (fuel : Nat) : ∀ (a1 : Tree) {r : Bool} (e0 : F75 fuel a1 = some r), Fn w0 prog 75 [.agg [sI a1.kind, sS a1.text, sS a1.trail, .isl .node a1.kids]] [] (fun s H => s = sB r ∧ H = []) := by
 intro a1 r e0
 rw [F75] at e0
 refine fn_intro2 14 [.tmp 2] func75 rfl rfl rfl rfl fun X hX F => ?_
 refine C_turn (T_start [(0, .agg [sI a1.kind, sS a1.text, sS a1.trail, .isl .node a1.kids])] rfl (F) rfl) ?_
 refine gs ?_
 refine W rfl (O_box rfl rfl fun b2 => ?_)
 refine go ?_
 refine C_seq ?_
 refine gs ?_
 obtain ⟨i3,e1,e0⟩:=be e0
 refine C_cut (ι := Bool) (fun i => [(5, sB i)]) (fun i => F) (fun i => i3 = i) ?_ ?_
 refine gs ?_
 refine C_cd rfl e1 (fun e1 => ?_) (fun e1 => ?_)
 refine go ?_
 exact jm e1 (tl [] 1 rfl rfl)
 refine gs ?_
 refine C_cd rfl e1 (fun e1 => ?_) (fun e1 => ?_)
 refine go ?_
 exact jm e1 (tl [] 1 rfl rfl)
 refine gs ?_
 refine C_cd rfl e1 (fun e1 => ?_) (fun e1 => ?_)
 refine go ?_
 exact jm e1 (tl [] 1 rfl rfl)
 refine gs ?_
 refine C_cd rfl e1 (fun e1 => ?_) (fun e1 => ?_)
 refine go ?_
 exact jm e1 (tl [] 1 rfl rfl)
 refine gs ?_
 refine C_cd rfl e1 (fun e1 => ?_) (fun e1 => ?_)
 refine go ?_
 exact jm e1 (tl [] 1 rfl rfl)
 refine gs ?_
 refine C_cd rfl e1 (fun e1 => ?_) (fun e1 => ?_)
 refine go ?_
 exact jm e1 (tl [] 1 rfl rfl)
 refine gs ?_
 refine C_cd rfl e1 (fun e1 => ?_) (fun e1 => ?_)
 refine go ?_
 exact jm e1 (tl [] 1 rfl rfl)
 refine go ?_
 exact jm e1 (tl [] 1 rfl rfl)
 rintro z hi
 subst hi
 refine C_cd rfl e0 (fun e0 => ?_) (fun e0 => ?_)
 refine gs ?_
 obtain rfl := so e0
 refine go ?_
 exact rt [] 0 ⟨rfl, rfl⟩ rfl rfl
 refine go ?_
 refine gs ?_
 obtain rfl := so e0
 refine go ?_
 exact rt [] 0 ⟨rfl, rfl⟩ rfl rfl
def F74_l5 (fuel : Nat) (a1 : List Tree) : Nat → Int → Option ((Unit ⊕ Bool))
 | 0, _ => none
 | n + 1, y6 =>
 bif (decide (y6 < (1 : Int))) then (
 if 0 ≤ y6 ∧ y6 < ((1 : Nat) : Int) then (
 bif (y6 == (0 : Int)) then (
 (idx a1 y6).bind fun x10 =>
 (F75 fuel x10).bind fun r11 =>
 bif (!r11) then (
 some (.inr false)) else (
 (ck (y6 + (1 : Int))).bind fun x13 =>
 F74_l5 fuel a1 n x13)) else (
 none)) else none) else (
 some (.inl ()))
def F74 (fuel : Nat) (a1 : List Tree) : Option (Bool) :=
 bif ((a1.length : Int) != (1 : Int)) then (
 some false) else (
 Option.bind (α := (Unit ⊕ Bool)) (
 F74_l5 fuel a1 fuel (0 : Int)) (Sum.elim (fun i4 =>
 some true) (fun z => some z)))
theorem F74_ok {w0 : World} (hG : Globs w0) (fuel : Nat) : ∀ (a1 : List Tree) (b2 : Hnd) {r : Bool} (e0 : F74 fuel a1 = some r), Fn w0 prog 74 [.isl .node a1, .val (sl b2)] [ownA (sl b2) 26 .val [(.func (.func 75) #[] #[])]] (fun s H => s = sB r ∧ H = [ownA (sl b2) 26 .val [(.func (.func 75) #[] #[])]]) := by
 intro a1 b2 r e0
 rw [F74] at e0
 refine fn_intro2 27 [.tmp 4] func74 rfl rfl rfl rfl fun X hX F => ?_
 refine C_turn (T_start [(0, .isl .node a1), (1, .val (sl b2))] rfl (ownA (sl b2) 26 .val [(.func (.func 75) #[] #[])] :: F) rfl) ?_
 refine gs ?_
 refine C_seq ?_
 refine gs ?_
 refine W rfl (O_len_own (k := .val) tyl_138 rfl ?_)
 refine go ?_
 refine C_cd rfl e0 (fun e0 => ?_) (fun e0 => ?_)
 refine gs ?_
 obtain rfl := so e0
 refine go ?_
 exact rt [0] 0 ⟨rfl, rfl⟩ rfl rfl
 refine go ?_
 obtain ⟨o4,e1,e0⟩:=be e0
 refine C_cut (ι := Unit) (fun i => []) (fun i => ownA (sl b2) 26 .val [(.func (.func 75) #[] #[])] :: F) (fun i => o4 = .inl ()) ?_ ?_
 refine gs ?_
 refine W rfl (O_len_own (k := .val) tyl_138 rfl ?_)
 refine go ?_
 refine C_loopF (κ := Int) (fun d => [(0, .isl .node a1), (12, .val (sl b2)), (13, sI (1 : Int)), (14, sI d)]) (fun d => ownA (sl b2) 26 .val [(.func (.func 75) #[] #[])] :: F) (fun n d => F74_l5 fuel a1 n d) o4 fuel (0 : Int) e1 (tl [0] 0 rfl rfl) (fun _ => rfl) ?_
 rintro n y6 hF
 have e1 : F74_l5 fuel a1 (n + 1) y6 = some o4 := hF
 rw [F74_l5] at e1
 clear hF
 refine gs ?_
 refine C_seq ?_
 refine C_cd rfl e1 (fun e1 => ?_) (fun e1 => ?_)
 refine go ?_
 refine gs ?_
 refine gs ?_
 obtain ⟨h8, e1⟩ := req_e e1
 refine W rfl (O_indexAddr_own (k := .val) tyL_138 rfl rfl h8.1 (by exact vlt rfl h8.2) ?_)
 obtain ⟨hg9, e1⟩ | ⟨hg9, e1⟩ := bc e1
 refine W rfl (O_load_opt (k := .val) (i := 0) (j := 0) ty1_26 rfl (vix hg9) rfl rfl ?_)
 refine go ?_
 refine gs ?_
 obtain ⟨x10,w10,e1⟩:=be e1
 refine W rfl (O_indexAddr (k := .node) (z := x10) tyL_22 rfl rfl (idx_e w10).1 (idx_e w10).2 ?_)
 refine W rfl (O_load_ipt_all (k := .node) tyA_24 rfl ?_)
 obtain ⟨r11,hr11,e1⟩:=be e1
 refine W rfl (O_callV0 (ss := [.agg [sI x10.kind, sS x10.text, sS x10.trail, .isl .node x10.kids]]) (F := ownA (sl b2) 26 .val [(.func (.func 75) #[] #[])] :: F) rfl fn_75 rfl (F75_ok hG fuel x10 hr11) (sel_perm [] _) ?_)
 refine go ?_
 refine C_cd rfl e1 (fun e1 => ?_) (fun e1 => ?_)
 refine gs ?_
 obtain rfl := so e1
 obtain rfl := so e0
 refine go ?_
 exact rt [0] 0 ⟨rfl, rfl⟩ rfl rfl
 refine go ?_
 obtain ⟨x13,w13,e1⟩:=be e1
 refine W rfl (O_arI rfl rfl rfl (ck_e w13).2 (W_re (congrArg sI (ck_e w13).1) ?_))
 refine go ?_
 exact jmpL x13 e1 (tl [0] 0 rfl rfl)
 cases e1
 refine go ?_
 obtain rfl := so e1
 exact jmp () rfl (tl [0] 0 rfl rfl)
 rintro ⟨⟩ hi
 subst hi
 have e0 := elim_l e0
 refine gs ?_
 obtain rfl := so e0
 refine go ?_
 exact rt [0] 0 ⟨rfl, rfl⟩ rfl rfl
def F76 (fuel : Nat) : Option (Unit) :=
 some ()
theorem F76_ok {w0 : World} (hG : Globs w0) (fuel : Nat) : ∀ (b1 : Hnd) {r : Unit} (e0 : F76 fuel = some r), Fn w0 prog 76 [.val (sl b1)] [ownA (sl b1) 26 .val [(.func (.func 77) #[] #[]), (.func (.func 78) #[] #[])]] (fun s H => ∃ k0 : Nat, s = .val (.func (.func 106) #[] #[.pointer (some ⟨k0, 0, none⟩)]) ∧ H = [ownA (sl b1) 26 .val [(.func (.func 77) #[] #[]), (.func (.func 78) #[] #[])], boxA k0 138 [.val (sl b1)]]) := by
 intro b1 r e0
 rw [F76] at e0
 refine fn_intro2 4 [.tmp 2] func76 rfl rfl rfl rfl fun X hX F => ?_
 refine C_turn (T_start [(0, .val (sl b1))] rfl (ownA (sl b1) 26 .val [(.func (.func 77) #[] #[]), (.func (.func 78) #[] #[])] :: F) rfl) ?_
 refine gs ?_
 refine W rfl (O_box rfl rfl fun b2 => ?_)
 refine go ?_
 refine gs ?_
 refine W rfl (O_makeFunc (vs := []) (us := [.pointer (some ⟨b2, 0, none⟩)]) rfl rfl ?_)
 refine go ?_
 obtain rfl := so e0
 refine go ?_
 exact rt [1, 0] 0 ⟨b2, rfl, rfl⟩ rfl rfl
def F76v1 (fuel : Nat) : Option (Unit) :=
 some ()
theorem F76v1_ok {w0 : World} (hG : Globs w0) (fuel : Nat) : ∀ (b1 : Hnd) {r : Unit} (e0 : F76v1 fuel = some r), Fn w0 prog 76 [.val (sl b1)] [ownA (sl b1) 26 .val [(.func (.func 75) #[] #[]), (.func (.func 78) #[] #[])]] (fun s H => ∃ k0 : Nat, s = .val (.func (.func 106) #[] #[.pointer (some ⟨k0, 0, none⟩)]) ∧ H = [ownA (sl b1) 26 .val [(.func (.func 75) #[] #[]), (.func (.func 78) #[] #[])], boxA k0 138 [.val (sl b1)]]) := by
 intro b1 r e0
 rw [F76v1] at e0
 refine fn_intro2 4 [.tmp 2] func76 rfl rfl rfl rfl fun X hX F => ?_
 refine C_turn (T_start [(0, .val (sl b1))] rfl (ownA (sl b1) 26 .val [(.func (.func 75) #[] #[]), (.func (.func 78) #[] #[])] :: F) rfl) ?_
 refine gs ?_
 refine W rfl (O_box rfl rfl fun b2 => ?_)
 refine go ?_
 refine gs ?_
 refine W rfl (O_makeFunc (vs := []) (us := [.pointer (some ⟨b2, 0, none⟩)]) rfl rfl ?_)
 refine go ?_
 obtain rfl := so e0
 refine go ?_
 exact rt [1, 0] 0 ⟨b2, rfl, rfl⟩ rfl rfl
def F77 (fuel : Nat) (a1 : Tree) : Option (Bool) :=
 Option.bind (α := Bool) (
 bif (a1.kind == (9 : Int)) then (
 some (a1.kind == (9 : Int))) else (
 bif (a1.kind == (10 : Int)) then (
 some (a1.kind == (10 : Int))) else (
 bif (a1.kind == (11 : Int)) then (
 some (a1.kind == (11 : Int))) else (
 bif (a1.kind == (12 : Int)) then (
 some (a1.kind == (12 : Int))) else (
 some (a1.kind == (13 : Int))))))) fun i3 =>
 bif i3 then (
 some true) else (
 some false)
theorem F77_ok {w0 : World} (hG : Globs w0) (fuel : Nat) : ∀ (a1 : Tree) {r : Bool} (e0 : F77 fuel a1 = some r), Fn w0 prog 77 [.agg [sI a1.kind, sS a1.text, sS a1.trail, .isl .node a1.kids]] [] (fun s H => s = sB r ∧ H = []) := by
 intro a1 r e0
 rw [F77] at e0
 refine fn_intro2 11 [.tmp 2] func77 rfl rfl rfl rfl fun X hX F => ?_
 refine C_turn (T_start [(0, .agg [sI a1.kind, sS a1.text, sS a1.trail, .isl .node a1.kids])] rfl (F) rfl) ?_
 refine gs ?_
 refine W rfl (O_box rfl rfl fun b2 => ?_)
 refine go ?_
 refine C_seq ?_
 refine gs ?_
 obtain ⟨i3,e1,e0⟩:=be e0
 refine C_cut (ι := Bool) (fun i => [(5, sB i)]) (fun i => F) (fun i => i3 = i) ?_ ?_
 refine gs ?_
 refine C_cd rfl e1 (fun e1 => ?_) (fun e1 => ?_)
 refine go ?_
 exact jm e1 (tl [] 1 rfl rfl)
 refine gs ?_
 refine C_cd rfl e1 (fun e1 => ?_) (fun e1 => ?_)
 refine go ?_
 exact jm e1 (tl [] 1 rfl rfl)
 refine gs ?_
 refine C_cd rfl e1 (fun e1 => ?_) (fun e1 => ?_)
 refine go ?_
 exact jm e1 (tl [] 1 rfl rfl)
 refine gs ?_
 refine C_cd rfl e1 (fun e1 => ?_) (fun e1 => ?_)
 refine go ?_
 exact jm e1 (tl [] 1 rfl rfl)
 refine go ?_
 exact jm e1 (tl [] 1 rfl rfl)
 rintro z hi
 subst hi
 refine C_cd rfl e0 (fun e0 => ?_) (fun e0 => ?_)
 refine gs ?_
 obtain rfl := so e0
 refine go ?_
 exact rt [] 0 ⟨rfl, rfl⟩ rfl rfl
 refine go ?_
 refine gs ?_
 obtain rfl := so e0
 refine go ?_
 exact rt [] 0 ⟨rfl, rfl⟩ rfl rfl
def F108 (fuel : Nat) (a2 : Int) (a3 : ByteArray) (a4 : ByteArray) (a5 : List Tree) : Option (Bool) :=
 (F77 fuel (Tree.mk a2 a3 a4 a5)).bind fun r6 =>
 some r6
theorem F108_ok {w0 : World} (hG : Globs w0) (fuel : Nat) : ∀ (a2 : Int) (a3 : ByteArray) (a4 : ByteArray) (a5 : List Tree) (b1 : Nat) {r : Bool} (e0 : F108 fuel a2 a3 a4 a5 = some r), Fn w0 prog 108 [.val (.func (.func 77) #[] #[]), sP b1 0] [bx1 b1 a2 a3 a4 a5] (fun s H => s = sB r ∧ H = [bx1 b1 a2 a3 a4 a5]) := by
 intro a2 a3 a4 a5 b1 r e0
 rw [F108] at e0
 refine fn_intro2 7 [.tmp 3] func108 rfl rfl rfl rfl fun X hX F => ?_
 refine C_turn (T_start [(0, .val (.func (.func 77) #[] #[])), (1, sP b1 0)] rfl (bx1 b1 a2 a3 a4 a5 :: F) rfl) ?_
 refine gs ?_
 refine gs ?_
 obtain ⟨r6,hr6,e0⟩:=be e0
 refine W rfl (O_callV0 (ss := [.agg [sI a2, sS a3, sS a4, .isl .node a5]]) (F := bx1 b1 a2 a3 a4 a5 :: F) rfl fn_77 rfl (F77_ok hG fuel (Tree.mk a2 a3 a4 a5) hr6) (sel_perm [] _) ?_)
 refine go ?_
 obtain rfl := so e0
 refine go ?_
 exact rt [0] 0 ⟨rfl, rfl⟩ rfl rfl
def F78 (fuel : Nat) (a1 : Tree) : Option (Unit) :=
 some ()
theorem F78_ok {w0 : World} (hG : Globs w0) (fuel : Nat) : ∀ (a1 : Tree) {r : Unit} (e0 : F78 fuel a1 = some r), Fn w0 prog 78 [.agg [sI a1.kind, sS a1.text, sS a1.trail, .isl .node a1.kids]] [] (fun s H => s = sB (a1.kind == (33 : Int)) ∧ H = []) := by
 intro a1 r e0
 rw [F78] at e0
 refine fn_intro2 6 [.tmp 2] func78 rfl rfl rfl rfl fun X hX F => ?_
 refine C_turn (T_start [(0, .agg [sI a1.kind, sS a1.text, sS a1.trail, .isl .node a1.kids])] rfl (F) rfl) ?_
 refine gs ?_
 refine W rfl (O_box rfl rfl fun b2 => ?_)
 refine go ?_
 refine gs ?_
 obtain rfl := so e0
 refine go ?_
 exact rt [] 1 ⟨rfl, rfl⟩ rfl rfl
def F108v1 (fuel : Nat) (a2 : Int) (a3 : ByteArray) (a4 : ByteArray) (a5 : List Tree) : Option (Unit) :=
 (F78 fuel (Tree.mk a2 a3 a4 a5)).bind fun r6 =>
 some ()
theorem F108v1_ok {w0 : World} (hG : Globs w0) (fuel : Nat) : ∀ (a2 : Int) (a3 : ByteArray) (a4 : ByteArray) (a5 : List Tree) (b1 : Nat) {r : Unit} (e0 : F108v1 fuel a2 a3 a4 a5 = some r), Fn w0 prog 108 [.val (.func (.func 78) #[] #[]), sP b1 0] [bx1 b1 a2 a3 a4 a5] (fun s H => s = sB ((Tree.mk a2 a3 a4 a5).kind == (33 : Int)) ∧ H = [bx1 b1 a2 a3 a4 a5]) := by
 intro a2 a3 a4 a5 b1 r e0
 rw [F108v1] at e0
 refine fn_intro2 7 [.tmp 3] func108 rfl rfl rfl rfl fun X hX F => ?_
 refine C_turn (T_start [(0, .val (.func (.func 78) #[] #[])), (1, sP b1 0)] rfl (bx1 b1 a2 a3 a4 a5 :: F) rfl) ?_
 refine gs ?_
 refine gs ?_
 obtain ⟨r6,hr6,e0⟩:=be e0
 refine W rfl (O_callV0 (ss := [.agg [sI a2, sS a3, sS a4, .isl .node a5]]) (F := bx1 b1 a2 a3 a4 a5 :: F) rfl fn_78 rfl (F78_ok hG fuel (Tree.mk a2 a3 a4 a5) hr6) (sel_perm [] _) ?_)
 refine go ?_
 obtain rfl := so e0
 refine go ?_
 exact rt [0] 0 ⟨rfl, rfl⟩ rfl rfl
def F129_l8 (fuel : Nat) (a3 : Int) (a4 : ByteArray) (a5 : ByteArray) (a6 : List Tree) : Nat → Int → Option ((Unit ⊕ Int))
 | 0, _ => none
 | n + 1, y9 =>
 bif (decide (y9 < (2 : Int))) then (
 if 0 ≤ y9 ∧ y9 < ((2 : Nat) : Int) then (
 bif (y9 == (0 : Int)) then (
 (F108 fuel a3 a4 a5 a6).bind fun r13 =>
 bif r13 then (
 some (.inr y9)) else (
 (ck (y9 + (1 : Int))).bind fun x15 =>
 F129_l8 fuel a3 a4 a5 a6 n x15)) else (
 bif (y9 == (1 : Int)) then (
 (F108v1 fuel a3 a4 a5 a6).bind fun r17 =>
 bif ((Tree.mk a3 a4 a5 a6).kind == (33 : Int)) then (
 some (.inr y9)) else (
 (ck (y9 + (1 : Int))).bind fun x19 =>
 F129_l8 fuel a3 a4 a5 a6 n x19)) else (
 none))) else none) else (
 some (.inl ()))
def F129 (fuel : Nat) (a3 : Int) (a4 : ByteArray) (a5 : ByteArray) (a6 : List Tree) : Option (Int) :=
 Option.bind (α := (Unit ⊕ Int)) (
 F129_l8 fuel a3 a4 a5 a6 fuel (0 : Int)) (Sum.elim (fun i7 =>
 some (-1 : Int)) (fun z => some z))
theorem F129_ok {w0 : World} (hG : Globs w0) (fuel : Nat) : ∀ (a3 : Int) (a4 : ByteArray) (a5 : ByteArray) (a6 : List Tree) (b1 : Hnd) (b2 : Nat) {r : Int} (e0 : F129 fuel a3 a4 a5 a6 = some r), Fn w0 prog 129 [.val (sl b1), .val (.func (.func 108) #[] #[.pointer (some ⟨b2, 0, none⟩)])] [ownA (sl b1) 26 .val [(.func (.func 77) #[] #[]), (.func (.func 78) #[] #[])], bx1 b2 a3 a4 a5 a6] (fun s H => s = sI r ∧ H = [ownA (sl b1) 26 .val [(.func (.func 77) #[] #[]), (.func (.func 78) #[] #[])], bx1 b2 a3 a4 a5 a6]) := by
 intro a3 a4 a5 a6 b1 b2 r e0
 rw [F129] at e0
 refine fn_intro2 19 [.tmp 4] func129 rfl rfl rfl rfl fun X hX F => ?_
 refine C_turn (T_start [(0, .val (sl b1)), (1, .val (.func (.func 108) #[] #[.pointer (some ⟨b2, 0, none⟩)]))] rfl (ownA (sl b1) 26 .val [(.func (.func 77) #[] #[]), (.func (.func 78) #[] #[])] :: bx1 b2 a3 a4 a5 a6 :: F) rfl) ?_
 refine gs ?_
 obtain ⟨o7,e1,e0⟩:=be e0
 refine C_cut (ι := Unit) (fun i => []) (fun i => ownA (sl b1) 26 .val [(.func (.func 77) #[] #[]), (.func (.func 78) #[] #[])] :: bx1 b2 a3 a4 a5 a6 :: F) (fun i => o7 = .inl ()) ?_ ?_
 refine gs ?_
 refine W rfl (O_len_own (k := .val) tyl_138 rfl ?_)
 refine go ?_
 refine C_loopF (κ := Int) (fun d => [(0, .val (sl b1)), (1, .val (.func (.func 108) #[] #[.pointer (some ⟨b2, 0, none⟩)])), (7, sI (2 : Int)), (8, sI d)]) (fun d => ownA (sl b1) 26 .val [(.func (.func 77) #[] #[]), (.func (.func 78) #[] #[])] :: bx1 b2 a3 a4 a5 a6 :: F) (fun n d => F129_l8 fuel a3 a4 a5 a6 n d) o7 fuel (0 : Int) e1 (tl [0, 0] 0 rfl rfl) (fun _ => rfl) ?_
 rintro n y9 hF
 have e1 : F129_l8 fuel a3 a4 a5 a6 (n + 1) y9 = some o7 := hF
 rw [F129_l8] at e1
 clear hF
 refine gs ?_
 refine C_seq ?_
 refine C_cd rfl e1 (fun e1 => ?_) (fun e1 => ?_)
 refine go ?_
 refine gs ?_
 refine gs ?_
 refine gs ?_
 obtain ⟨h11, e1⟩ := req_e e1
 refine W rfl (O_indexAddr_own (k := .val) tyL_138 rfl rfl h11.1 (by exact vlt rfl h11.2) ?_)
 obtain ⟨hg12, e1⟩ | ⟨hg12, e1⟩ := bc e1
 refine W rfl (O_load_opt (k := .val) (i := 0) (j := 0) ty1_26 rfl (vix hg12) rfl rfl ?_)
 obtain ⟨r13,hr13,e1⟩:=be e1
 refine W rfl (O_callV0 (ss := [.val (.func (.func 77) #[] #[])]) (F := ownA (sl b1) 26 .val [(.func (.func 77) #[] #[]), (.func (.func 78) #[] #[])] :: F) rfl fn_108 rfl (F108_ok hG fuel a3 a4 a5 a6 b2 hr13) (sel_perm [1] _) ?_)
 refine go ?_
 refine C_cd rfl e1 (fun e1 => ?_) (fun e1 => ?_)
 refine gs ?_
 obtain rfl := so e1
 obtain rfl := so e0
 refine go ?_
 exact rt [1, 0] 0 ⟨rfl, rfl⟩ rfl rfl
 refine go ?_
 obtain ⟨x15,w15,e1⟩:=be e1
 refine W rfl (O_arI rfl rfl rfl (ck_e w15).2 (W_re (congrArg sI (ck_e w15).1) ?_))
 refine go ?_
 exact jmpL x15 e1 (tl [1, 0] 0 rfl rfl)
 obtain ⟨hg16, e1⟩ | ⟨hg16, e1⟩ := bc e1
 refine W rfl (O_load_opt (k := .val) (i := 1) (j := 0) ty1_26 rfl (vix hg16) rfl rfl ?_)
 obtain ⟨r17,hr17,e1⟩:=be e1
 refine W rfl (O_callV0 (ss := [.val (.func (.func 78) #[] #[])]) (F := ownA (sl b1) 26 .val [(.func (.func 77) #[] #[]), (.func (.func 78) #[] #[])] :: F) rfl fn_108 rfl (F108v1_ok hG fuel a3 a4 a5 a6 b2 hr17) (sel_perm [1] _) ?_)
 refine go ?_
 refine C_cd rfl e1 (fun e1 => ?_) (fun e1 => ?_)
 refine gs ?_
 obtain rfl := so e1
 obtain rfl := so e0
 refine go ?_
 exact rt [1, 0] 0 ⟨rfl, rfl⟩ rfl rfl
 refine go ?_
 obtain ⟨x19,w19,e1⟩:=be e1
 refine W rfl (O_arI rfl rfl rfl (ck_e w19).2 (W_re (congrArg sI (ck_e w19).1) ?_))
 refine go ?_
 exact jmpL x19 e1 (tl [1, 0] 0 rfl rfl)
 cases e1
 refine go ?_
 obtain rfl := so e1
 exact jmp () rfl (tl [0, 0] 0 rfl rfl)
 rintro ⟨⟩ hi
 subst hi
 have e0 := elim_l e0
 refine gs ?_
 obtain rfl := so e0
 refine go ?_
 exact rt [0, 0] 0 ⟨rfl, rfl⟩ rfl rfl
def F107 (fuel : Nat) (a3 : Int) (a4 : ByteArray) (a5 : ByteArray) (a6 : List Tree) : Option (Bool) :=
 (F129 fuel a3 a4 a5 a6).bind fun r7 =>
 some (decide (r7 ≥ (0 : Int)))
theorem F107_ok {w0 : World} (hG : Globs w0) (fuel : Nat) : ∀ (a3 : Int) (a4 : ByteArray) (a5 : ByteArray) (a6 : List Tree) (b1 : Hnd) (b2 : Nat) {r : Bool} (e0 : F107 fuel a3 a4 a5 a6 = some r), Fn w0 prog 107 [.val (sl b1), .val (.func (.func 108) #[] #[.pointer (some ⟨b2, 0, none⟩)])] [ownA (sl b1) 26 .val [(.func (.func 77) #[] #[]), (.func (.func 78) #[] #[])], bx1 b2 a3 a4 a5 a6] (fun s H => s = sB r ∧ H = [ownA (sl b1) 26 .val [(.func (.func 77) #[] #[]), (.func (.func 78) #[] #[])], bx1 b2 a3 a4 a5 a6]) := by
 intro a3 a4 a5 a6 b1 b2 r e0
 rw [F107] at e0
 refine fn_intro2 9 [.tmp 4] func107 rfl rfl rfl rfl fun X hX F => ?_
 refine C_turn (T_start [(0, .val (sl b1)), (1, .val (.func (.func 108) #[] #[.pointer (some ⟨b2, 0, none⟩)]))] rfl (ownA (sl b1) 26 .val [(.func (.func 77) #[] #[]), (.func (.func 78) #[] #[])] :: bx1 b2 a3 a4 a5 a6 :: F) rfl) ?_
 refine gs ?_
 refine gs ?_
 obtain ⟨r7,hr7,e0⟩:=be e0
 refine W rfl (O_call0 (F := F) fn_129 rfl (F129_ok hG fuel a3 a4 a5 a6 b1 b2 hr7) (sel_perm [0, 0] _) ?_)
 refine go ?_
 obtain rfl := so e0
 refine go ?_
 exact rt [0, 0] 0 ⟨rfl, rfl⟩ rfl rfl
def F106 (fuel : Nat) (a1 : Tree) : Option (Bool) :=
 (F107 fuel a1.kind a1.text a1.trail a1.kids).bind fun r5 =>
 some r5
theorem F106_ok {w0 : World} (hG : Globs w0) (fuel : Nat) : ∀ (a1 : Tree) (b2 : Nat) (b3 : Hnd) {r : Bool} (e0 : F106 fuel a1 = some r), Fn w0 prog 106 [.agg [sI a1.kind, sS a1.text, sS a1.trail, .isl .node a1.kids], sP b2 0] [boxA b2 138 [.val (sl b3)], ownA (sl b3) 26 .val [(.func (.func 77) #[] #[]), (.func (.func 78) #[] #[])]] (fun s H => s = sB r ∧ H = [boxA b2 138 [.val (sl b3)], ownA (sl b3) 26 .val [(.func (.func 77) #[] #[]), (.func (.func 78) #[] #[])]]) := by
 intro a1 b2 b3 r e0
 rw [F106] at e0
 refine fn_intro2 7 [.tmp 3] func106 rfl rfl rfl rfl fun X hX F => ?_
 refine C_turn (T_start [(0, .agg [sI a1.kind, sS a1.text, sS a1.trail, .isl .node a1.kids]), (1, sP b2 0)] rfl (boxA b2 138 [.val (sl b3)] :: ownA (sl b3) 26 .val [(.func (.func 77) #[] #[]), (.func (.func 78) #[] #[])] :: F) rfl) ?_
 refine gs ?_
 refine W rfl (O_box rfl rfl fun b4 => ?_)
 refine go ?_
 refine gs ?_
 refine W rfl (O_makeFunc (vs := []) (us := [.pointer (some ⟨b4, 0, none⟩)]) rfl rfl ?_)
 obtain ⟨r5,hr5,e0⟩:=be e0
 refine W rfl (O_call0 (F := boxA b2 138 [.val (sl b3)] :: F) fn_107 rfl (F107_ok hG fuel a1.kind a1.text a1.trail a1.kids b3 b4 hr5) (sel_perm [2, 0] _) ?_)
 refine go ?_
 obtain rfl := so e0
 refine go ?_
 exact rt [2, 0] 1 ⟨rfl, rfl⟩ rfl rfl
def F108v2 (fuel : Nat) (a2 : Int) (a3 : ByteArray) (a4 : ByteArray) (a5 : List Tree) : Option (Bool) :=
 (F75 fuel (Tree.mk a2 a3 a4 a5)).bind fun r6 =>
 some r6
theorem F108v2_ok {w0 : World} (hG : Globs w0) (fuel : Nat) : ∀ (a2 : Int) (a3 : ByteArray) (a4 : ByteArray) (a5 : List Tree) (b1 : Nat) {r : Bool} (e0 : F108v2 fuel a2 a3 a4 a5 = some r), Fn w0 prog 108 [.val (.func (.func 75) #[] #[]), sP b1 0] [bx1 b1 a2 a3 a4 a5] (fun s H => s = sB r ∧ H = [bx1 b1 a2 a3 a4 a5]) := by
 intro a2 a3 a4 a5 b1 r e0
 rw [F108v2] at e0
 refine fn_intro2 7 [.tmp 3] func108 rfl rfl rfl rfl fun X hX F => ?_
 refine C_turn (T_start [(0, .val (.func (.func 75) #[] #[])), (1, sP b1 0)] rfl (bx1 b1 a2 a3 a4 a5 :: F) rfl) ?_
 refine gs ?_
 refine gs ?_
 obtain ⟨r6,hr6,e0⟩:=be e0
 refine W rfl (O_callV0 (ss := [.agg [sI a2, sS a3, sS a4, .isl .node a5]]) (F := bx1 b1 a2 a3 a4 a5 :: F) rfl fn_75 rfl (F75_ok hG fuel (Tree.mk a2 a3 a4 a5) hr6) (sel_perm [] _) ?_)
 refine go ?_
 obtain rfl := so e0
 refine go ?_
 exact rt [0] 0 ⟨rfl, rfl⟩ rfl rfl
def F129v1_l8 (fuel : Nat) (a3 : Int) (a4 : ByteArray) (a5 : ByteArray) (a6 : List Tree) : Nat → Int → Option ((Unit ⊕ Int))
 | 0, _ => none
 | n + 1, y9 =>
 bif (decide (y9 < (2 : Int))) then (
 if 0 ≤ y9 ∧ y9 < ((2 : Nat) : Int) then (
 bif (y9 == (0 : Int)) then (
 (F108v2 fuel a3 a4 a5 a6).bind fun r13 =>
 bif r13 then (
 some (.inr y9)) else (
 (ck (y9 + (1 : Int))).bind fun x15 =>
 F129v1_l8 fuel a3 a4 a5 a6 n x15)) else (
 bif (y9 == (1 : Int)) then (
 (F108v1 fuel a3 a4 a5 a6).bind fun r17 =>
 bif ((Tree.mk a3 a4 a5 a6).kind == (33 : Int)) then (
 some (.inr y9)) else (
 (ck (y9 + (1 : Int))).bind fun x19 =>
 F129v1_l8 fuel a3 a4 a5 a6 n x19)) else (
 none))) else none) else (
 some (.inl ()))
def F129v1 (fuel : Nat) (a3 : Int) (a4 : ByteArray) (a5 : ByteArray) (a6 : List Tree) : Option (Int) :=
 Option.bind (α := (Unit ⊕ Int)) (
 F129v1_l8 fuel a3 a4 a5 a6 fuel (0 : Int)) (Sum.elim (fun i7 =>
 some (-1 : Int)) (fun z => some z))
theorem F129v1_ok {w0 : World} (hG : Globs w0) (fuel : Nat) : ∀ (a3 : Int) (a4 : ByteArray) (a5 : ByteArray) (a6 : List Tree) (b1 : Hnd) (b2 : Nat) {r : Int} (e0 : F129v1 fuel a3 a4 a5 a6 = some r), Fn w0 prog 129 [.val (sl b1), .val (.func (.func 108) #[] #[.pointer (some ⟨b2, 0, none⟩)])] [ownA (sl b1) 26 .val [(.func (.func 75) #[] #[]), (.func (.func 78) #[] #[])], bx1 b2 a3 a4 a5 a6] (fun s H => s = sI r ∧ H = [ownA (sl b1) 26 .val [(.func (.func 75) #[] #[]), (.func (.func 78) #[] #[])], bx1 b2 a3 a4 a5 a6]) := by
 intro a3 a4 a5 a6 b1 b2 r e0
 rw [F129v1] at e0
 refine fn_intro2 19 [.tmp 4] func129 rfl rfl rfl rfl fun X hX F => ?_
 refine C_turn (T_start [(0, .val (sl b1)), (1, .val (.func (.func 108) #[] #[.pointer (some ⟨b2, 0, none⟩)]))] rfl (ownA (sl b1) 26 .val [(.func (.func 75) #[] #[]), (.func (.func 78) #[] #[])] :: bx1 b2 a3 a4 a5 a6 :: F) rfl) ?_
 refine gs ?_
 obtain ⟨o7,e1,e0⟩:=be e0
 refine C_cut (ι := Unit) (fun i => []) (fun i => ownA (sl b1) 26 .val [(.func (.func 75) #[] #[]), (.func (.func 78) #[] #[])] :: bx1 b2 a3 a4 a5 a6 :: F) (fun i => o7 = .inl ()) ?_ ?_
 refine gs ?_
 refine W rfl (O_len_own (k := .val) tyl_138 rfl ?_)
 refine go ?_
 refine C_loopF (κ := Int) (fun d => [(0, .val (sl b1)), (1, .val (.func (.func 108) #[] #[.pointer (some ⟨b2, 0, none⟩)])), (7, sI (2 : Int)), (8, sI d)]) (fun d => ownA (sl b1) 26 .val [(.func (.func 75) #[] #[]), (.func (.func 78) #[] #[])] :: bx1 b2 a3 a4 a5 a6 :: F) (fun n d => F129v1_l8 fuel a3 a4 a5 a6 n d) o7 fuel (0 : Int) e1 (tl [0, 0] 0 rfl rfl) (fun _ => rfl) ?_
 rintro n y9 hF
 have e1 : F129v1_l8 fuel a3 a4 a5 a6 (n + 1) y9 = some o7 := hF
 rw [F129v1_l8] at e1
 clear hF
 refine gs ?_
 refine C_seq ?_
 refine C_cd rfl e1 (fun e1 => ?_) (fun e1 => ?_)
 refine go ?_
 refine gs ?_
 refine gs ?_
 refine gs ?_
 obtain ⟨h11, e1⟩ := req_e e1
 refine W rfl (O_indexAddr_own (k := .val) tyL_138 rfl rfl h11.1 (by exact vlt rfl h11.2) ?_)
 obtain ⟨hg12, e1⟩ | ⟨hg12, e1⟩ := bc e1
 refine W rfl (O_load_opt (k := .val) (i := 0) (j := 0) ty1_26 rfl (vix hg12) rfl rfl ?_)
 obtain ⟨r13,hr13,e1⟩:=be e1
 refine W rfl (O_callV0 (ss := [.val (.func (.func 75) #[] #[])]) (F := ownA (sl b1) 26 .val [(.func (.func 75) #[] #[]), (.func (.func 78) #[] #[])] :: F) rfl fn_108 rfl (F108v2_ok hG fuel a3 a4 a5 a6 b2 hr13) (sel_perm [1] _) ?_)
 refine go ?_
 refine C_cd rfl e1 (fun e1 => ?_) (fun e1 => ?_)
 refine gs ?_
 obtain rfl := so e1
 obtain rfl := so e0
 refine go ?_
 exact rt [1, 0] 0 ⟨rfl, rfl⟩ rfl rfl
 refine go ?_
 obtain ⟨x15,w15,e1⟩:=be e1
 refine W rfl (O_arI rfl rfl rfl (ck_e w15).2 (W_re (congrArg sI (ck_e w15).1) ?_))
 refine go ?_
 exact jmpL x15 e1 (tl [1, 0] 0 rfl rfl)
 obtain ⟨hg16, e1⟩ | ⟨hg16, e1⟩ := bc e1
 refine W rfl (O_load_opt (k := .val) (i := 1) (j := 0) ty1_26 rfl (vix hg16) rfl rfl ?_)
 obtain ⟨r17,hr17,e1⟩:=be e1
 refine W rfl (O_callV0 (ss := [.val (.func (.func 78) #[] #[])]) (F := ownA (sl b1) 26 .val [(.func (.func 75) #[] #[]), (.func (.func 78) #[] #[])] :: F) rfl fn_108 rfl (F108v1_ok hG fuel a3 a4 a5 a6 b2 hr17) (sel_perm [1] _) ?_)
 refine go ?_
 refine C_cd rfl e1 (fun e1 => ?_) (fun e1 => ?_)
 refine gs ?_
 obtain rfl := so e1
 obtain rfl := so e0
 refine go ?_
 exact rt [1, 0] 0 ⟨rfl, rfl⟩ rfl rfl
 refine go ?_
 obtain ⟨x19,w19,e1⟩:=be e1
 refine W rfl (O_arI rfl rfl rfl (ck_e w19).2 (W_re (congrArg sI (ck_e w19).1) ?_))
 refine go ?_
 exact jmpL x19 e1 (tl [1, 0] 0 rfl rfl)
 cases e1
 refine go ?_
 obtain rfl := so e1
 exact jmp () rfl (tl [0, 0] 0 rfl rfl)
 rintro ⟨⟩ hi
 subst hi
 have e0 := elim_l e0
 refine gs ?_
 obtain rfl := so e0
 refine go ?_
 exact rt [0, 0] 0 ⟨rfl, rfl⟩ rfl rfl
def F107v1 (fuel : Nat) (a3 : Int) (a4 : ByteArray) (a5 : ByteArray) (a6 : List Tree) : Option (Bool) :=
 (F129v1 fuel a3 a4 a5 a6).bind fun r7 =>
 some (decide (r7 ≥ (0 : Int)))
theorem F107v1_ok {w0 : World} (hG : Globs w0) (fuel : Nat) : ∀ (a3 : Int) (a4 : ByteArray) (a5 : ByteArray) (a6 : List Tree) (b1 : Hnd) (b2 : Nat) {r : Bool} (e0 : F107v1 fuel a3 a4 a5 a6 = some r), Fn w0 prog 107 [.val (sl b1), .val (.func (.func 108) #[] #[.pointer (some ⟨b2, 0, none⟩)])] [ownA (sl b1) 26 .val [(.func (.func 75) #[] #[]), (.func (.func 78) #[] #[])], bx1 b2 a3 a4 a5 a6] (fun s H => s = sB r ∧ H = [ownA (sl b1) 26 .val [(.func (.func 75) #[] #[]), (.func (.func 78) #[] #[])], bx1 b2 a3 a4 a5 a6]) := by
 intro a3 a4 a5 a6 b1 b2 r e0
 rw [F107v1] at e0
 refine fn_intro2 9 [.tmp 4] func107 rfl rfl rfl rfl fun X hX F => ?_
 refine C_turn (T_start [(0, .val (sl b1)), (1, .val (.func (.func 108) #[] #[.pointer (some ⟨b2, 0, none⟩)]))] rfl (ownA (sl b1) 26 .val [(.func (.func 75) #[] #[]), (.func (.func 78) #[] #[])] :: bx1 b2 a3 a4 a5 a6 :: F) rfl) ?_
 refine gs ?_
 refine gs ?_
 obtain ⟨r7,hr7,e0⟩:=be e0
 refine W rfl (O_call0 (F := F) fn_129 rfl (F129v1_ok hG fuel a3 a4 a5 a6 b1 b2 hr7) (sel_perm [0, 0] _) ?_)
 refine go ?_
 obtain rfl := so e0
 refine go ?_
 exact rt [0, 0] 0 ⟨rfl, rfl⟩ rfl rfl
def F106v1 (fuel : Nat) (a1 : Tree) : Option (Bool) :=
 (F107v1 fuel a1.kind a1.text a1.trail a1.kids).bind fun r5 =>
 some r5
theorem F106v1_ok {w0 : World} (hG : Globs w0) (fuel : Nat) : ∀ (a1 : Tree) (b2 : Nat) (b3 : Hnd) {r : Bool} (e0 : F106v1 fuel a1 = some r), Fn w0 prog 106 [.agg [sI a1.kind, sS a1.text, sS a1.trail, .isl .node a1.kids], sP b2 0] [boxA b2 138 [.val (sl b3)], ownA (sl b3) 26 .val [(.func (.func 75) #[] #[]), (.func (.func 78) #[] #[])]] (fun s H => s = sB r ∧ H = [boxA b2 138 [.val (sl b3)], ownA (sl b3) 26 .val [(.func (.func 75) #[] #[]), (.func (.func 78) #[] #[])]]) := by
 intro a1 b2 b3 r e0
 rw [F106v1] at e0
 refine fn_intro2 7 [.tmp 3] func106 rfl rfl rfl rfl fun X hX F => ?_
 refine C_turn (T_start [(0, .agg [sI a1.kind, sS a1.text, sS a1.trail, .isl .node a1.kids]), (1, sP b2 0)] rfl (boxA b2 138 [.val (sl b3)] :: ownA (sl b3) 26 .val [(.func (.func 75) #[] #[]), (.func (.func 78) #[] #[])] :: F) rfl) ?_
 refine gs ?_
 refine W rfl (O_box rfl rfl fun b4 => ?_)
 refine go ?_
 refine gs ?_
 refine W rfl (O_makeFunc (vs := []) (us := [.pointer (some ⟨b4, 0, none⟩)]) rfl rfl ?_)
 obtain ⟨r5,hr5,e0⟩:=be e0
 refine W rfl (O_call0 (F := boxA b2 138 [.val (sl b3)] :: F) fn_107 rfl (F107v1_ok hG fuel a1.kind a1.text a1.trail a1.kids b3 b4 hr5) (sel_perm [2, 0] _) ?_)
 refine go ?_
 obtain rfl := so e0
 refine go ?_
 exact rt [2, 0] 1 ⟨rfl, rfl⟩ rfl rfl
def F74v1_l9 (fuel : Nat) (a1 : List Tree) : Nat → Int → Option ((Unit ⊕ Bool))
 | 0, _ => none
 | n + 1, y10 =>
 bif (decide (y10 < (2 : Int))) then (
 if 0 ≤ y10 ∧ y10 < ((2 : Nat) : Int) then (
 bif (y10 == (0 : Int)) then (
 (idx a1 y10).bind fun x14 =>
 (F106 fuel x14).bind fun r15 =>
 bif (!r15) then (
 some (.inr false)) else (
 (ck (y10 + (1 : Int))).bind fun x17 =>
 F74v1_l9 fuel a1 n x17)) else (
 bif (y10 == (1 : Int)) then (
 (idx a1 y10).bind fun x19 =>
 (F106v1 fuel x19).bind fun r20 =>
 bif (!r20) then (
 some (.inr false)) else (
 (ck (y10 + (1 : Int))).bind fun x22 =>
 F74v1_l9 fuel a1 n x22)) else (
 none))) else none) else (
 some (.inl ()))
def F74v1 (fuel : Nat) (a1 : List Tree) : Option (Bool) :=
 bif ((a1.length : Int) != (2 : Int)) then (
 some false) else (
 Option.bind (α := (Unit ⊕ Bool)) (
 F74v1_l9 fuel a1 fuel (0 : Int)) (Sum.elim (fun i8 =>
 some true) (fun z => some z)))
theorem F74v1_ok {w0 : World} (hG : Globs w0) (fuel : Nat) : ∀ (a1 : List Tree) (b2 : Hnd) (b3 : Nat) (b4 : Hnd) (b5 : Nat) (b6 : Hnd) {r : Bool} (e0 : F74v1 fuel a1 = some r), Fn w0 prog 74 [.isl .node a1, .val (sl b2)] [ownA (sl b2) 26 .val [(.func (.func 106) #[] #[.pointer (some ⟨b3, 0, none⟩)]), (.func (.func 106) #[] #[.pointer (some ⟨b5, 0, none⟩)])], boxA b3 138 [.val (sl b4)], ownA (sl b4) 26 .val [(.func (.func 77) #[] #[]), (.func (.func 78) #[] #[])], boxA b5 138 [.val (sl b6)], ownA (sl b6) 26 .val [(.func (.func 75) #[] #[]), (.func (.func 78) #[] #[])]] (fun s H => s = sB r ∧ H = [ownA (sl b2) 26 .val [(.func (.func 106) #[] #[.pointer (some ⟨b3, 0, none⟩)]), (.func (.func 106) #[] #[.pointer (some ⟨b5, 0, none⟩)])], boxA b3 138 [.val (sl b4)], ownA (sl b4) 26 .val [(.func (.func 77) #[] #[]), (.func (.func 78) #[] #[])], boxA b5 138 [.val (sl b6)], ownA (sl b6) 26 .val [(.func (.func 75) #[] #[]), (.func (.func 78) #[] #[])]]) := by
 intro a1 b2 b3 b4 b5 b6 r e0
 rw [F74v1] at e0
 refine fn_intro2 27 [.tmp 4] func74 rfl rfl rfl rfl fun X hX F => ?_
 refine C_turn (T_start [(0, .isl .node a1), (1, .val (sl b2))] rfl (ownA (sl b2) 26 .val [(.func (.func 106) #[] #[.pointer (some ⟨b3, 0, none⟩)]), (.func (.func 106) #[] #[.pointer (some ⟨b5, 0, none⟩)])] :: boxA b3 138 [.val (sl b4)] :: ownA (sl b4) 26 .val [(.func (.func 77) #[] #[]), (.func (.func 78) #[] #[])] :: boxA b5 138 [.val (sl b6)] :: ownA (sl b6) 26 .val [(.func (.func 75) #[] #[]), (.func (.func 78) #[] #[])] :: F) rfl) ?_
 refine gs ?_
 refine C_seq ?_
 refine gs ?_
 refine W rfl (O_len_own (k := .val) tyl_138 rfl ?_)
 refine go ?_
 refine C_cd rfl e0 (fun e0 => ?_) (fun e0 => ?_)
 refine gs ?_
 obtain rfl := so e0
 refine go ?_
 exact rt [0, 0, 0, 0, 0] 0 ⟨rfl, rfl⟩ rfl rfl
 refine go ?_
 obtain ⟨o8,e1,e0⟩:=be e0
 refine C_cut (ι := Unit) (fun i => []) (fun i => ownA (sl b2) 26 .val [(.func (.func 106) #[] #[.pointer (some ⟨b3, 0, none⟩)]), (.func (.func 106) #[] #[.pointer (some ⟨b5, 0, none⟩)])] :: boxA b3 138 [.val (sl b4)] :: ownA (sl b4) 26 .val [(.func (.func 77) #[] #[]), (.func (.func 78) #[] #[])] :: boxA b5 138 [.val (sl b6)] :: ownA (sl b6) 26 .val [(.func (.func 75) #[] #[]), (.func (.func 78) #[] #[])] :: F) (fun i => o8 = .inl ()) ?_ ?_
 refine gs ?_
 refine W rfl (O_len_own (k := .val) tyl_138 rfl ?_)
 refine go ?_
 refine C_loopF (κ := Int) (fun d => [(0, .isl .node a1), (12, .val (sl b2)), (13, sI (2 : Int)), (14, sI d)]) (fun d => ownA (sl b2) 26 .val [(.func (.func 106) #[] #[.pointer (some ⟨b3, 0, none⟩)]), (.func (.func 106) #[] #[.pointer (some ⟨b5, 0, none⟩)])] :: boxA b3 138 [.val (sl b4)] :: ownA (sl b4) 26 .val [(.func (.func 77) #[] #[]), (.func (.func 78) #[] #[])] :: boxA b5 138 [.val (sl b6)] :: ownA (sl b6) 26 .val [(.func (.func 75) #[] #[]), (.func (.func 78) #[] #[])] :: F) (fun n d => F74v1_l9 fuel a1 n d) o8 fuel (0 : Int) e1 (tl [0, 0, 0, 0, 0] 0 rfl rfl) (fun _ => rfl) ?_
 rintro n y10 hF
 have e1 : F74v1_l9 fuel a1 (n + 1) y10 = some o8 := hF
 rw [F74v1_l9] at e1
 clear hF
 refine gs ?_
 refine C_seq ?_
 refine C_cd rfl e1 (fun e1 => ?_) (fun e1 => ?_)
 refine go ?_
 refine gs ?_
 refine gs ?_
 obtain ⟨h12, e1⟩ := req_e e1
 refine W rfl (O_indexAddr_own (k := .val) tyL_138 rfl rfl h12.1 (by exact vlt rfl h12.2) ?_)
 obtain ⟨hg13, e1⟩ | ⟨hg13, e1⟩ := bc e1
 refine W rfl (O_load_opt (k := .val) (i := 0) (j := 0) ty1_26 rfl (vix hg13) rfl rfl ?_)
 refine go ?_
 refine gs ?_
 obtain ⟨x14,w14,e1⟩:=be e1
 refine W rfl (O_indexAddr (k := .node) (z := x14) tyL_22 rfl rfl (idx_e w14).1 (idx_e w14).2 ?_)
 refine W rfl (O_load_ipt_all (k := .node) tyA_24 rfl ?_)
 obtain ⟨r15,hr15,e1⟩:=be e1
 refine W rfl (O_callV0 (ss := [.agg [sI x14.kind, sS x14.text, sS x14.trail, .isl .node x14.kids]]) (F := ownA (sl b2) 26 .val [(.func (.func 106) #[] #[.pointer (some ⟨b3, 0, none⟩)]), (.func (.func 106) #[] #[.pointer (some ⟨b5, 0, none⟩)])] :: boxA b5 138 [.val (sl b6)] :: ownA (sl b6) 26 .val [(.func (.func 75) #[] #[]), (.func (.func 78) #[] #[])] :: F) rfl fn_106 rfl (F106_ok hG fuel x14 b3 b4 hr15) (sel_perm [1, 1] _) ?_)
 refine go ?_
 refine C_cd rfl e1 (fun e1 => ?_) (fun e1 => ?_)
 refine gs ?_
 obtain rfl := so e1
 obtain rfl := so e0
 refine go ?_
 exact rt [2, 0, 0, 0, 0] 0 ⟨rfl, rfl⟩ rfl rfl
 refine go ?_
 obtain ⟨x17,w17,e1⟩:=be e1
 refine W rfl (O_arI rfl rfl rfl (ck_e w17).2 (W_re (congrArg sI (ck_e w17).1) ?_))
 refine go ?_
 exact jmpL x17 e1 (tl [2, 0, 0, 0, 0] 0 rfl rfl)
 obtain ⟨hg18, e1⟩ | ⟨hg18, e1⟩ := bc e1
 refine W rfl (O_load_opt (k := .val) (i := 1) (j := 0) ty1_26 rfl (vix hg18) rfl rfl ?_)
 refine go ?_
 refine gs ?_
 obtain ⟨x19,w19,e1⟩:=be e1
 refine W rfl (O_indexAddr (k := .node) (z := x19) tyL_22 rfl rfl (idx_e w19).1 (idx_e w19).2 ?_)
 refine W rfl (O_load_ipt_all (k := .node) tyA_24 rfl ?_)
 obtain ⟨r20,hr20,e1⟩:=be e1
 refine W rfl (O_callV0 (ss := [.agg [sI x19.kind, sS x19.text, sS x19.trail, .isl .node x19.kids]]) (F := ownA (sl b2) 26 .val [(.func (.func 106) #[] #[.pointer (some ⟨b3, 0, none⟩)]), (.func (.func 106) #[] #[.pointer (some ⟨b5, 0, none⟩)])] :: boxA b3 138 [.val (sl b4)] :: ownA (sl b4) 26 .val [(.func (.func 77) #[] #[]), (.func (.func 78) #[] #[])] :: F) rfl fn_106 rfl (F106v1_ok hG fuel x19 b5 b6 hr20) (sel_perm [3, 3] _) ?_)
 refine go ?_
 refine C_cd rfl e1 (fun e1 => ?_) (fun e1 => ?_)
 refine gs ?_
 obtain rfl := so e1
 obtain rfl := so e0
 refine go ?_
 exact rt [2, 2, 2, 0, 0] 0 ⟨rfl, rfl⟩ rfl rfl
 refine go ?_
 obtain ⟨x22,w22,e1⟩:=be e1
 refine W rfl (O_arI rfl rfl rfl (ck_e w22).2 (W_re (congrArg sI (ck_e w22).1) ?_))
 refine go ?_
 exact jmpL x22 e1 (tl [2, 2, 2, 0, 0] 0 rfl rfl)
 cases e1
 refine go ?_
 obtain rfl := so e1
 exact jmp () rfl (tl [0, 0, 0, 0, 0] 0 rfl rfl)
 rintro ⟨⟩ hi
 subst hi
 have e0 := elim_l e0
 refine gs ?_
 obtain rfl := so e0
 refine go ?_
 exact rt [0, 0, 0, 0, 0] 0 ⟨rfl, rfl⟩ rfl rfl
def F74v2_l5 (fuel : Nat) (a1 : List Tree) : Nat → Int → Option ((Unit ⊕ Bool))
 | 0, _ => none
 | n + 1, y6 =>
 bif (decide (y6 < (1 : Int))) then (
 if 0 ≤ y6 ∧ y6 < ((1 : Nat) : Int) then (
 bif (y6 == (0 : Int)) then (
 (idx a1 y6).bind fun x10 =>
 (F77 fuel x10).bind fun r11 =>
 bif (!r11) then (
 some (.inr false)) else (
 (ck (y6 + (1 : Int))).bind fun x13 =>
 F74v2_l5 fuel a1 n x13)) else (
 none)) else none) else (
 some (.inl ()))
def F74v2 (fuel : Nat) (a1 : List Tree) : Option (Bool) :=
 bif ((a1.length : Int) != (1 : Int)) then (
 some false) else (
 Option.bind (α := (Unit ⊕ Bool)) (
 F74v2_l5 fuel a1 fuel (0 : Int)) (Sum.elim (fun i4 =>
 some true) (fun z => some z)))
theorem F74v2_ok {w0 : World} (hG : Globs w0) (fuel : Nat) : ∀ (a1 : List Tree) (b2 : Hnd) {r : Bool} (e0 : F74v2 fuel a1 = some r), Fn w0 prog 74 [.isl .node a1, .val (sl b2)] [ownA (sl b2) 26 .val [(.func (.func 77) #[] #[])]] (fun s H => s = sB r ∧ H = [ownA (sl b2) 26 .val [(.func (.func 77) #[] #[])]]) := by
 intro a1 b2 r e0
 rw [F74v2] at e0
 refine fn_intro2 27 [.tmp 4] func74 rfl rfl rfl rfl fun X hX F => ?_
 refine C_turn (T_start [(0, .isl .node a1), (1, .val (sl b2))] rfl (ownA (sl b2) 26 .val [(.func (.func 77) #[] #[])] :: F) rfl) ?_
 refine gs ?_
 refine C_seq ?_
 refine gs ?_
 refine W rfl (O_len_own (k := .val) tyl_138 rfl ?_)
 refine go ?_
 refine C_cd rfl e0 (fun e0 => ?_) (fun e0 => ?_)
 refine gs ?_
 obtain rfl := so e0
 refine go ?_
 exact rt [0] 0 ⟨rfl, rfl⟩ rfl rfl
 refine go ?_
 obtain ⟨o4,e1,e0⟩:=be e0
 refine C_cut (ι := Unit) (fun i => []) (fun i => ownA (sl b2) 26 .val [(.func (.func 77) #[] #[])] :: F) (fun i => o4 = .inl ()) ?_ ?_
 refine gs ?_
 refine W rfl (O_len_own (k := .val) tyl_138 rfl ?_)
 refine go ?_
 refine C_loopF (κ := Int) (fun d => [(0, .isl .node a1), (12, .val (sl b2)), (13, sI (1 : Int)), (14, sI d)]) (fun d => ownA (sl b2) 26 .val [(.func (.func 77) #[] #[])] :: F) (fun n d => F74v2_l5 fuel a1 n d) o4 fuel (0 : Int) e1 (tl [0] 0 rfl rfl) (fun _ => rfl) ?_
 rintro n y6 hF
 have e1 : F74v2_l5 fuel a1 (n + 1) y6 = some o4 := hF
 rw [F74v2_l5] at e1
 clear hF
 refine gs ?_
 refine C_seq ?_
 refine C_cd rfl e1 (fun e1 => ?_) (fun e1 => ?_)
 refine go ?_
 refine gs ?_
 refine gs ?_
 obtain ⟨h8, e1⟩ := req_e e1
 refine W rfl (O_indexAddr_own (k := .val) tyL_138 rfl rfl h8.1 (by exact vlt rfl h8.2) ?_)
 obtain ⟨hg9, e1⟩ | ⟨hg9, e1⟩ := bc e1
 refine W rfl (O_load_opt (k := .val) (i := 0) (j := 0) ty1_26 rfl (vix hg9) rfl rfl ?_)
 refine go ?_
 refine gs ?_
 obtain ⟨x10,w10,e1⟩:=be e1
 refine W rfl (O_indexAddr (k := .node) (z := x10) tyL_22 rfl rfl (idx_e w10).1 (idx_e w10).2 ?_)
 refine W rfl (O_load_ipt_all (k := .node) tyA_24 rfl ?_)
 obtain ⟨r11,hr11,e1⟩:=be e1
 refine W rfl (O_callV0 (ss := [.agg [sI x10.kind, sS x10.text, sS x10.trail, .isl .node x10.kids]]) (F := ownA (sl b2) 26 .val [(.func (.func 77) #[] #[])] :: F) rfl fn_77 rfl (F77_ok hG fuel x10 hr11) (sel_perm [] _) ?_)
 refine go ?_
 refine C_cd rfl e1 (fun e1 => ?_) (fun e1 => ?_)
 refine gs ?_
 obtain rfl := so e1
 obtain rfl := so e0
 refine go ?_
 exact rt [0] 0 ⟨rfl, rfl⟩ rfl rfl
 refine go ?_
 obtain ⟨x13,w13,e1⟩:=be e1
 refine W rfl (O_arI rfl rfl rfl (ck_e w13).2 (W_re (congrArg sI (ck_e w13).1) ?_))
 refine go ?_
 exact jmpL x13 e1 (tl [0] 0 rfl rfl)
 cases e1
 refine go ?_
 obtain rfl := so e1
 exact jmp () rfl (tl [0] 0 rfl rfl)
 rintro ⟨⟩ hi
 subst hi
 have e0 := elim_l e0
 refine gs ?_
 obtain rfl := so e0
 refine go ?_
 exact rt [0] 0 ⟨rfl, rfl⟩ rfl rfl
def F74v3_l16 (fuel : Nat) (a1 : List Tree) (a5 : List Int) (a8 : List Int) (a13 : List Int) : Nat → Int → Option ((Unit ⊕ Bool))
 | 0, _ => none
 | n + 1, y17 =>
 bif (decide (y17 < (4 : Int))) then (
 if 0 ≤ y17 ∧ y17 < ((4 : Nat) : Int) then (
 bif (y17 == (0 : Int)) then (
 (idx a1 y17).bind fun x21 =>
 (F83 fuel x21 a5).bind fun r22 =>
 bif (!r22) then (
 some (.inr false)) else (
 (ck (y17 + (1 : Int))).bind fun x24 =>
 F74v3_l16 fuel a1 a5 a8 a13 n x24)) else (
 bif (y17 == (1 : Int)) then (
 (idx a1 y17).bind fun x26 =>
 (F83 fuel x26 a8).bind fun r27 =>
 bif (!r27) then (
 some (.inr false)) else (
 (ck (y17 + (1 : Int))).bind fun x29 =>
 F74v3_l16 fuel a1 a5 a8 a13 n x29)) else (
 bif (y17 == (2 : Int)) then (
 (idx a1 y17).bind fun x31 =>
 (F106 fuel x31).bind fun r32 =>
 bif (!r32) then (
 some (.inr false)) else (
 (ck (y17 + (1 : Int))).bind fun x34 =>
 F74v3_l16 fuel a1 a5 a8 a13 n x34)) else (
 bif (y17 == (3 : Int)) then (
 (idx a1 y17).bind fun x36 =>
 (F83 fuel x36 a13).bind fun r37 =>
 bif (!r37) then (
 some (.inr false)) else (
 (ck (y17 + (1 : Int))).bind fun x39 =>
 F74v3_l16 fuel a1 a5 a8 a13 n x39)) else (
 none))))) else none) else (
 some (.inl ()))
def F74v3 (fuel : Nat) (a1 : List Tree) (a5 : List Int) (a8 : List Int) (a13 : List Int) : Option (Bool) :=
 bif ((a1.length : Int) != (4 : Int)) then (
 some false) else (
 Option.bind (α := (Unit ⊕ Bool)) (
 F74v3_l16 fuel a1 a5 a8 a13 fuel (0 : Int)) (Sum.elim (fun i15 =>
 some true) (fun z => some z)))
theorem F74v3_ok {w0 : World} (hG : Globs w0) (fuel : Nat) : ∀ (a1 : List Tree) (a5 : List Int) (a8 : List Int) (a13 : List Int) (b2 : Hnd) (b3 : Nat) (q4 : Hnd) (b6 : Nat) (q7 : Hnd) (b9 : Nat) (b10 : Hnd) (b11 : Nat) (q12 : Hnd) {r : Bool} (e0 : F74v3 fuel a1 a5 a8 a13 = some r), Fn w0 prog 74 [.isl .node a1, .val (sl b2)] [ownA (sl b2) 26 .val [(.func (.func 83) #[] #[.pointer (some ⟨b3, 0, none⟩)]), (.func (.func 83) #[] #[.pointer (some ⟨b6, 0, none⟩)]), (.func (.func 106) #[] #[.pointer (some ⟨b9, 0, none⟩)]), (.func (.func 83) #[] #[.pointer (some ⟨b11, 0, none⟩)])], boxA b3 28 [.val (sl q4)], ownA (sl q4) 3 .int a5, boxA b6 28 [.val (sl q7)], ownA (sl q7) 3 .int a8, boxA b9 138 [.val (sl b10)], ownA (sl b10) 26 .val [(.func (.func 77) #[] #[]), (.func (.func 78) #[] #[])], boxA b11 28 [.val (sl q12)], ownA (sl q12) 3 .int a13] (fun s H => s = sB r ∧ H = [ownA (sl b2) 26 .val [(.func (.func 83) #[] #[.pointer (some ⟨b3, 0, none⟩)]), (.func (.func 83) #[] #[.pointer (some ⟨b6, 0, none⟩)]), (.func (.func 106) #[] #[.pointer (some ⟨b9, 0, none⟩)]), (.func (.func 83) #[] #[.pointer (some ⟨b11, 0, none⟩)])], boxA b3 28 [.val (sl q4)], ownA (sl q4) 3 .int a5, boxA b6 28 [.val (sl q7)], ownA (sl q7) 3 .int a8, boxA b9 138 [.val (sl b10)], ownA (sl b10) 26 .val [(.func (.func 77) #[] #[]), (.func (.func 78) #[] #[])], boxA b11 28 [.val (sl q12)], ownA (sl q12) 3 .int a13]) := by
 intro a1 a5 a8 a13 b2 b3 q4 b6 q7 b9 b10 b11 q12 r e0
 rw [F74v3] at e0
 refine fn_intro2 27 [.tmp 4] func74 rfl rfl rfl rfl fun X hX F => ?_
 refine C_turn (T_start [(0, .isl .node a1), (1, .val (sl b2))] rfl (ownA (sl b2) 26 .val [(.func (.func 83) #[] #[.pointer (some ⟨b3, 0, none⟩)]), (.func (.func 83) #[] #[.pointer (some ⟨b6, 0, none⟩)]), (.func (.func 106) #[] #[.pointer (some ⟨b9, 0, none⟩)]), (.func (.func 83) #[] #[.pointer (some ⟨b11, 0, none⟩)])] :: boxA b3 28 [.val (sl q4)] :: ownA (sl q4) 3 .int a5 :: boxA b6 28 [.val (sl q7)] :: ownA (sl q7) 3 .int a8 :: boxA b9 138 [.val (sl b10)] :: ownA (sl b10) 26 .val [(.func (.func 77) #[] #[]), (.func (.func 78) #[] #[])] :: boxA b11 28 [.val (sl q12)] :: ownA (sl q12) 3 .int a13 :: F) rfl) ?_
 refine gs ?_
 refine C_seq ?_
 refine gs ?_
 refine W rfl (O_len_own (k := .val) tyl_138 rfl ?_)
 refine go ?_
 refine C_cd rfl e0 (fun e0 => ?_) (fun e0 => ?_)
 refine gs ?_
 obtain rfl := so e0
 refine go ?_
 exact rt [0, 0, 0, 0, 0, 0, 0, 0, 0] 0 ⟨rfl, rfl⟩ rfl rfl
 refine go ?_
 obtain ⟨o15,e1,e0⟩:=be e0
 refine C_cut (ι := Unit) (fun i => []) (fun i => ownA (sl b2) 26 .val [(.func (.func 83) #[] #[.pointer (some ⟨b3, 0, none⟩)]), (.func (.func 83) #[] #[.pointer (some ⟨b6, 0, none⟩)]), (.func (.func 106) #[] #[.pointer (some ⟨b9, 0, none⟩)]), (.func (.func 83) #[] #[.pointer (some ⟨b11, 0, none⟩)])] :: boxA b3 28 [.val (sl q4)] :: ownA (sl q4) 3 .int a5 :: boxA b6 28 [.val (sl q7)] :: ownA (sl q7) 3 .int a8 :: boxA b9 138 [.val (sl b10)] :: ownA (sl b10) 26 .val [(.func (.func 77) #[] #[]), (.func (.func 78) #[] #[])] :: boxA b11 28 [.val (sl q12)] :: ownA (sl q12) 3 .int a13 :: F) (fun i => o15 = .inl ()) ?_ ?_
 refine gs ?_
 refine W rfl (O_len_own (k := .val) tyl_138 rfl ?_)
 refine go ?_
 refine C_loopF (κ := Int) (fun d => [(0, .isl .node a1), (12, .val (sl b2)), (13, sI (4 : Int)), (14, sI d)]) (fun d => ownA (sl b2) 26 .val [(.func (.func 83) #[] #[.pointer (some ⟨b3, 0, none⟩)]), (.func (.func 83) #[] #[.pointer (some ⟨b6, 0, none⟩)]), (.func (.func 106) #[] #[.pointer (some ⟨b9, 0, none⟩)]), (.func (.func 83) #[] #[.pointer (some ⟨b11, 0, none⟩)])] :: boxA b3 28 [.val (sl q4)] :: ownA (sl q4) 3 .int a5 :: boxA b6 28 [.val (sl q7)] :: ownA (sl q7) 3 .int a8 :: boxA b9 138 [.val (sl b10)] :: ownA (sl b10) 26 .val [(.func (.func 77) #[] #[]), (.func (.func 78) #[] #[])] :: boxA b11 28 [.val (sl q12)] :: ownA (sl q12) 3 .int a13 :: F) (fun n d => F74v3_l16 fuel a1 a5 a8 a13 n d) o15 fuel (0 : Int) e1 (tl [0, 0, 0, 0, 0, 0, 0, 0, 0] 0 rfl rfl) (fun _ => rfl) ?_
 rintro n y17 hF
 have e1 : F74v3_l16 fuel a1 a5 a8 a13 (n + 1) y17 = some o15 := hF
 rw [F74v3_l16] at e1
 clear hF
 refine gs ?_
 refine C_seq ?_
 refine C_cd rfl e1 (fun e1 => ?_) (fun e1 => ?_)
 refine go ?_
 refine gs ?_
 refine gs ?_
 obtain ⟨h19, e1⟩ := req_e e1
 refine W rfl (O_indexAddr_own (k := .val) tyL_138 rfl rfl h19.1 (by exact vlt rfl h19.2) ?_)
 obtain ⟨hg20, e1⟩ | ⟨hg20, e1⟩ := bc e1
 refine W rfl (O_load_opt (k := .val) (i := 0) (j := 0) ty1_26 rfl (vix hg20) rfl rfl ?_)
 refine go ?_
 refine gs ?_
 obtain ⟨x21,w21,e1⟩:=be e1
 refine W rfl (O_indexAddr (k := .node) (z := x21) tyL_22 rfl rfl (idx_e w21).1 (idx_e w21).2 ?_)
 refine W rfl (O_load_ipt_all (k := .node) tyA_24 rfl ?_)
 obtain ⟨r22,hr22,e1⟩:=be e1
 refine W rfl (O_callV0 (ss := [.agg [sI x21.kind, sS x21.text, sS x21.trail, .isl .node x21.kids]]) (F := ownA (sl b2) 26 .val [(.func (.func 83) #[] #[.pointer (some ⟨b3, 0, none⟩)]), (.func (.func 83) #[] #[.pointer (some ⟨b6, 0, none⟩)]), (.func (.func 106) #[] #[.pointer (some ⟨b9, 0, none⟩)]), (.func (.func 83) #[] #[.pointer (some ⟨b11, 0, none⟩)])] :: boxA b6 28 [.val (sl q7)] :: ownA (sl q7) 3 .int a8 :: boxA b9 138 [.val (sl b10)] :: ownA (sl b10) 26 .val [(.func (.func 77) #[] #[]), (.func (.func 78) #[] #[])] :: boxA b11 28 [.val (sl q12)] :: ownA (sl q12) 3 .int a13 :: F) rfl fn_83 rfl (F83_ok hG fuel x21 a5 b3 q4 hr22) (sel_perm [1, 1] _) ?_)
 refine go ?_
 refine C_cd rfl e1 (fun e1 => ?_) (fun e1 => ?_)
 refine gs ?_
 obtain rfl := so e1
 obtain rfl := so e0
 refine go ?_
 exact rt [2, 0, 0, 0, 0, 0, 0, 0, 0] 0 ⟨rfl, rfl⟩ rfl rfl
 refine go ?_
 obtain ⟨x24,w24,e1⟩:=be e1
 refine W rfl (O_arI rfl rfl rfl (ck_e w24).2 (W_re (congrArg sI (ck_e w24).1) ?_))
 refine go ?_
 exact jmpL x24 e1 (tl [2, 0, 0, 0, 0, 0, 0, 0, 0] 0 rfl rfl)
 obtain ⟨hg25, e1⟩ | ⟨hg25, e1⟩ := bc e1
 refine W rfl (O_load_opt (k := .val) (i := 1) (j := 0) ty1_26 rfl (vix hg25) rfl rfl ?_)
 refine go ?_
 refine gs ?_
 obtain ⟨x26,w26,e1⟩:=be e1
 refine W rfl (O_indexAddr (k := .node) (z := x26) tyL_22 rfl rfl (idx_e w26).1 (idx_e w26).2 ?_)
 refine W rfl (O_load_ipt_all (k := .node) tyA_24 rfl ?_)
 obtain ⟨r27,hr27,e1⟩:=be e1
 refine W rfl (O_callV0 (ss := [.agg [sI x26.kind, sS x26.text, sS x26.trail, .isl .node x26.kids]]) (F := ownA (sl b2) 26 .val [(.func (.func 83) #[] #[.pointer (some ⟨b3, 0, none⟩)]), (.func (.func 83) #[] #[.pointer (some ⟨b6, 0, none⟩)]), (.func (.func 106) #[] #[.pointer (some ⟨b9, 0, none⟩)]), (.func (.func 83) #[] #[.pointer (some ⟨b11, 0, none⟩)])] :: boxA b3 28 [.val (sl q4)] :: ownA (sl q4) 3 .int a5 :: boxA b9 138 [.val (sl b10)] :: ownA (sl b10) 26 .val [(.func (.func 77) #[] #[]), (.func (.func 78) #[] #[])] :: boxA b11 28 [.val (sl q12)] :: ownA (sl q12) 3 .int a13 :: F) rfl fn_83 rfl (F83_ok hG fuel x26 a8 b6 q7 hr27) (sel_perm [3, 3] _) ?_)
 refine go ?_
 refine C_cd rfl e1 (fun e1 => ?_) (fun e1 => ?_)
 refine gs ?_
 obtain rfl := so e1
 obtain rfl := so e0
 refine go ?_
 exact rt [2, 2, 2, 0, 0, 0, 0, 0, 0] 0 ⟨rfl, rfl⟩ rfl rfl
 refine go ?_
 obtain ⟨x29,w29,e1⟩:=be e1
 refine W rfl (O_arI rfl rfl rfl (ck_e w29).2 (W_re (congrArg sI (ck_e w29).1) ?_))
 refine go ?_
 exact jmpL x29 e1 (tl [2, 2, 2, 0, 0, 0, 0, 0, 0] 0 rfl rfl)
 obtain ⟨hg30, e1⟩ | ⟨hg30, e1⟩ := bc e1
 refine W rfl (O_load_opt (k := .val) (i := 2) (j := 0) ty1_26 rfl (vix hg30) rfl rfl ?_)
 refine go ?_
 refine gs ?_
 obtain ⟨x31,w31,e1⟩:=be e1
 refine W rfl (O_indexAddr (k := .node) (z := x31) tyL_22 rfl rfl (idx_e w31).1 (idx_e w31).2 ?_)
 refine W rfl (O_load_ipt_all (k := .node) tyA_24 rfl ?_)
 obtain ⟨r32,hr32,e1⟩:=be e1
 refine W rfl (O_callV0 (ss := [.agg [sI x31.kind, sS x31.text, sS x31.trail, .isl .node x31.kids]]) (F := ownA (sl b2) 26 .val [(.func (.func 83) #[] #[.pointer (some ⟨b3, 0, none⟩)]), (.func (.func 83) #[] #[.pointer (some ⟨b6, 0, none⟩)]), (.func (.func 106) #[] #[.pointer (some ⟨b9, 0, none⟩)]), (.func (.func 83) #[] #[.pointer (some ⟨b11, 0, none⟩)])] :: boxA b3 28 [.val (sl q4)] :: ownA (sl q4) 3 .int a5 :: boxA b6 28 [.val (sl q7)] :: ownA (sl q7) 3 .int a8 :: boxA b11 28 [.val (sl q12)] :: ownA (sl q12) 3 .int a13 :: F) rfl fn_106 rfl (F106_ok hG fuel x31 b9 b10 hr32) (sel_perm [5, 5] _) ?_)
 refine go ?_
 refine C_cd rfl e1 (fun e1 => ?_) (fun e1 => ?_)
 refine gs ?_
 obtain rfl := so e1
 obtain rfl := so e0
 refine go ?_
 exact rt [2, 2, 2, 2, 2, 0, 0, 0, 0] 0 ⟨rfl, rfl⟩ rfl rfl
 refine go ?_
 obtain ⟨x34,w34,e1⟩:=be e1
 refine W rfl (O_arI rfl rfl rfl (ck_e w34).2 (W_re (congrArg sI (ck_e w34).1) ?_))
 refine go ?_
 exact jmpL x34 e1 (tl [2, 2, 2, 2, 2, 0, 0, 0, 0] 0 rfl rfl)
 obtain ⟨hg35, e1⟩ | ⟨hg35, e1⟩ := bc e1
 refine W rfl (O_load_opt (k := .val) (i := 3) (j := 0) ty1_26 rfl (vix hg35) rfl rfl ?_)
 refine go ?_
 refine gs ?_
 obtain ⟨x36,w36,e1⟩:=be e1
 refine W rfl (O_indexAddr (k := .node) (z := x36) tyL_22 rfl rfl (idx_e w36).1 (idx_e w36).2 ?_)
 refine W rfl (O_load_ipt_all (k := .node) tyA_24 rfl ?_)
 obtain ⟨r37,hr37,e1⟩:=be e1
 refine W rfl (O_callV0 (ss := [.agg [sI x36.kind, sS x36.text, sS x36.trail, .isl .node x36.kids]]) (F := ownA (sl b2) 26 .val [(.func (.func 83) #[] #[.pointer (some ⟨b3, 0, none⟩)]), (.func (.func 83) #[] #[.pointer (some ⟨b6, 0, none⟩)]), (.func (.func 106) #[] #[.pointer (some ⟨b9, 0, none⟩)]), (.func (.func 83) #[] #[.pointer (some ⟨b11, 0, none⟩)])] :: boxA b3 28 [.val (sl q4)] :: ownA (sl q4) 3 .int a5 :: boxA b6 28 [.val (sl q7)] :: ownA (sl q7) 3 .int a8 :: boxA b9 138 [.val (sl b10)] :: ownA (sl b10) 26 .val [(.func (.func 77) #[] #[]), (.func (.func 78) #[] #[])] :: F) rfl fn_83 rfl (F83_ok hG fuel x36 a13 b11 q12 hr37) (sel_perm [7, 7] _) ?_)
 refine go ?_
 refine C_cd rfl e1 (fun e1 => ?_) (fun e1 => ?_)
 refine gs ?_
 obtain rfl := so e1
 obtain rfl := so e0
 refine go ?_
 exact rt [2, 2, 2, 2, 2, 2, 2, 0, 0] 0 ⟨rfl, rfl⟩ rfl rfl
 refine go ?_
 obtain ⟨x39,w39,e1⟩:=be e1
 refine W rfl (O_arI rfl rfl rfl (ck_e w39).2 (W_re (congrArg sI (ck_e w39).1) ?_))
 refine go ?_
 exact jmpL x39 e1 (tl [2, 2, 2, 2, 2, 2, 2, 0, 0] 0 rfl rfl)
 cases e1
 refine go ?_
 obtain rfl := so e1
 exact jmp () rfl (tl [0, 0, 0, 0, 0, 0, 0, 0, 0] 0 rfl rfl)
 rintro ⟨⟩ hi
 subst hi
 have e0 := elim_l e0
 refine gs ?_
 obtain rfl := so e0
 refine go ?_
 exact rt [0, 0, 0, 0, 0, 0, 0, 0, 0] 0 ⟨rfl, rfl⟩ rfl rfl
def F74v4_l5 (fuel : Nat) (a1 : List Tree) : Nat → Int → Option ((Unit ⊕ Bool))
 | 0, _ => none
 | n + 1, y6 =>
 bif (decide (y6 < (2 : Int))) then (
 if 0 ≤ y6 ∧ y6 < ((2 : Nat) : Int) then (
 bif (y6 == (0 : Int)) then (
 (idx a1 y6).bind fun x10 =>
 (F77 fuel x10).bind fun r11 =>
 bif (!r11) then (
 some (.inr false)) else (
 (ck (y6 + (1 : Int))).bind fun x13 =>
 F74v4_l5 fuel a1 n x13)) else (
 bif (y6 == (1 : Int)) then (
 (idx a1 y6).bind fun x15 =>
 (F77 fuel x15).bind fun r16 =>
 bif (!r16) then (
 some (.inr false)) else (
 (ck (y6 + (1 : Int))).bind fun x18 =>
 F74v4_l5 fuel a1 n x18)) else (
 none))) else none) else (
 some (.inl ()))
def F74v4 (fuel : Nat) (a1 : List Tree) : Option (Bool) :=
 bif ((a1.length : Int) != (2 : Int)) then (
 some false) else (
 Option.bind (α := (Unit ⊕ Bool)) (
 F74v4_l5 fuel a1 fuel (0 : Int)) (Sum.elim (fun i4 =>
 some true) (fun z => some z)))
theorem F74v4_ok {w0 : World} (hG : Globs w0) (fuel : Nat) : ∀ (a1 : List Tree) (b2 : Hnd) {r : Bool} (e0 : F74v4 fuel a1 = some r), Fn w0 prog 74 [.isl .node a1, .val (sl b2)] [ownA (sl b2) 26 .val [(.func (.func 77) #[] #[]), (.func (.func 77) #[] #[])]] (fun s H => s = sB r ∧ H = [ownA (sl b2) 26 .val [(.func (.func 77) #[] #[]), (.func (.func 77) #[] #[])]]) := by
 intro a1 b2 r e0
 rw [F74v4] at e0
 refine fn_intro2 27 [.tmp 4] func74 rfl rfl rfl rfl fun X hX F => ?_
 refine C_turn (T_start [(0, .isl .node a1), (1, .val (sl b2))] rfl (ownA (sl b2) 26 .val [(.func (.func 77) #[] #[]), (.func (.func 77) #[] #[])] :: F) rfl) ?_
 refine gs ?_
 refine C_seq ?_
 refine gs ?_
 refine W rfl (O_len_own (k := .val) tyl_138 rfl ?_)
 refine go ?_
 refine C_cd rfl e0 (fun e0 => ?_) (fun e0 => ?_)
 refine gs ?_
 obtain rfl := so e0
 refine go ?_
 exact rt [0] 0 ⟨rfl, rfl⟩ rfl rfl
 refine go ?_
 obtain ⟨o4,e1,e0⟩:=be e0
 refine C_cut (ι := Unit) (fun i => []) (fun i => ownA (sl b2) 26 .val [(.func (.func 77) #[] #[]), (.func (.func 77) #[] #[])] :: F) (fun i => o4 = .inl ()) ?_ ?_
 refine gs ?_
 refine W rfl (O_len_own (k := .val) tyl_138 rfl ?_)
 refine go ?_
 refine C_loopF (κ := Int) (fun d => [(0, .isl .node a1), (12, .val (sl b2)), (13, sI (2 : Int)), (14, sI d)]) (fun d => ownA (sl b2) 26 .val [(.func (.func 77) #[] #[]), (.func (.func 77) #[] #[])] :: F) (fun n d => F74v4_l5 fuel a1 n d) o4 fuel (0 : Int) e1 (tl [0] 0 rfl rfl) (fun _ => rfl) ?_
 rintro n y6 hF
 have e1 : F74v4_l5 fuel a1 (n + 1) y6 = some o4 := hF
 rw [F74v4_l5] at e1
 clear hF
 refine gs ?_
 refine C_seq ?_
 refine C_cd rfl e1 (fun e1 => ?_) (fun e1 => ?_)
 refine go ?_
 refine gs ?_
 refine gs ?_
 obtain ⟨h8, e1⟩ := req_e e1
 refine W rfl (O_indexAddr_own (k := .val) tyL_138 rfl rfl h8.1 (by exact vlt rfl h8.2) ?_)
 obtain ⟨hg9, e1⟩ | ⟨hg9, e1⟩ := bc e1
 refine W rfl (O_load_opt (k := .val) (i := 0) (j := 0) ty1_26 rfl (vix hg9) rfl rfl ?_)
 refine go ?_
 refine gs ?_
 obtain ⟨x10,w10,e1⟩:=be e1
 refine W rfl (O_indexAddr (k := .node) (z := x10) tyL_22 rfl rfl (idx_e w10).1 (idx_e w10).2 ?_)
 refine W rfl (O_load_ipt_all (k := .node) tyA_24 rfl ?_)
 obtain ⟨r11,hr11,e1⟩:=be e1
 refine W rfl (O_callV0 (ss := [.agg [sI x10.kind, sS x10.text, sS x10.trail, .isl .node x10.kids]]) (F := ownA (sl b2) 26 .val [(.func (.func 77) #[] #[]), (.func (.func 77) #[] #[])] :: F) rfl fn_77 rfl (F77_ok hG fuel x10 hr11) (sel_perm [] _) ?_)
 refine go ?_
 refine C_cd rfl e1 (fun e1 => ?_) (fun e1 => ?_)
 refine gs ?_
 obtain rfl := so e1
 obtain rfl := so e0
 refine go ?_
 exact rt [0] 0 ⟨rfl, rfl⟩ rfl rfl
 refine go ?_
 obtain ⟨x13,w13,e1⟩:=be e1
 refine W rfl (O_arI rfl rfl rfl (ck_e w13).2 (W_re (congrArg sI (ck_e w13).1) ?_))
 refine go ?_
 exact jmpL x13 e1 (tl [0] 0 rfl rfl)
 obtain ⟨hg14, e1⟩ | ⟨hg14, e1⟩ := bc e1
 refine W rfl (O_load_opt (k := .val) (i := 1) (j := 0) ty1_26 rfl (vix hg14) rfl rfl ?_)
 refine go ?_
 refine gs ?_
 obtain ⟨x15,w15,e1⟩:=be e1
 refine W rfl (O_indexAddr (k := .node) (z := x15) tyL_22 rfl rfl (idx_e w15).1 (idx_e w15).2 ?_)
 refine W rfl (O_load_ipt_all (k := .node) tyA_24 rfl ?_)
 obtain ⟨r16,hr16,e1⟩:=be e1
 refine W rfl (O_callV0 (ss := [.agg [sI x15.kind, sS x15.text, sS x15.trail, .isl .node x15.kids]]) (F := ownA (sl b2) 26 .val [(.func (.func 77) #[] #[]), (.func (.func 77) #[] #[])] :: F) rfl fn_77 rfl (F77_ok hG fuel x15 hr16) (sel_perm [] _) ?_)
 refine go ?_
 refine C_cd rfl e1 (fun e1 => ?_) (fun e1 => ?_)
 refine gs ?_
 obtain rfl := so e1
 obtain rfl := so e0
 refine go ?_
 exact rt [0] 0 ⟨rfl, rfl⟩ rfl rfl
 refine go ?_
 obtain ⟨x18,w18,e1⟩:=be e1
 refine W rfl (O_arI rfl rfl rfl (ck_e w18).2 (W_re (congrArg sI (ck_e w18).1) ?_))
 refine go ?_
 exact jmpL x18 e1 (tl [0] 0 rfl rfl)
 cases e1
 refine go ?_
 obtain rfl := so e1
 exact jmp () rfl (tl [0] 0 rfl rfl)
 rintro ⟨⟩ hi
 subst hi
 have e0 := elim_l e0
 refine gs ?_
 obtain rfl := so e0
 refine go ?_
 exact rt [0] 0 ⟨rfl, rfl⟩ rfl rfl
def F110 (fuel : Nat) (a1 : Tree) (a5 : List Int) : Option (Bool) :=
 (F83 fuel a1 a5).bind fun r7 =>
 some (!r7)
theorem F110_ok {w0 : World} (hG : Globs w0) (fuel : Nat) : ∀ (a1 : Tree) (a5 : List Int) (b2 : Nat) (b3 : Nat) (q4 : Hnd) {r : Bool} (e0 : F110 fuel a1 a5 = some r), Fn w0 prog 110 [.agg [sI a1.kind, sS a1.text, sS a1.trail, .isl .node a1.kids], sP b2 0] [boxA b2 26 [.val (.func (.func 83) #[] #[.pointer (some ⟨b3, 0, none⟩)])], boxA b3 28 [.val (sl q4)], ownA (sl q4) 3 .int a5] (fun s H => s = sB r ∧ H = [boxA b2 26 [.val (.func (.func 83) #[] #[.pointer (some ⟨b3, 0, none⟩)])], boxA b3 28 [.val (sl q4)], ownA (sl q4) 3 .int a5]) := by
 intro a1 a5 b2 b3 q4 r e0
 rw [F110] at e0
 refine fn_intro2 8 [.tmp 3] func110 rfl rfl rfl rfl fun X hX F => ?_
 refine C_turn (T_start [(0, .agg [sI a1.kind, sS a1.text, sS a1.trail, .isl .node a1.kids]), (1, sP b2 0)] rfl (boxA b2 26 [.val (.func (.func 83) #[] #[.pointer (some ⟨b3, 0, none⟩)])] :: boxA b3 28 [.val (sl q4)] :: ownA (sl q4) 3 .int a5 :: F) rfl) ?_
 refine gs ?_
 refine W rfl (O_box rfl rfl fun b6 => ?_)
 refine go ?_
 refine gs ?_
 obtain ⟨r7,hr7,e0⟩:=be e0
 refine W rfl (O_callV0 (ss := [.agg [sI a1.kind, sS a1.text, sS a1.trail, .isl .node a1.kids]]) (F := bx1 b6 a1.kind a1.text a1.trail a1.kids :: boxA b2 26 [.val (.func (.func 83) #[] #[.pointer (some ⟨b3, 0, none⟩)])] :: F) rfl fn_83 rfl (F83_ok hG fuel a1 a5 b3 q4 hr7) (sel_perm [2, 2] _) ?_)
 refine go ?_
 obtain rfl := so e0
 refine go ?_
 exact rt [3, 0, 0] 1 ⟨rfl, rfl⟩ rfl rfl
def F130_l7 (fuel : Nat) (a1 : List Tree) (a5 : List Int) : Nat → Int → Option ((Unit ⊕ Int))
 | 0, _ => none
 | n + 1, y8 =>
 bif (decide (y8 < (a1.length : Int))) then (
 (idx a1 y8).bind fun x10 =>
 (F110 fuel x10 a5).bind fun r11 =>
 bif r11 then (
 some (.inr y8)) else (
 (ck (y8 + (1 : Int))).bind fun x13 =>
 F130_l7 fuel a1 a5 n x13)) else (
 some (.inl ()))
def F130 (fuel : Nat) (a1 : List Tree) (a5 : List Int) : Option (Int) :=
 Option.bind (α := (Unit ⊕ Int)) (
 F130_l7 fuel a1 a5 fuel (0 : Int)) (Sum.elim (fun i6 =>
 some (-1 : Int)) (fun z => some z))
theorem F130_ok {w0 : World} (hG : Globs w0) (fuel : Nat) : ∀ (a1 : List Tree) (a5 : List Int) (b2 : Nat) (b3 : Nat) (q4 : Hnd) {r : Int} (e0 : F130 fuel a1 a5 = some r), Fn w0 prog 130 [.isl .node a1, .val (.func (.func 110) #[] #[.pointer (some ⟨b2, 0, none⟩)])] [boxA b2 26 [.val (.func (.func 83) #[] #[.pointer (some ⟨b3, 0, none⟩)])], boxA b3 28 [.val (sl q4)], ownA (sl q4) 3 .int a5] (fun s H => s = sI r ∧ H = [boxA b2 26 [.val (.func (.func 83) #[] #[.pointer (some ⟨b3, 0, none⟩)])], boxA b3 28 [.val (sl q4)], ownA (sl q4) 3 .int a5]) := by
 intro a1 a5 b2 b3 q4 r e0
 rw [F130] at e0
 refine fn_intro2 19 [.tmp 4] func130 rfl rfl rfl rfl fun X hX F => ?_
 refine C_turn (T_start [(0, .isl .node a1), (1, .val (.func (.func 110) #[] #[.pointer (some ⟨b2, 0, none⟩)]))] rfl (boxA b2 26 [.val (.func (.func 83) #[] #[.pointer (some ⟨b3, 0, none⟩)])] :: boxA b3 28 [.val (sl q4)] :: ownA (sl q4) 3 .int a5 :: F) rfl) ?_
 refine gs ?_
 obtain ⟨o6,e1,e0⟩:=be e0
 refine C_cut (ι := Unit) (fun i => []) (fun i => boxA b2 26 [.val (.func (.func 83) #[] #[.pointer (some ⟨b3, 0, none⟩)])] :: boxA b3 28 [.val (sl q4)] :: ownA (sl q4) 3 .int a5 :: F) (fun i => o6 = .inl ()) ?_ ?_
 refine gs ?_
 refine C_loopF (κ := Int) (fun d => [(0, .isl .node a1), (1, .val (.func (.func 110) #[] #[.pointer (some ⟨b2, 0, none⟩)])), (7, sI (a1.length : Int)), (8, sI d)]) (fun d => boxA b2 26 [.val (.func (.func 83) #[] #[.pointer (some ⟨b3, 0, none⟩)])] :: boxA b3 28 [.val (sl q4)] :: ownA (sl q4) 3 .int a5 :: F) (fun n d => F130_l7 fuel a1 a5 n d) o6 fuel (0 : Int) e1 (tl [0, 0, 0] 0 rfl rfl) (fun _ => rfl) ?_
 rintro n y8 hF
 have e1 : F130_l7 fuel a1 a5 (n + 1) y8 = some o6 := hF
 rw [F130_l7] at e1
 clear hF
 refine gs ?_
 refine C_seq ?_
 refine C_cd rfl e1 (fun e1 => ?_) (fun e1 => ?_)
 refine go ?_
 refine gs ?_
 refine gs ?_
 refine gs ?_
 obtain ⟨x10,w10,e1⟩:=be e1
 refine W rfl (O_indexAddr (k := .node) (z := x10) tyL_22 rfl rfl (idx_e w10).1 (idx_e w10).2 ?_)
 refine W rfl (O_load_ipt_all (k := .node) tyA_24 rfl ?_)
 obtain ⟨r11,hr11,e1⟩:=be e1
 refine W rfl (O_callV0 (ss := [.agg [sI x10.kind, sS x10.text, sS x10.trail, .isl .node x10.kids]]) (F := F) rfl fn_110 rfl (F110_ok hG fuel x10 a5 b2 b3 q4 hr11) (sel_perm [0, 0, 0] _) ?_)
 refine go ?_
 refine C_cd rfl e1 (fun e1 => ?_) (fun e1 => ?_)
 refine gs ?_
 obtain rfl := so e1
 obtain rfl := so e0
 refine go ?_
 exact rt [0, 0, 0] 0 ⟨rfl, rfl⟩ rfl rfl
 refine go ?_
 obtain ⟨x13,w13,e1⟩:=be e1
 refine W rfl (O_arI rfl rfl rfl (ck_e w13).2 (W_re (congrArg sI (ck_e w13).1) ?_))
 refine go ?_
 exact jmpL x13 e1 (tl [0, 0, 0] 0 rfl rfl)
 refine go ?_
 obtain rfl := so e1
 exact jmp () rfl (tl [0, 0, 0] 0 rfl rfl)
 rintro ⟨⟩ hi
 subst hi
 have e0 := elim_l e0
 refine gs ?_
 obtain rfl := so e0
 refine go ?_
 exact rt [0, 0, 0] 0 ⟨rfl, rfl⟩ rfl rfl
def F109 (fuel : Nat) (a1 : List Tree) (a5 : List Int) : Option (Bool) :=
 (F130 fuel a1 a5).bind fun r6 =>
 some (decide (r6 ≥ (0 : Int)))
theorem F109_ok {w0 : World} (hG : Globs w0) (fuel : Nat) : ∀ (a1 : List Tree) (a5 : List Int) (b2 : Nat) (b3 : Nat) (q4 : Hnd) {r : Bool} (e0 : F109 fuel a1 a5 = some r), Fn w0 prog 109 [.isl .node a1, .val (.func (.func 110) #[] #[.pointer (some ⟨b2, 0, none⟩)])] [boxA b2 26 [.val (.func (.func 83) #[] #[.pointer (some ⟨b3, 0, none⟩)])], boxA b3 28 [.val (sl q4)], ownA (sl q4) 3 .int a5] (fun s H => s = sB r ∧ H = [boxA b2 26 [.val (.func (.func 83) #[] #[.pointer (some ⟨b3, 0, none⟩)])], boxA b3 28 [.val (sl q4)], ownA (sl q4) 3 .int a5]) := by
 intro a1 a5 b2 b3 q4 r e0
 rw [F109] at e0
 refine fn_intro2 9 [.tmp 4] func109 rfl rfl rfl rfl fun X hX F => ?_
 refine C_turn (T_start [(0, .isl .node a1), (1, .val (.func (.func 110) #[] #[.pointer (some ⟨b2, 0, none⟩)]))] rfl (boxA b2 26 [.val (.func (.func 83) #[] #[.pointer (some ⟨b3, 0, none⟩)])] :: boxA b3 28 [.val (sl q4)] :: ownA (sl q4) 3 .int a5 :: F) rfl) ?_
 refine gs ?_
 refine gs ?_
 obtain ⟨r6,hr6,e0⟩:=be e0
 refine W rfl (O_call0 (F := F) fn_130 rfl (F130_ok hG fuel a1 a5 b2 b3 q4 hr6) (sel_perm [0, 0, 0] _) ?_)
 refine go ?_
 obtain rfl := so e0
 refine go ?_
 exact rt [0, 0, 0] 0 ⟨rfl, rfl⟩ rfl rfl
def F79 (fuel : Nat) (a1 : List Tree) (a4 : List Int) : Option (Bool) :=
 (F109 fuel a1 a4).bind fun r6 =>
 some (!r6)
theorem F79_ok {w0 : World} (hG : Globs w0) (fuel : Nat) : ∀ (a1 : List Tree) (a4 : List Int) (b2 : Nat) (q3 : Hnd) {r : Bool} (e0 : F79 fuel a1 a4 = some r), Fn w0 prog 79 [.isl .node a1, .val (.func (.func 83) #[] #[.pointer (some ⟨b2, 0, none⟩)])] [boxA b2 28 [.val (sl q3)], ownA (sl q3) 3 .int a4] (fun s H => s = sB r ∧ H = [boxA b2 28 [.val (sl q3)], ownA (sl q3) 3 .int a4]) := by
 intro a1 a4 b2 q3 r e0
 rw [F79] at e0
 refine fn_intro2 9 [.tmp 4] func79 rfl rfl rfl rfl fun X hX F => ?_
 refine C_turn (T_start [(0, .isl .node a1), (1, .val (.func (.func 83) #[] #[.pointer (some ⟨b2, 0, none⟩)]))] rfl (boxA b2 28 [.val (sl q3)] :: ownA (sl q3) 3 .int a4 :: F) rfl) ?_
 refine gs ?_
 refine W rfl (O_box rfl rfl fun b5 => ?_)
 refine go ?_
 refine gs ?_
 refine W rfl (O_makeFunc (vs := []) (us := [.pointer (some ⟨b5, 0, none⟩)]) rfl rfl ?_)
 obtain ⟨r6,hr6,e0⟩:=be e0
 refine W rfl (O_call0 (F := F) fn_109 rfl (F109_ok hG fuel a1 a4 b5 b2 q3 hr6) (sel_perm [0, 0, 0] _) ?_)
 refine go ?_
 obtain rfl := so e0
 refine go ?_
 exact rt [1, 1] 1 ⟨rfl, rfl⟩ rfl rfl
def F80 (fuel : Nat) (a1 : Tree) : Option (Bool) :=
 (F60 fuel [(5 : Int), (8 : Int), (17 : Int), (18 : Int), (19 : Int), (20 : Int), (21 : Int), (22 : Int), (23 : Int), (24 : Int), (25 : Int)]).bind fun r4 =>
 (F83 fuel a1 [(5 : Int), (8 : Int), (17 : Int), (18 : Int), (19 : Int), (20 : Int), (21 : Int), (22 : Int), (23 : Int), (24 : Int), (25 : Int)]).bind fun r6 =>
 some r6
theorem F80_ok {w0 : World} (hG : Globs w0) (fuel : Nat) : ∀ (a1 : Tree) {r : Bool} (e0 : F80 fuel a1 = some r), Fn w0 prog 80 [.agg [sI a1.kind, sS a1.text, sS a1.trail, .isl .node a1.kids]] [] (fun s H => s = sB r ∧ H = []) := by
 intro a1 r e0
 rw [F80] at e0
 refine fn_intro2 7 [.tmp 2] func80 rfl rfl rfl rfl fun X hX F => ?_
 refine C_turn (T_start [(0, .agg [sI a1.kind, sS a1.text, sS a1.trail, .isl .node a1.kids])] rfl (F) rfl) ?_
 refine gs ?_
 refine W rfl (O_box rfl rfl fun b2 => ?_)
 refine go ?_
 refine C_seq ?_
 refine C_draw2 [(0,nw),(2,pu),(1, .take),(3,mn),(4,fr)] [false] [] (bx1 b2 a1.kind a1.text a1.trail a1.kids :: F) rfl rfl rfl (by kernel_rfl) rfl ?_
 refine D_new rfl rfl ⟨0, Hnd, fun q3 => .val (sl q3), fun q3 => ownA (sl q3) 3 .int [(5 : Int),(8 : Int),(17 : Int),(18 : Int),(19 : Int),(20 : Int),(21 : Int),(22 : Int),(23 : Int),(24 : Int),(25 : Int)]⟩ rfl (fun G => A_build 3 8 .int [(5 : Int),(8 : Int),(17 : Int),(18 : Int),(19 : Int),(20 : Int),(21 : Int),(22 : Int),(23 : Int),(24 : Int),(25 : Int)] (ss := [(0, sI (5 : Int)),(1, sI (8 : Int)),(2, sI (17 : Int)),(3, sI (18 : Int)),(4, sI (19 : Int)),(5, sI (20 : Int)),(6, sI (21 : Int)),(7, sI (22 : Int)),(8, sI (23 : Int)),(9, sI (24 : Int)),(10, sI (25 : Int))]) tyE_28 tyZ_3 rfl rfl rfl rfl rfl rfl fun q3 => ⟨q3, rfl, rfl⟩) ?_
 refine gd ?_
 obtain ⟨r4,hr4,e0⟩:=be e0
 refine D_take _ _ rfl rfl rfl (fun q3 => ?_)
 refine D_mainX rfl fun G => O_call1 (F := ((bx1 b2 a1.kind a1.text a1.trail a1.kids :: F) ++ G)) fn_60 rfl (F60_ok hG fuel [(5 : Int),(8 : Int),(17 : Int),(18 : Int),(19 : Int),(20 : Int),(21 : Int),(22 : Int),(23 : Int),(24 : Int),(25 : Int)] q3 hr4) (sel_perm [0] _) fun b5 => (D_end ?_)
 obtain ⟨r6,hr6,e0⟩:=be e0
 refine D_main rfl (D_mainX rfl fun G => O_callV0 (ss := [.agg [sI a1.kind, sS a1.text, sS a1.trail, .isl .node a1.kids]]) (F := ((bx1 b2 a1.kind a1.text a1.trail a1.kids :: F) ++ G)) (lk rfl rfl) fn_83 rfl (F83_ok hG fuel a1 [(5 : Int),(8 : Int),(17 : Int),(18 : Int),(19 : Int),(20 : Int),(21 : Int),(22 : Int),(23 : Int),(24 : Int),(25 : Int)] b5 q3 hr6) (sel_perm [1, 0] _) (D_end ?_))
 refine gd ?_
 refine D_nil ?_
 refine go ?_
 obtain rfl := so e0
 refine go ?_
 exact rt [] 3 ⟨rfl, rfl⟩ rfl rfl
def F110v1 (fuel : Nat) (a1 : Tree) : Option (Bool) :=
 (F80 fuel a1).bind fun r4 =>
 some (!r4)
theorem F110v1_ok {w0 : World} (hG : Globs w0) (fuel : Nat) : ∀ (a1 : Tree) (b2 : Nat) {r : Bool} (e0 : F110v1 fuel a1 = some r), Fn w0 prog 110 [.agg [sI a1.kind, sS a1.text, sS a1.trail, .isl .node a1.kids], sP b2 0] [boxA b2 26 [.val (.func (.func 80) #[] #[])]] (fun s H => s = sB r ∧ H = [boxA b2 26 [.val (.func (.func 80) #[] #[])]]) := by
 intro a1 b2 r e0
 rw [F110v1] at e0
 refine fn_intro2 8 [.tmp 3] func110 rfl rfl rfl rfl fun X hX F => ?_
 refine C_turn (T_start [(0, .agg [sI a1.kind, sS a1.text, sS a1.trail, .isl .node a1.kids]), (1, sP b2 0)] rfl (boxA b2 26 [.val (.func (.func 80) #[] #[])] :: F) rfl) ?_
 refine gs ?_
 refine W rfl (O_box rfl rfl fun b3 => ?_)
 refine go ?_
 refine gs ?_
 obtain ⟨r4,hr4,e0⟩:=be e0
 refine W rfl (O_callV0 (ss := [.agg [sI a1.kind, sS a1.text, sS a1.trail, .isl .node a1.kids]]) (F := bx1 b3 a1.kind a1.text a1.trail a1.kids :: boxA b2 26 [.val (.func (.func 80) #[] #[])] :: F) rfl fn_80 rfl (F80_ok hG fuel a1 hr4) (sel_perm [] _) ?_)
 refine go ?_
 obtain rfl := so e0
 refine go ?_
 exact rt [1] 1 ⟨rfl, rfl⟩ rfl rfl
def F130v1_l4 (fuel : Nat) (a1 : List Tree) : Nat → Int → Option ((Unit ⊕ Int))
 | 0, _ => none
 | n + 1, y5 =>
 bif (decide (y5 < (a1.length : Int))) then (
 (idx a1 y5).bind fun x7 =>
 (F110v1 fuel x7).bind fun r8 =>
 bif r8 then (
 some (.inr y5)) else (
 (ck (y5 + (1 : Int))).bind fun x10 =>
 F130v1_l4 fuel a1 n x10)) else (
 some (.inl ()))
def F130v1 (fuel : Nat) (a1 : List Tree) : Option (Int) :=
 Option.bind (α := (Unit ⊕ Int)) (
 F130v1_l4 fuel a1 fuel (0 : Int)) (Sum.elim (fun i3 =>
 some (-1 : Int)) (fun z => some z))
theorem F130v1_ok {w0 : World} (hG : Globs w0) (fuel : Nat) : ∀ (a1 : List Tree) (b2 : Nat) {r : Int} (e0 : F130v1 fuel a1 = some r), Fn w0 prog 130 [.isl .node a1, .val (.func (.func 110) #[] #[.pointer (some ⟨b2, 0, none⟩)])] [boxA b2 26 [.val (.func (.func 80) #[] #[])]] (fun s H => s = sI r ∧ H = [boxA b2 26 [.val (.func (.func 80) #[] #[])]]) := by
 intro a1 b2 r e0
 rw [F130v1] at e0
 refine fn_intro2 19 [.tmp 4] func130 rfl rfl rfl rfl fun X hX F => ?_
 refine C_turn (T_start [(0, .isl .node a1), (1, .val (.func (.func 110) #[] #[.pointer (some ⟨b2, 0, none⟩)]))] rfl (boxA b2 26 [.val (.func (.func 80) #[] #[])] :: F) rfl) ?_
 refine gs ?_
 obtain ⟨o3,e1,e0⟩:=be e0
 refine C_cut (ι := Unit) (fun i => []) (fun i => boxA b2 26 [.val (.func (.func 80) #[] #[])] :: F) (fun i => o3 = .inl ()) ?_ ?_
 refine gs ?_
 refine C_loopF (κ := Int) (fun d => [(0, .isl .node a1), (1, .val (.func (.func 110) #[] #[.pointer (some ⟨b2, 0, none⟩)])), (7, sI (a1.length : Int)), (8, sI d)]) (fun d => boxA b2 26 [.val (.func (.func 80) #[] #[])] :: F) (fun n d => F130v1_l4 fuel a1 n d) o3 fuel (0 : Int) e1 (tl [0] 0 rfl rfl) (fun _ => rfl) ?_
 rintro n y5 hF
 have e1 : F130v1_l4 fuel a1 (n + 1) y5 = some o3 := hF
 rw [F130v1_l4] at e1
 clear hF
 refine gs ?_
 refine C_seq ?_
 refine C_cd rfl e1 (fun e1 => ?_) (fun e1 => ?_)
 refine go ?_
 refine gs ?_
 refine gs ?_
 refine gs ?_
 obtain ⟨x7,w7,e1⟩:=be e1
 refine W rfl (O_indexAddr (k := .node) (z := x7) tyL_22 rfl rfl (idx_e w7).1 (idx_e w7).2 ?_)
 refine W rfl (O_load_ipt_all (k := .node) tyA_24 rfl ?_)
 obtain ⟨r8,hr8,e1⟩:=be e1
 refine W rfl (O_callV0 (ss := [.agg [sI x7.kind, sS x7.text, sS x7.trail, .isl .node x7.kids]]) (F := F) rfl fn_110 rfl (F110v1_ok hG fuel x7 b2 hr8) (sel_perm [0] _) ?_)
 refine go ?_
 refine C_cd rfl e1 (fun e1 => ?_) (fun e1 => ?_)
 refine gs ?_
 obtain rfl := so e1
 obtain rfl := so e0
 refine go ?_
 exact rt [0] 0 ⟨rfl, rfl⟩ rfl rfl
 refine go ?_
 obtain ⟨x10,w10,e1⟩:=be e1
 refine W rfl (O_arI rfl rfl rfl (ck_e w10).2 (W_re (congrArg sI (ck_e w10).1) ?_))
 refine go ?_
 exact jmpL x10 e1 (tl [0] 0 rfl rfl)
 refine go ?_
 obtain rfl := so e1
 exact jmp () rfl (tl [0] 0 rfl rfl)
 rintro ⟨⟩ hi
 subst hi
 have e0 := elim_l e0
 refine gs ?_
 obtain rfl := so e0
 refine go ?_
 exact rt [0] 0 ⟨rfl, rfl⟩ rfl rfl
def F109v1 (fuel : Nat) (a1 : List Tree) : Option (Bool) :=
 (F130v1 fuel a1).bind fun r3 =>
 some (decide (r3 ≥ (0 : Int)))
theorem F109v1_ok {w0 : World} (hG : Globs w0) (fuel : Nat) : ∀ (a1 : List Tree) (b2 : Nat) {r : Bool} (e0 : F109v1 fuel a1 = some r), Fn w0 prog 109 [.isl .node a1, .val (.func (.func 110) #[] #[.pointer (some ⟨b2, 0, none⟩)])] [boxA b2 26 [.val (.func (.func 80) #[] #[])]] (fun s H => s = sB r ∧ H = [boxA b2 26 [.val (.func (.func 80) #[] #[])]]) := by
 intro a1 b2 r e0
 rw [F109v1] at e0
 refine fn_intro2 9 [.tmp 4] func109 rfl rfl rfl rfl fun X hX F => ?_
 refine C_turn (T_start [(0, .isl .node a1), (1, .val (.func (.func 110) #[] #[.pointer (some ⟨b2, 0, none⟩)]))] rfl (boxA b2 26 [.val (.func (.func 80) #[] #[])] :: F) rfl) ?_
 refine gs ?_
 refine gs ?_
 obtain ⟨r3,hr3,e0⟩:=be e0
 refine W rfl (O_call0 (F := F) fn_130 rfl (F130v1_ok hG fuel a1 b2 hr3) (sel_perm [0] _) ?_)
 refine go ?_
 obtain rfl := so e0
 refine go ?_
 exact rt [0] 0 ⟨rfl, rfl⟩ rfl rfl
def F79v1 (fuel : Nat) (a1 : List Tree) : Option (Bool) :=
 (F109v1 fuel a1).bind fun r3 =>
 some (!r3)
theorem F79v1_ok {w0 : World} (hG : Globs w0) (fuel : Nat) : ∀ (a1 : List Tree) {r : Bool} (e0 : F79v1 fuel a1 = some r), Fn w0 prog 79 [.isl .node a1, .val (.func (.func 80) #[] #[])] [] (fun s H => s = sB r ∧ H = []) := by
 intro a1 r e0
 rw [F79v1] at e0
 refine fn_intro2 9 [.tmp 4] func79 rfl rfl rfl rfl fun X hX F => ?_
 refine C_turn (T_start [(0, .isl .node a1), (1, .val (.func (.func 80) #[] #[]))] rfl (F) rfl) ?_
 refine gs ?_
 refine W rfl (O_box rfl rfl fun b2 => ?_)
 refine go ?_
 refine gs ?_
 refine W rfl (O_makeFunc (vs := []) (us := [.pointer (some ⟨b2, 0, none⟩)]) rfl rfl ?_)
 obtain ⟨r3,hr3,e0⟩:=be e0
 refine W rfl (O_call0 (F := F) fn_109 rfl (F109v1_ok hG fuel a1 b2 hr3) (sel_perm [0] _) ?_)
 refine go ?_
 obtain rfl := so e0
 refine go ?_
 exact rt [] 1 ⟨rfl, rfl⟩ rfl rfl
def F74v5_l11 (fuel : Nat) (a1 : List Tree) (a5 : List Int) (a8 : List Int) : Nat → Int → Option ((Unit ⊕ Bool))
 | 0, _ => none
 | n + 1, y12 =>
 bif (decide (y12 < (3 : Int))) then (
 if 0 ≤ y12 ∧ y12 < ((3 : Nat) : Int) then (
 bif (y12 == (0 : Int)) then (
 (idx a1 y12).bind fun x16 =>
 (F75 fuel x16).bind fun r17 =>
 bif (!r17) then (
 some (.inr false)) else (
 (ck (y12 + (1 : Int))).bind fun x19 =>
 F74v5_l11 fuel a1 a5 a8 n x19)) else (
 bif (y12 == (1 : Int)) then (
 (idx a1 y12).bind fun x21 =>
 (F83 fuel x21 a5).bind fun r22 =>
 bif (!r22) then (
 some (.inr false)) else (
 (ck (y12 + (1 : Int))).bind fun x24 =>
 F74v5_l11 fuel a1 a5 a8 n x24)) else (
 bif (y12 == (2 : Int)) then (
 (idx a1 y12).bind fun x26 =>
 (F83 fuel x26 a8).bind fun r27 =>
 bif (!r27) then (
 some (.inr false)) else (
 (ck (y12 + (1 : Int))).bind fun x29 =>
 F74v5_l11 fuel a1 a5 a8 n x29)) else (
 none)))) else none) else (
 some (.inl ()))
def F74v5 (fuel : Nat) (a1 : List Tree) (a5 : List Int) (a8 : List Int) : Option (Bool) :=
 bif ((a1.length : Int) != (3 : Int)) then (
 some false) else (
 Option.bind (α := (Unit ⊕ Bool)) (
 F74v5_l11 fuel a1 a5 a8 fuel (0 : Int)) (Sum.elim (fun i10 =>
 some true) (fun z => some z)))
end Go.Proofs.YtabojfgmbfnoiaaGreatDoor
end
