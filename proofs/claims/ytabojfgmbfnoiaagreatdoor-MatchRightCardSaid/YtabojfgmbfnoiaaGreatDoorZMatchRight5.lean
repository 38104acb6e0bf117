/- Proof of MatchRight, part 5 of 6: what the functions compute, and that it answers. -/
import Derived.Test.YtabojfgmbfnoiaaGreatDoorZMatchRight4
import Derived.KernelRfl
import Derived.Shelf.Unicode.DecodeSlow
section
/- What the functions compute, and that they do (3). GENERATED. -/
set_option linter.unusedVariables false
set_option maxRecDepth 100000
set_option maxHeartbeats 4000000
namespace Go.Proofs.YtabojfgmbfnoiaaGreatDoor
open Go.Proofs.Tryz
theorem F10_ok {w0 : World} (hG : Globs w0) (fuel : Nat) : ∀ (a1 : Tree) (a2 : Tree) {r : (List (Int × Int)) × Int} (e0 : F10 fuel a1 a2 = some r), Fn w0 prog 10 [.agg [sI a1.kind, sS a1.text, sS a1.trail, .isl .node a1.kids], .agg [sI a2.kind, sS a2.text, sS a2.trail, .isl .node a2.kids]] [] (fun s H => s = .tup [.isl .pair r.1, sI r.2] ∧ H = []) := by
 intro a1 a2 r e0
 rw [F10] at e0
 refine fn_intro2 149 [.tmp 4, .tmp 5] func10 rfl rfl rfl rfl fun X hX F => ?_
 refine C_turn (T_start [(0, .agg [sI a1.kind, sS a1.text, sS a1.trail, .isl .node a1.kids]),(1, .agg [sI a2.kind, sS a2.text, sS a2.trail, .isl .node a2.kids])] rfl (F) rfl) ?_
 refine gs ?_
 refine W rfl (O_box rfl rfl fun b3 => ?_)
 refine W rfl (O_box rfl rfl fun b4 => ?_)
 refine go ?_
 refine C_seq ?_
 refine C_draw2 [(0,pu),(2,pu),(1,mn),(3,mn),(4,fr),(5,nw),(6, .take)] [false, false] [] (bx1 b4 a2.kind a2.text a2.trail a2.kids :: bx1 b3 a1.kind a1.text a1.trail a1.kids :: F) rfl rfl rfl (by kernel_rfl) rfl ?_
 refine gd ?_
 obtain ⟨r5,hr5,e0⟩:=be e0
 refine D_main rfl (D_mainX rfl fun G => O_callP fn_23 rfl (F23_ok hG fuel a1 hr5) (D_end ?_))
 obtain ⟨r6,hr6,e0⟩:=be e0
 refine D_main rfl (D_mainX rfl fun G => O_callP fn_23 rfl (F23_ok hG fuel a2 hr6) (D_end ?_))
 refine D_free rfl rfl (fun G => O_build (ss := [(0, .agg [.isl .node r5.1, .isl .int r5.2.1, .isl .int r5.2.2.1, .isl .ints r5.2.2.2]),(1, .agg [.isl .node r6.1, .isl .int r6.2.1, .isl .int r6.2.2.1, .isl .ints r6.2.2.2])]) tyZ_53 tyP_53 rfl rfl rfl ⟨rfl, rfl⟩) ?_
 refine D_new rfl rfl ⟨5, Nat, fun b7 => sP b7 0, fun b7 => boxA b7 53 [.isl .node r5.1, .isl .int r5.2.1, .isl .int r5.2.2.1, .isl .ints r5.2.2.2, .isl .node r6.1, .isl .int r6.2.1, .isl .int r6.2.2.1, .isl .ints r6.2.2.2, .val (.slice none 0 0), .val (.slice none 0 0), .val (.slice none 0 0), .val (.slice none 0 0)]⟩ rfl (fun G => O_box (lk rfl rfl) rfl fun b7 => ⟨b7, rfl, rfl⟩) ?_
 refine D_take _ _ rfl rfl rfl (fun b7 => ?_)
 refine D_mainX rfl fun G => O_assign (lk rfl rfl) (D_end ?_)
 refine D_nil ?_
 refine C_seq ?_
 obtain ⟨i8,e1,e0⟩:=be e0
 refine C_cut (ι := Bool) (fun i => [(2, sP b3 0),(3, sP b4 0),(6, sP b7 0),(33, sB i)]) (fun i => bx1 b3 a1.kind a1.text a1.trail a1.kids :: bx1 b4 a2.kind a2.text a2.trail a2.kids :: boxA b7 53 [.isl .node r5.1, .isl .int r5.2.1, .isl .int r5.2.2.1, .isl .ints r5.2.2.2, .isl .node r6.1, .isl .int r6.2.1, .isl .int r6.2.2.1, .isl .ints r6.2.2.2, .val (.slice none 0 0), .val (.slice none 0 0), .val (.slice none 0 0), .val (.slice none 0 0)] :: F) (fun i => i8 = i) ?_ ?_
 refine go ?_
 obtain ⟨hg9, e1⟩ | ⟨hg9, e1⟩ := bc e1
 refine go ?_
 exact jm e1 (tl [2, 1, 0] 0 rfl rfl)
 refine Wt rfl rfl rfl hg9 rfl rfl (O_move rfl ?_)
 refine Wt rfl rfl rfl hg9 rfl rfl (O_nilCheck rfl (ptr_val _) ?_)
 refine Wt rfl rfl rfl hg9 rfl rfl (O_fieldAddr tyF_53_1 rfl ?_)
 refine Wt rfl rfl rfl hg9 rfl rfl (O_fieldAddr tyF_50_0 rfl ?_)
 refine Wt rfl rfl rfl hg9 rfl rfl (O_load ty1_22 rfl rfl ?_)
 refine Wt rfl rfl rfl hg9 rfl rfl (O_len_isl tyl_22 rfl ?_)
 refine Wt rfl rfl rfl hg9 rfl rfl (O_cmp rfl rfl rfl ?_)
 refine go ?_
 exact jm e1 (tl [2, 1, 0] 0 rfl rfl)
 rintro z hi
 subst hi
 refine C_cd rfl e0 (fun e0 => ?_) (fun e0 => ?_)
 refine gs ?_
 obtain rfl := so e0
 refine go ?_
 exact ret_ok (Turn.trans (T_imp 4 rfl (RepImp.nil .pair)) (T_le (E' := [(4, .isl .pair []),(5, sI (2 : Int))]) (.mk [] 3 rfl ⟨rfl, rfl, trivial⟩))) [] 0 [.isl .pair [], sI (2 : Int)] [] (.tmp (t := 4) _ rfl (.tmp (t := 5) _ rfl .nil)) rfl ⟨rfl, rfl⟩
 refine go ?_
 refine C_seq ?_
 refine gs ?_
 refine C_cd rfl e0 (fun e0 => ?_) (fun e0 => ?_)
 refine gs ?_
 obtain rfl := so e0
 refine go ?_
 exact ret_ok (Turn.trans (T_imp 4 rfl (RepImp.nil .pair)) (T_le (E' := [(4, .isl .pair []),(5, sI (0 : Int))]) (.mk [] 3 rfl ⟨rfl, rfl, trivial⟩))) [] 0 [.isl .pair [], sI (0 : Int)] [] (.tmp (t := 4) _ rfl (.tmp (t := 5) _ rfl .nil)) rfl ⟨rfl, rfl⟩
 refine go ?_
 refine gs ?_
 refine W rfl (A_build 24 64 .node [a1, a2] (ss := [(0, .agg [sI a1.kind, sS a1.text, sS a1.trail, .isl .node a1.kids]),(1, .agg [sI a2.kind, sS a2.text, sS a2.trail, .isl .node a2.kids])]) tyE_22 tyZ_24 rfl rfl rfl rfl rfl rfl fun q12 => ?_)
 obtain ⟨r13,hr13,e0⟩:=be e0
 refine W rfl (O_call0 (F := bx1 b3 a1.kind a1.text a1.trail a1.kids :: bx1 b4 a2.kind a2.text a2.trail a2.kids :: boxA b7 53 [.isl .node r5.1, .isl .int r5.2.1, .isl .int r5.2.2.1, .isl .ints r5.2.2.2, .isl .node r6.1, .isl .int r6.2.1, .isl .int r6.2.2.1, .isl .ints r6.2.2.2, .val (.slice none 0 0), .val (.slice none 0 0), .val (.slice none 0 0), .val (.slice none 0 0)] :: F) fn_24 rfl (F24_ok hG fuel [a1, a2] q12 hr13) (sel_perm [0] _) ?_)
 refine go ?_
 refine C_seq ?_
 refine C_draw2 [(0,fr),(1,fr),(2,fr),(3,fr),(4,fr),(5,fr),(6,fr),(7,fr),(8,fr),(9,fr),(10,mn),(11,fr),(12,fr),(13,mn)] [false, false, false, true] [boxA b7 53 [.isl .node r5.1, .isl .int r5.2.1, .isl .int r5.2.2.1, .isl .ints r5.2.2.2, .isl .node r6.1, .isl .int r6.2.1, .isl .int r6.2.2.1, .isl .ints r6.2.2.2, .val (.slice none 0 0), .val (.slice none 0 0), .val (.slice none 0 0), .val (.slice none 0 0)]] (ownA (sl q12) 24 .node [a1, a2] :: bx1 b3 a1.kind a1.text a1.trail a1.kids :: bx1 b4 a2.kind a2.text a2.trail a2.kids :: F) rfl rfl rfl (by kernel_rfl) rfl ?_
 refine gd ?_
 obtain ⟨x14,w14,e0⟩:=be e0
 refine D_free rfl rfl (fun G => O_indexAddr (k := .ints) (z := x14) tyL_29 (lk rfl rfl) (lk rfl rfl) (idx_e w14).1 (idx_e w14).2 ⟨rfl, rfl⟩) ?_
 refine gd ?_
 obtain ⟨x15,w15,e0⟩:=be e0
 refine D_free rfl rfl (fun G => O_indexAddr (k := .ints) (z := x15) tyL_29 (lk rfl rfl) (lk rfl rfl) (idx_e w15).1 (idx_e w15).2 ⟨rfl, rfl⟩) ?_
 refine gd ?_
 refine D_main rfl (D_mainX rfl fun G => S_one [.isl .node r5.1, .isl .int r5.2.1, .isl .int r5.2.2.1, .isl .ints r5.2.2.2, .isl .node r6.1, .isl .int r6.2.1, .isl .int r6.2.2.1, .isl .ints r6.2.2.2, .isl .int x14, .val (.slice none 0 0), .val (.slice none 0 0), .val (.slice none 0 0)] tyS_28 (lk rfl rfl) (lk rfl rfl) rfl rfl rfl (D_end ?_))
 refine gd ?_
 refine D_main rfl (D_mainX rfl fun G => S_one [.isl .node r5.1, .isl .int r5.2.1, .isl .int r5.2.2.1, .isl .ints r5.2.2.2, .isl .node r6.1, .isl .int r6.2.1, .isl .int r6.2.2.1, .isl .ints r6.2.2.2, .isl .int x14, .isl .int x15, .val (.slice none 0 0), .val (.slice none 0 0)] tyS_28 (lk rfl rfl) (lk rfl rfl) rfl rfl rfl (D_end ?_))
 refine D_nil ?_
 refine C_seq ?_
 refine C_draw2 [(0,fr),(1,fr),(2,nw),(3,fr),(4,fr),(5,fr),(6,pu),(7,fr),(9,nw),(10,fr),(11,fr),(12,fr),(13,pu),(14,fr),(8, .take),(15, .take),(16,fr),(17,fr),(18, .open_),(19,fr),(20,fr),(21,mn)] [false, false, false, false] [] (boxA b7 53 [.isl .node r5.1, .isl .int r5.2.1, .isl .int r5.2.2.1, .isl .ints r5.2.2.2, .isl .node r6.1, .isl .int r6.2.1, .isl .int r6.2.2.1, .isl .ints r6.2.2.2, .isl .int x14, .isl .int x15, .val (.slice none 0 0), .val (.slice none 0 0)] :: ownA (sl q12) 24 .node [a1, a2] :: bx1 b3 a1.kind a1.text a1.trail a1.kids :: bx1 b4 a2.kind a2.text a2.trail a2.kids :: F) rfl rfl rfl (by kernel_rfl) rfl ?_
 refine gd ?_
 refine D_new rfl rfl ⟨2, Hnd, fun q16 => .val (sl q16), fun q16 => ownA (sl q16) 3 .int [(-1 : Int)]⟩ rfl (fun G => A_build 3 8 .int [(-1 : Int)] (ss := [(0, sI (-1 : Int))]) tyE_28 tyZ_3 rfl rfl rfl rfl rfl rfl fun q16 => ⟨q16, rfl, rfl⟩) ?_
 refine gd ?_
 refine D_new rfl rfl ⟨9, Hnd, fun q17 => .val (sl q17), fun q17 => ownA (sl q17) 3 .int [(-1 : Int)]⟩ rfl (fun G => A_build 3 8 .int [(-1 : Int)] (ss := [(0, sI (-1 : Int))]) tyE_28 tyZ_3 rfl rfl rfl rfl rfl rfl fun q17 => ⟨q17, rfl, rfl⟩) ?_
 refine gd ?_
 obtain ⟨r18,hr18,e0⟩:=be e0
 refine D_take _ _ rfl rfl rfl (fun q16 => ?_)
 refine D_mainX rfl fun G => O_call1 (F := ((boxA b7 53 [.isl .node r5.1, .isl .int r5.2.1, .isl .int r5.2.2.1, .isl .ints r5.2.2.2, .isl .node r6.1, .isl .int r6.2.1, .isl .int r6.2.2.1, .isl .ints r6.2.2.2, .isl .int x14, .isl .int x15, .val (.slice none 0 0), .val (.slice none 0 0)] :: ownA (sl q12) 24 .node [a1, a2] :: bx1 b3 a1.kind a1.text a1.trail a1.kids :: bx1 b4 a2.kind a2.text a2.trail a2.kids :: F) ++ G)) fn_25 rfl (Fn.thaw (v := sl q16) (k := .int) (xs := [(-1 : Int)]) (ety := 3) (ThawL.cons .here (ThawL.cons (.same _) ThawL.nil)) (F25v1_ok hG fuel [(-1 : Int)] (x14.length : Int) hr18)) (sel_perm [0] _) fun q19 => (D_end ?_)
 obtain ⟨r20,hr20,e0⟩:=be e0
 refine D_take _ _ rfl rfl rfl (fun q17 => ?_)
 refine D_mainX rfl fun G => O_call1 (F := ownA (sl q19) 3 .int r18 :: ((boxA b7 53 [.isl .node r5.1, .isl .int r5.2.1, .isl .int r5.2.2.1, .isl .ints r5.2.2.2, .isl .node r6.1, .isl .int r6.2.1, .isl .int r6.2.2.1, .isl .ints r6.2.2.2, .isl .int x14, .isl .int x15, .val (.slice none 0 0), .val (.slice none 0 0)] :: ownA (sl q12) 24 .node [a1, a2] :: bx1 b3 a1.kind a1.text a1.trail a1.kids :: bx1 b4 a2.kind a2.text a2.trail a2.kids :: F) ++ G)) fn_25 rfl (Fn.thaw (v := sl q17) (k := .int) (xs := [(-1 : Int)]) (ety := 3) (ThawL.cons .here (ThawL.cons (.same _) ThawL.nil)) (F25v1_ok hG fuel [(-1 : Int)] (x15.length : Int) hr20)) (sel_perm [0] _) fun q21 => (D_end ?_)
 refine gd ?_
 refine D_open2 (ownA (sl q21) 3 .int r20 :: ownA (sl q19) 3 .int r18 :: boxA b7 53 [.isl .node r5.1, .isl .int r5.2.1, .isl .int r5.2.2.1, .isl .ints r5.2.2.2, .isl .node r6.1, .isl .int r6.2.1, .isl .int r6.2.2.1, .isl .ints r6.2.2.2, .isl .int x14, .isl .int x15, .val (.slice none 0 0), .val (.slice none 0 0)] :: ownA (sl q12) 24 .node [a1, a2] :: bx1 b3 a1.kind a1.text a1.trail a1.kids :: bx1 b4 a2.kind a2.text a2.trail a2.kids :: F) rfl rfl (D_mainX rfl fun G => S_one [.isl .node r5.1, .isl .int r5.2.1, .isl .int r5.2.2.1, .isl .ints r5.2.2.2, .isl .node r6.1, .isl .int r6.2.1, .isl .int r6.2.2.1, .isl .ints r6.2.2.2, .isl .int x14, .isl .int x15, .val (sl q19), .val (.slice none 0 0)] tyS_28 (lk rfl rfl) (lk rfl rfl) rfl rfl rfl (D_end ?_))
 refine gd ?_
 refine D_main rfl (D_mainX rfl fun G => S_one [.isl .node r5.1, .isl .int r5.2.1, .isl .int r5.2.2.1, .isl .ints r5.2.2.2, .isl .node r6.1, .isl .int r6.2.1, .isl .int r6.2.2.1, .isl .ints r6.2.2.2, .isl .int x14, .isl .int x15, .val (sl q19), .val (sl q21)] tyS_28 (lk rfl rfl) (lk rfl rfl) rfl rfl rfl (D_end ?_))
 refine D_nil0 ?_
 obtain ⟨i22,e1,e0⟩:=be e0
 refine C_cut (ι := (List Int × List Int)) (fun i => [(6, sP b7 0)]) (fun i => bx5 b7 r5.1 r5.2.1 r5.2.2.1 r5.2.2.2 r6.1 r6.2.1 r6.2.2.1 r6.2.2.2 x14 x15 q19 q21 :: ownA (sl q19) 3 .int i.1 :: ownA (sl q21) 3 .int i.2 :: F) (fun i => i22 = i) ?_ ?_
 refine C_seq ?_
 refine C_draw2 [(0,fr),(1,fr),(2,fr),(3,pu),(4,fr),(5,fr),(6,fr),(7,fr),(8,fr),(9,pu),(10,fr),(11,fr),(12,fr)] [false, false, false, false, false, false] [] (ownA (sl q21) 3 .int r20 :: ownA (sl q19) 3 .int r18 :: bx5 b7 r5.1 r5.2.1 r5.2.2.1 r5.2.2.2 r6.1 r6.2.1 r6.2.2.1 r6.2.2.2 x14 x15 q19 q21 :: ownA (sl q12) 24 .node [a1, a2] :: bx1 b3 a1.kind a1.text a1.trail a1.kids :: bx1 b4 a2.kind a2.text a2.trail a2.kids :: F) rfl rfl rfl (by kernel_rfl) rfl ?_
 refine gd ?_
 obtain ⟨x23,w23,e1⟩:=be e1
 refine D_free rfl rfl (fun G => O_indexAddr (k := .int) (z := x23) tyL_28 (lk rfl rfl) (lk rfl rfl) (idx_e w23).1 (idx_e w23).2 ⟨rfl, rfl⟩) ?_
 refine gd ?_
 obtain ⟨x24,w24,e1⟩:=be e1
 refine D_free rfl rfl (fun G => O_indexAddr (k := .int) (z := x24) tyL_28 (lk rfl rfl) (lk rfl rfl) (idx_e w24).1 (idx_e w24).2 ⟨rfl, rfl⟩) ?_
 refine gd ?_
 refine D_nil ?_
 refine C_cd rfl e1 (fun e1 => ?_) (fun e1 => ?_)
 refine go ?_
 obtain ⟨r26,hr26,e1⟩:=be e1
 refine W rfl (O_call0 (F := ownA (sl q12) 24 .node [a1, a2] :: bx1 b3 a1.kind a1.text a1.trail a1.kids :: bx1 b4 a2.kind a2.text a2.trail a2.kids :: F) fn_26 rfl (F26_ok hG fuel r5.1 r5.2.1 r5.2.2.1 r5.2.2.2 r6.1 r6.2.1 r6.2.2.1 r6.2.2.2 x14 x15 r18 r20 (0 : Int) (0 : Int) b7 q19 q21 hr26) (sel_perm [2, 1, 0] _) ?_)
 refine go ?_
 exact jm e1 (tl [0, 0, 0] 3 rfl rfl)
 refine gs ?_
 obtain ⟨r27,hr27,e1⟩:=be e1
 refine W rfl (O_call0 (F := ownA (sl q12) 24 .node [a1, a2] :: bx1 b3 a1.kind a1.text a1.trail a1.kids :: bx1 b4 a2.kind a2.text a2.trail a2.kids :: F) fn_27 rfl (F27_ok hG fuel r5.1 r5.2.1 r5.2.2.1 r5.2.2.2 r6.1 r6.2.1 r6.2.2.1 r6.2.2.2 x14 x15 r18 r20 (0 : Int) (0 : Int) b7 q19 q21 hr27) (sel_perm [2, 1, 0] _) ?_)
 refine go ?_
 obtain ⟨i28,e2,e1⟩:=be e1
 refine C_cut (ι := (List Int × List Int)) (fun i => [(6, sP b7 0)]) (fun i => bx5 b7 r5.1 r5.2.1 r5.2.2.1 r5.2.2.2 r6.1 r6.2.1 r6.2.2.1 r6.2.2.2 x14 x15 q19 q21 :: ownA (sl q19) 3 .int i.1 :: ownA (sl q21) 3 .int i.2 :: F) (fun i => i28 = i) ?_ ?_
 obtain ⟨i29,e3,e2⟩:=be e2
 refine C_cut (ι := Bool) (fun i => [(6, sP b7 0),(97, sB i)]) (fun i => bx5 b7 r5.1 r5.2.1 r5.2.2.1 r5.2.2.2 r6.1 r6.2.1 r6.2.2.1 r6.2.2.2 x14 x15 q19 q21 :: ownA (sl q19) 3 .int (r18.set ((0 : Int)).toNat (0 : Int)) :: ownA (sl q21) 3 .int (r20.set ((0 : Int)).toNat (0 : Int)) :: F) (fun i => i29 = i) ?_ ?_
 refine go ?_
 obtain ⟨r30,hr30,e3⟩:=be e3
 refine W rfl (O_callP fn_28 rfl (F28_ok hG fuel a1 hr30) ?_)
 refine go ?_
 obtain ⟨hg31, e3⟩ | ⟨hg31, e3⟩ := bc e3
 refine Wt rfl rfl rfl hg31 rfl rfl (O_load_all tyA_24 rfl rfl ?_)
 obtain ⟨r32,hr32,e3⟩:=be e3
 refine Wt rfl rfl rfl hg31 rfl rfl (O_callP fn_28 rfl (F28_ok hG fuel a2 hr32) ?_)
 refine go ?_
 exact jm e3 (tl [0, 0, 0] 3 rfl rfl)
 refine go ?_
 exact jm e3 (tl [0, 0, 0] 3 rfl rfl)
 rintro z hi
 subst hi
 refine C_cd rfl e2 (fun e2 => ?_) (fun e2 => ?_)
 refine go ?_
 obtain ⟨r34,hr34,e2⟩:=be e2
 refine W rfl (O_call0 (F := F) fn_29 rfl (F29_ok hG fuel r5.1 r5.2.1 r5.2.2.1 r5.2.2.2 r6.1 r6.2.1 r6.2.2.1 r6.2.2.2 x14 x15 (r18.set ((0 : Int)).toNat (0 : Int)) (r20.set ((0 : Int)).toNat (0 : Int)) b7 q19 q21 hr34) (sel_perm [0, 0, 0] _) ?_)
 refine go ?_
 exact jm e2 (tl [0, 0, 0] 0 rfl rfl)
 refine go ?_
 exact jm e2 (tl [0, 0, 0] 0 rfl rfl)
 rintro z hi
 subst hi
 obtain ⟨i35,e2,e1⟩:=be e1
 refine C_cut (ι := (List Int × List Int)) (fun i => [(6, sP b7 0)]) (fun i => bx5 b7 r5.1 r5.2.1 r5.2.2.1 r5.2.2.2 r6.1 r6.2.1 r6.2.2.1 r6.2.2.2 x14 x15 q19 q21 :: ownA (sl q19) 3 .int i.1 :: ownA (sl q21) 3 .int i.2 :: F) (fun i => i35 = i) ?_ ?_
 refine gs ?_
 refine C_loopF (κ := (List Int × List Int × Int)) (fun d => [(6, sP b7 0),(104, sI (x14.length : Int)),(105, sI d.2.2)]) (fun d => bx5 b7 r5.1 r5.2.1 r5.2.2.1 r5.2.2.2 r6.1 r6.2.1 r6.2.2.1 r6.2.2.2 x14 x15 q19 q21 :: ownA (sl q19) 3 .int d.1 :: ownA (sl q21) 3 .int d.2.1 :: F) (fun n d => F10_l36 fuel r5 r6 x14 x15 n d.1 d.2.1 d.2.2) i35 fuel (i28.1, i28.2, (0 : Int)) e2 (tl [0, 0, 0] 0 rfl rfl) (fun _ => rfl) ?_
 rintro n ⟨y44, y45, y46⟩ hF
 have e2 : F10_l36 fuel r5 r6 x14 x15 (n + 1) y44 y45 y46 = some i35 := hF
 rw [F10_l36] at e2
 clear hF
 refine gs ?_
 refine C_seq ?_
 refine C_cd rfl e2 (fun e2 => ?_) (fun e2 => ?_)
 refine go ?_
 obtain ⟨i48,e3,e2⟩:=be e2
 refine C_cut (ι := (List Int × List Int)) (fun i => [(6, sP b7 0),(104, sI (x14.length : Int)),(105, sI y46)]) (fun i => bx5 b7 r5.1 r5.2.1 r5.2.2.1 r5.2.2.2 r6.1 r6.2.1 r6.2.2.1 r6.2.2.2 x14 x15 q19 q21 :: ownA (sl q19) 3 .int i.1 :: ownA (sl q21) 3 .int i.2 :: F) (fun i => i48 = i) ?_ ?_
 refine go ?_
 refine gs ?_
 refine gs ?_
 obtain ⟨x49,w49,e3⟩:=be e3
 refine W rfl (O_indexAddr_own (k := .int) tyL_28 rfl rfl (idx_lt w49).1 (idx_lt w49).2 ?_)
 refine W rfl (O_load_opt (k := .int) (i := (y46).toNat) (j := 0) ty1_3 rfl rfl (idx_e w49).2 rfl ?_)
 refine go ?_
 refine C_cd rfl e3 (fun e3 => ?_) (fun e3 => ?_)
 refine go ?_
 refine W rfl (O_indexAddr_own (k := .int) tyL_28 rfl rfl (idx_lt w49).1 (idx_lt w49).2 ?_)
 refine W rfl (O_load_opt (k := .int) (i := (y46).toNat) (j := 0) ty1_3 rfl rfl (idx_e w49).2 rfl ?_)
 obtain ⟨r51,hr51,e3⟩:=be e3
 refine W rfl (O_call0 (F := F) fn_30 rfl (F30_ok hG fuel r5.1 r5.2.1 r5.2.2.1 r5.2.2.2 r6.1 r6.2.1 r6.2.2.1 r6.2.2.2 x14 x15 y44 y45 y46 x49 b7 q19 q21 hr51) (sel_perm [0, 0, 0] _) ?_)
 refine go ?_
 exact jm e3 (tl [0, 0, 0] 0 rfl rfl)
 refine go ?_
 exact jm e3 (tl [0, 0, 0] 0 rfl rfl)
 rintro z hi
 subst hi
 refine go ?_
 obtain ⟨x52,w52,e2⟩:=be e2
 refine W rfl (O_arI rfl rfl rfl (ck_e w52).2 (W_re (congrArg sI (ck_e w52).1) ?_))
 refine go ?_
 exact jmpL (i48.1, i48.2, x52) e2 (tl [0, 0, 0] 0 rfl rfl)
 refine go ?_
 exact jm e2 (tl [0, 0, 0] 0 rfl rfl)
 rintro z hi
 subst hi
 refine go ?_
 obtain ⟨r53,hr53,e1⟩:=be e1
 refine W rfl (O_call0 (F := F) fn_31 rfl (F31_ok hG fuel r5.1 r5.2.1 r5.2.2.1 r5.2.2.2 r6.1 r6.2.1 r6.2.2.1 r6.2.2.2 x14 x15 i35.1 i35.2 b7 q19 q21 hr53) (sel_perm [0, 0, 0] _) ?_)
 refine go ?_
 exact jm e1 (tl [0, 0, 0] 0 rfl rfl)
 rintro z hi
 subst hi
 refine gs ?_
 obtain ⟨i54,e1,e0⟩:=be e0
 refine C_cut (ι := ((List (Int × Int))) × Hnd) (fun i => [(9, .val (sl i.2))]) (fun i => ownA (sl i.2) 39 .pair i.1 :: F) (fun i => i54 = i.1) ?_ ?_
 refine gs ?_
 refine W rfl (O_len_own tyl_28 rfl ?_)
 refine go ?_
 refine C_loopF (κ := ((List (Int × Int)) × Int) × Hnd) (fun d => [(9, .val (sl d.2)),(132, .val (sl q19)),(133, sI (i22.1.length : Int)),(134, sI d.1.2)]) (fun d => ownA (sl d.2) 39 .pair d.1.1 :: ownA (sl q19) 3 .int i22.1 :: F) (fun n d => F10_l55 fuel i22 n d.1.1 d.1.2) i54 fuel (([], (0 : Int)),(none, 0, 0)) e1 (Turn.trans (T_nil 39 .pair) (tl [0, 1] 2 rfl rfl)) (fun _ => rfl) ?_
 rintro n ⟨⟨y66, y67⟩, q68⟩ hF
 have e1 : F10_l55 fuel i22 (n + 1) y66 y67 = some i54 := hF
 rw [F10_l55] at e1
 clear hF
 refine gs ?_
 refine C_seq ?_
 refine C_cd rfl e1 (fun e1 => ?_) (fun e1 => ?_)
 refine go ?_
 obtain ⟨i70,e2,e1⟩:=be e1
 refine C_cut (ι := ((List (Int × Int))) × Hnd) (fun i => [(9, .val (sl i.2)),(132, .val (sl q19)),(133, sI (i22.1.length : Int)),(134, sI y67)]) (fun i => ownA (sl i.2) 39 .pair i.1 :: ownA (sl q19) 3 .int i22.1 :: F) (fun i => i70 = i.1) ?_ ?_
 refine go ?_
 refine gs ?_
 obtain ⟨x71,w71,e2⟩:=be e2
 refine W rfl (O_indexAddr_own (k := .int) tyL_28 rfl rfl (idx_lt w71).1 (idx_lt w71).2 ?_)
 refine W rfl (O_load_opt (k := .int) (i := (y67).toNat) (j := 0) ty1_3 rfl rfl (idx_e w71).2 rfl ?_)
 refine go ?_
 refine gs ?_
 refine C_cd rfl e2 (fun e2 => ?_) (fun e2 => ?_)
 refine go ?_
 refine W rfl (O_build (ss := [(0, sI y67),(1, sI x71)]) tyZ_39 tyP_39 rfl rfl rfl ?_)
 refine W rfl (A_build 39 16 .pair [(y67, x71)] (ss := [(0, .agg [sI y67, sI x71])]) tyE_25 tyZ_39 rfl rfl rfl rfl rfl rfl fun q73 => ?_)
 obtain ⟨h74, e2⟩ := req_e e2
 refine W rfl (A_own (k := .pair) (by_ := 16) tyE_25 rfl rfl rfl rfl h74 fun q75 => ?_)
 refine go ?_
 obtain rfl := so e2
 exact jmp ((y66 ++ [(y67, x71)]), q75) rfl (tl [0, 0] 0 rfl rfl)
 refine go ?_
 obtain rfl := so e2
 exact jmp (y66, q68) rfl (tl [0, 0] 0 rfl rfl)
 rintro ⟨z, q76⟩ hi
 subst hi
 refine go ?_
 obtain ⟨x77,w77,e1⟩:=be e1
 refine W rfl (O_arI rfl rfl rfl (ck_e w77).2 (W_re (congrArg sI (ck_e w77).1) ?_))
 refine go ?_
 exact jmpL ((i70, x77), q76) e1 (tl [0, 0] 0 rfl rfl)
 refine go ?_
 obtain rfl := so e1
 exact jmp (y66, q68) rfl (tl [0] 1 rfl rfl)
 rintro ⟨z, q78⟩ hi
 subst hi
 refine gs ?_
 obtain rfl := so e0
 refine go ?_
 exact ret_ok (Turn.trans (T_freezeL (sl q78) (k := .pair) (.cons 4 rfl .here (.cons 148 rfl .here (.cons 9 rfl .here .nil)))) (T_le (E' := [(4, .isl .pair i54),(5, sI (0 : Int))]) (.mk [] 0 rfl ⟨rfl, rfl, trivial⟩))) [] 0 [.isl .pair i54, sI (0 : Int)] [] (.tmp (t := 4) _ rfl (.tmp (t := 5) _ rfl .nil)) rfl ⟨rfl, rfl⟩
def F17_l17 (fuel : Nat) (a2 : List (Int × Int)) : Nat → List Int → Int → Option (List Int)
 | 0, _, _ => none
 | n + 1, y23, y24 =>
 bif (decide (y24 < (a2.length : Int))) then (
 (idx a2 y24).bind fun x26 =>
 (idx y23 x26.1).bind fun x27 =>
 (ck (y24 + (1 : Int))).bind fun x28 =>
 F17_l17 fuel a2 n (y23.set (x26.1).toNat x26.2) x28) else (
 some y23)
def F17_l6 (fuel : Nat) (a1 : Int) : Nat → List Int → Int → Option (List Int)
 | 0, _, _ => none
 | n + 1, y11, y12 =>
 bif (decide (y12 < a1)) then (
 (idx y11 y12).bind fun x14 =>
 (ck (y12 + (1 : Int))).bind fun x15 =>
 F17_l6 fuel a1 n (y11.set (y12).toNat (-1 : Int)) x15) else (
 some y11)
def F17 (fuel : Nat) (a1 : Int) (a2 : List (Int × Int)) : Option (List Int) :=
 if 0 ≤ a1 ∧ a1 ≤ a1 ∧ (8 : Int) * a1 ≤ 281474976710656 ∧ a1 ≤ 1000000000 then (
 Option.bind (α := List Int) (
 F17_l6 fuel a1 fuel (List.replicate (a1).toNat (0 : Int)) (0 : Int)) fun i5 =>
 Option.bind (α := List Int) (
 F17_l17 fuel a2 fuel i5 (0 : Int)) fun i16 =>
 some i16) else none
theorem F17_ok {w0 : World} (hG : Globs w0) (fuel : Nat) : ∀ (a1 : Int) (a2 : List (Int × Int)) {r : List Int} (e0 : F17 fuel a1 a2 = some r), Fn w0 prog 17 [sI a1, .isl .pair a2] [] (fun s H => s = .isl .int r ∧ H = []) := by
 intro a1 a2 r e0
 rw [F17] at e0
 refine fn_intro2 37 [.tmp 4] func17 rfl rfl rfl rfl fun X hX F => ?_
 refine C_turn (T_start [(0, sI a1),(1, .isl .pair a2)] rfl (F) rfl) ?_
 refine gs ?_
 refine gs ?_
 obtain ⟨h3, e0⟩ := req_e e0
 refine W rfl (O_make (by_ := 8) (k := .int) (0 : Int) tyE_28 tyZ_3 (RepImpL.cons (RepImp.refl _) RepImpL.nil) rfl rfl h3 fun q4 => ?_)
 refine go ?_
 obtain ⟨i5,e1,e0⟩:=be e0
 refine C_cut (ι := List Int) (fun i => [(1, .isl .pair a2),(5, .val (sl q4))]) (fun i => ownA (sl q4) 3 .int i :: F) (fun i => i5 = i) ?_ ?_
 refine gs ?_
 refine C_loopF (κ := (List Int × Int)) (fun d => [(0, sI a1),(1, .isl .pair a2),(5, .val (sl q4)),(6, sI d.2)]) (fun d => ownA (sl q4) 3 .int d.1 :: F) (fun n d => F17_l6 fuel a1 n d.1 d.2) i5 fuel ((List.replicate (a1).toNat (0 : Int)),(0 : Int)) e1 (tl [0] 0 rfl rfl) (fun _ => rfl) ?_
 rintro n ⟨y11, y12⟩ hF
 have e1 : F17_l6 fuel a1 (n + 1) y11 y12 = some i5 := hF
 rw [F17_l6] at e1
 clear hF
 refine C_seq ?_
 refine gs ?_
 refine C_cd rfl e1 (fun e1 => ?_) (fun e1 => ?_)
 refine go ?_
 refine gs ?_
 obtain ⟨x14,w14,e1⟩:=be e1
 refine W rfl (O_indexAddr_own (k := .int) tyL_28 rfl rfl (idx_lt w14).1 (idx_lt w14).2 ?_)
 refine Wn (O_store_opt (k := .int) (i := (y12).toNat) (j := 0) (z' := (-1 : Int)) tyS_3 rfl rfl rfl rfl rfl (idx_e w14).2 rfl (by decide) ?_)
 refine go ?_
 obtain ⟨x15,w15,e1⟩:=be e1
 refine W rfl (O_arI rfl rfl rfl (ck_e w15).2 (W_re (congrArg sI (ck_e w15).1) ?_))
 refine go ?_
 exact jmpL ((y11.set (y12).toNat (-1 : Int)), x15) e1 (tl [0] 0 rfl rfl)
 refine go ?_
 exact jm e1 (tl [0] 0 rfl rfl)
 rintro z hi
 subst hi
 obtain ⟨i16,e1,e0⟩:=be e0
 refine C_cut (ι := List Int) (fun i => [(5, .val (sl q4))]) (fun i => ownA (sl q4) 3 .int i :: F) (fun i => i16 = i) ?_ ?_
 refine gs ?_
 refine C_loopF (κ := (List Int × Int)) (fun d => [(1, .isl .pair a2),(5, .val (sl q4)),(7, sI d.2)]) (fun d => ownA (sl q4) 3 .int d.1 :: F) (fun n d => F17_l17 fuel a2 n d.1 d.2) i16 fuel (i5, (0 : Int)) e1 (tl [0] 0 rfl rfl) (fun _ => rfl) ?_
 rintro n ⟨y23, y24⟩ hF
 have e1 : F17_l17 fuel a2 (n + 1) y23 y24 = some i16 := hF
 rw [F17_l17] at e1
 clear hF
 refine C_seq ?_
 refine gs ?_
 refine C_cd rfl e1 (fun e1 => ?_) (fun e1 => ?_)
 refine go ?_
 refine gs ?_
 refine C_draw2 [(0,fr),(1,fr),(2,fr),(3,fr),(4,fr),(5,fr),(6,fr),(7,fr),(8,fr),(9,fr),(10,fr),(11,pu),(12, .open_)] [false] [] (ownA (sl q4) 3 .int y23 :: F) rfl rfl rfl (by kernel_rfl) rfl ?_
 refine gd ?_
 obtain ⟨x26,w26,e1⟩:=be e1
 refine D_free rfl rfl (fun G => O_indexAddr (k := .pair) (z := x26) tyL_25 (lk rfl rfl) (lk rfl rfl) (idx_e w26).1 (idx_e w26).2 ⟨rfl, rfl⟩) ?_
 refine D_free rfl rfl (fun G => O_arr_ipt 0 tyR_39 (lk rfl rfl) (lk rfl rfl) rfl ⟨rfl, rfl⟩) ?_
 refine gd ?_
 refine D_free rfl rfl (fun G => O_indexAddr (k := .pair) (z := x26) tyL_25 (lk rfl rfl) (lk rfl rfl) (idx_e w26).1 (idx_e w26).2 ⟨rfl, rfl⟩) ?_
 refine D_free rfl rfl (fun G => O_arr_ipt 1 tyR_39 (lk rfl rfl) (lk rfl rfl) rfl ⟨rfl, rfl⟩) ?_
 refine gd ?_
 obtain ⟨x27,w27,e1⟩:=be e1
 refine D_pure rfl rfl (fun G => O_indexAddr_own (k := .int) tyL_28 (lk rfl rfl) (lk rfl rfl) (idx_lt w27).1 (idx_lt w27).2 ⟨rfl, rfl⟩) ?_
 refine D_open2 (ownA (sl q4) 3 .int y23 :: F) rfl rfl (D_mainX rfl fun G => O_store_opt (k := .int) (i := (x26.1).toNat) (j := 0) (z' := x26.2) tyS_3 (lk rfl rfl) (lk rfl rfl) rfl rfl rfl (idx_e w27).2 rfl (by decide) (D_end ?_))
 refine D_nil0 ?_
 refine go ?_
 obtain ⟨x28,w28,e1⟩:=be e1
 refine W rfl (O_arI rfl rfl rfl (ck_e w28).2 (W_re (congrArg sI (ck_e w28).1) ?_))
 refine go ?_
 exact jmpL ((y23.set (x26.1).toNat x26.2), x28) e1 (tl [0] 0 rfl rfl)
 refine go ?_
 exact jm e1 (tl [0] 0 rfl rfl)
 rintro z hi
 subst hi
 refine gs ?_
 obtain rfl := so e0
 refine go ?_
 exact ret_ok (Turn.trans (T_freezeL (sl q4) (k := .int) (.cons 4 rfl .here (.cons 36 rfl .here (.cons 5 rfl .here .nil)))) (T_le (E' := [(4, .isl .int i16)]) (.mk [] 0 rfl ⟨rfl, trivial⟩))) [] 0 [.isl .int i16] [] (.tmp (t := 4) _ rfl .nil) rfl ⟨rfl, rfl⟩
def F11_l12 (fuel : Nat) (a3 : List (Int × Int)) (r8 : List Tree × List Int × List Int × List (List Int)) (r9 : List Tree × List Int × List Int × List (List Int)) : Nat → (List (Int × Bool)) → Int → Option ((Unit ⊕ Bool))
 | 0, _, _ => none
 | n + 1, y33, y34 =>
 bif (decide (y34 < (a3.length : Int))) then (
 (idx a3 y34).bind fun x36 =>
 Option.bind (α := Bool) (
 bif (decide (x36.1 < (0 : Int))) then (
 some true) else (
 bif (decide (x36.1 ≥ (r8.1.length : Int))) then (
 some true) else (
 bif (decide (x36.2 < (0 : Int))) then (
 some true) else (
 bif (decide (x36.2 ≥ (r9.1.length : Int))) then (
 some true) else (
 bif ((mget y33 x36.2).getD false) then (
 some true) else (
 bif (decide (y34 > (0 : Int))) then (
 (ck (y34 - (1 : Int))).bind fun x45 =>
 (idx a3 x45).bind fun x46 =>
 bif (decide (x46.1 ≥ x36.1)) then (
 some true) else (
 (idx r8.1 x36.1).bind fun x48 =>
 (idx r9.1 x36.2).bind fun x49 =>
 some (x48.kind != x49.kind))) else (
 (idx r8.1 x36.1).bind fun x50 =>
 (idx r9.1 x36.2).bind fun x51 =>
 some (x50.kind != x51.kind)))))))) fun i38 =>
 bif i38 then (
 some (.inr false)) else (
 (ck (y34 + (1 : Int))).bind fun x53 =>
 F11_l12 fuel a3 r8 r9 n (mput y33 x36.2 true) x53)) else (
 some (.inl ()))
def F11 (fuel : Nat) (a1 : Tree) (a2 : Tree) (a3 : List (Int × Int)) : Option (Bool) :=
 (F23 fuel a1).bind fun r8 =>
 (F23 fuel a2).bind fun r9 =>
 Option.bind (α := (Unit ⊕ Bool)) (
 F11_l12 fuel a3 r8 r9 fuel [] (0 : Int)) (Sum.elim (fun i11 =>
 Option.bind (α := Bool) (
 bif (decide ((a3.length : Int) > (0 : Int))) then (
 (idx a3 (0 : Int)).bind fun x56 =>
 some (x56.1 == (0 : Int) && x56.2 == (0 : Int))) else (
 some false)) fun i54 =>
 some i54) (fun z => some z))
theorem F11_ok {w0 : World} (hG : Globs w0) (fuel : Nat) : ∀ (a1 : Tree) (a2 : Tree) (a3 : List (Int × Int)) {r : Bool} (e0 : F11 fuel a1 a2 a3 = some r), Fn w0 prog 11 [.agg [sI a1.kind, sS a1.text, sS a1.trail, .isl .node a1.kids], .agg [sI a2.kind, sS a2.text, sS a2.trail, .isl .node a2.kids], .isl .pair a3] [] (fun s H => s = sB r ∧ H = []) := by
 intro a1 a2 a3 r e0
 rw [F11] at e0
 refine fn_intro2 100 [.tmp 6] func11 rfl rfl rfl rfl fun X hX F => ?_
 refine C_turn (T_start [(0, .agg [sI a1.kind, sS a1.text, sS a1.trail, .isl .node a1.kids]),(1, .agg [sI a2.kind, sS a2.text, sS a2.trail, .isl .node a2.kids]),(2, .isl .pair a3)] rfl (F) rfl) ?_
 refine gs ?_
 refine W rfl (O_box rfl rfl fun b4 => ?_)
 refine W rfl (O_box rfl rfl fun b5 => ?_)
 refine go ?_
 refine C_seq ?_
 refine C_draw2 [(0,pu),(2,pu),(4,nw),(5,nw),(1,mn),(3,mn),(6, .take),(7,mn)] [false, false] [] (bx1 b5 a2.kind a2.text a2.trail a2.kids :: bx1 b4 a1.kind a1.text a1.trail a1.kids :: F) rfl rfl rfl (by kernel_rfl) rfl ?_
 refine gd ?_
 refine D_new rfl rfl ⟨4, Nat, fun b6 => sP b6 0, fun b6 => boxA b6 50 [.val (.slice none 0 0), .val (.slice none 0 0), .val (.slice none 0 0), .val (.slice none 0 0)]⟩ rfl (fun G => O_alloc tyZ_50 rfl fun b6 => ⟨b6, rfl, rfl⟩) ?_
 refine D_new rfl rfl ⟨5, Nat, fun b7 => sP b7 0, fun b7 => boxA b7 50 [.val (.slice none 0 0), .val (.slice none 0 0), .val (.slice none 0 0), .val (.slice none 0 0)]⟩ rfl (fun G => O_alloc tyZ_50 rfl fun b7 => ⟨b7, rfl, rfl⟩) ?_
 obtain ⟨r8,hr8,e0⟩:=be e0
 refine D_main rfl (D_mainX rfl fun G => O_callP fn_23 rfl (F23_ok hG fuel a1 hr8) (D_end ?_))
 obtain ⟨r9,hr9,e0⟩:=be e0
 refine D_main rfl (D_mainX rfl fun G => O_callP fn_23 rfl (F23_ok hG fuel a2 hr9) (D_end ?_))
 refine D_take _ _ rfl rfl rfl (fun b7 b6 => ?_)
 refine D_mainX rfl fun G => S_any [.isl .node r8.1, .isl .int r8.2.1, .isl .int r8.2.2.1, .isl .ints r8.2.2.2] tyS_50 (lk rfl rfl) (lk rfl rfl) rfl rfl (Nat.le_of_ble_eq_true rfl) rfl (D_end ?_)
 refine D_main rfl (D_mainX rfl fun G => S_any [.isl .node r9.1, .isl .int r9.2.1, .isl .int r9.2.2.1, .isl .ints r9.2.2.2] tyS_50 (lk rfl rfl) (lk rfl rfl) rfl rfl (Nat.le_of_ble_eq_true rfl) rfl (D_end ?_))
 refine D_nil ?_
 refine gs ?_
 refine W rfl (O_makeMap (fun n : Int => Value.int .i64 n) (fun b : Bool => Value.bool b) fun b10 => ?_)
 refine go ?_
 obtain ⟨o11,e1,e0⟩:=be e0
 refine C_cut (ι := Unit) (fun i => [(2, .isl .pair a3)]) (fun i => F) (fun i => o11 = .inl ()) ?_ ?_
 refine gs ?_
 refine C_loopF (κ := ((List (Int × Bool)) × Int)) (fun d => [(2, .isl .pair a3),(7, sP b6 0),(8, sP b7 0),(9, .val (.map (some b10))),(17, .isl .pair a3),(18, sI (a3.length : Int)),(19, sI d.2)]) (fun d => bx4 b6 r8.1 r8.2.1 r8.2.2.1 r8.2.2.2 :: bx4 b7 r9.1 r9.2.1 r9.2.2.1 r9.2.2.2 :: mapA b10 (fun n : Int => Value.int .i64 n) (fun b : Bool => Value.bool b) d.1 :: F) (fun n d => F11_l12 fuel a3 r8 r9 n d.1 d.2) o11 fuel ([], (0 : Int)) e1 (tl [1, 1, 0] 2 rfl rfl) (fun _ => rfl) ?_
 rintro n ⟨y33, y34⟩ hF
 have e1 : F11_l12 fuel a3 r8 r9 (n + 1) y33 y34 = some o11 := hF
 rw [F11_l12] at e1
 clear hF
 refine gs ?_
 refine C_seq ?_
 refine C_cd rfl e1 (fun e1 => ?_) (fun e1 => ?_)
 refine go ?_
 refine gs ?_
 refine gs ?_
 obtain ⟨x36,w36,e1⟩:=be e1
 refine W rfl (O_indexAddr (k := .pair) (z := x36) tyL_25 rfl rfl (idx_e w36).1 (idx_e w36).2 ?_)
 refine W rfl (O_load_ipt_all (k := .pair) tyA_39 rfl ?_)
 refine W rfl (O_alloc tyZ_39 rfl fun b37 => ?_)
 refine go ?_
 refine Wn (S_any [sI x36.1, sI x36.2] tyS_39 rfl rfl rfl rfl (Nat.le_of_ble_eq_true rfl) rfl ?_)
 refine go ?_
 refine C_seq ?_
 obtain ⟨i38,e2,e1⟩:=be e1
 refine C_cut (ι := Bool) (fun i => [(2, .isl .pair a3),(7, sP b6 0),(8, sP b7 0),(9, .val (.map (some b10))),(11, sP b37 0),(17, .isl .pair a3),(18, sI (a3.length : Int)),(19, sI y34),(85, sB i)]) (fun i => bx4 b6 r8.1 r8.2.1 r8.2.2.1 r8.2.2.2 :: bx4 b7 r9.1 r9.2.1 r9.2.2.1 r9.2.2.2 :: mapA b10 (fun n : Int => Value.int .i64 n) (fun b : Bool => Value.bool b) y33 :: boxA b37 39 [sI x36.1, sI x36.2] :: F) (fun i => i38 = i) ?_ ?_
 refine C_draw2 [(0,fr),(1,pu),(2,fr),(3,fr),(4,fr),(5,pu),(6,fr),(7,pu),(8,fr),(9,fr),(10,fr),(11,fr),(12,fr),(13,pu),(14,fr),(15,fr),(16,fr),(17,fr),(18,pu),(19,fr),(20,pu),(21,fr),(22,fr),(23,fr),(24,fr),(25,fr),(26,fr),(27,pu),(28,pu),(29,fr),(30,fr),(31,fr),(32,fr),(33,fr),(34,fr),(35,fr),(36,fr),(37,fr),(38,fr),(39,fr),(40,fr),(41,pu),(42,fr),(43,fr),(44,fr),(45,fr),(46,fr),(47,pu),(48,fr),(49,pu),(50,fr),(51,fr),(52,fr),(53,fr),(54,pu),(55,fr),(56,pu),(57,fr),(58,fr),(59,fr),(60,fr),(61,fr)] [false, false, false, false] [] (boxA b37 39 [sI x36.1, sI x36.2] :: bx4 b6 r8.1 r8.2.1 r8.2.2.1 r8.2.2.2 :: bx4 b7 r9.1 r9.2.1 r9.2.2.1 r9.2.2.2 :: mapA b10 (fun n : Int => Value.int .i64 n) (fun b : Bool => Value.bool b) y33 :: F) rfl rfl rfl (by kernel_rfl) rfl ?_
 refine D_free rfl rfl (fun G => O_arr_ptr 0 tyR_39 (lk rfl rfl) (lk rfl rfl) rfl ⟨rfl, rfl⟩) ?_
 refine gd ?_
 obtain ⟨hg39, e2⟩ | ⟨hg39, e2⟩ := bc e2
 refine gd ?_
 refine D_nil ?_
 exact jm e2 (tl [1, 1, 1, 0] 0 rfl rfl)
 refine D_freeT rfl rfl rfl (lg rfl rfl) hg39 (fun G => O_arr_ptr 0 tyR_39 (lk rfl rfl) (lk rfl rfl) rfl ⟨rfl, rfl⟩) ?_
 refine gd ?_
 obtain ⟨hg40, e2⟩ | ⟨hg40, e2⟩ := bc e2
 refine gd ?_
 refine D_nil ?_
 exact jm e2 (tl [1, 1, 1, 0] 0 rfl rfl)
 refine D_freeT rfl rfl rfl (lg rfl rfl) hg40 (fun G => O_arr_ptr 1 tyR_39 (lk rfl rfl) (lk rfl rfl) rfl ⟨rfl, rfl⟩) ?_
 refine gd ?_
 obtain ⟨hg41, e2⟩ | ⟨hg41, e2⟩ := bc e2
 refine gd ?_
 refine D_nil ?_
 exact jm e2 (tl [1, 1, 1, 0] 0 rfl rfl)
 refine D_freeT rfl rfl rfl (lg rfl rfl) hg41 (fun G => O_arr_ptr 1 tyR_39 (lk rfl rfl) (lk rfl rfl) rfl ⟨rfl, rfl⟩) ?_
 refine gd ?_
 obtain ⟨hg42, e2⟩ | ⟨hg42, e2⟩ := bc e2
 refine gd ?_
 refine D_nil ?_
 exact jm e2 (tl [1, 1, 1, 0] 0 rfl rfl)
 refine gd ?_
 refine D_freeT rfl rfl rfl (lg rfl rfl) hg42 (fun G => O_arr_ptr 1 tyR_39 (lk rfl rfl) (lk rfl rfl) rfl ⟨rfl, rfl⟩) ?_
 refine gd ?_
 refine D_pureT rfl rfl rfl (lg rfl rfl) hg42 (fun G => O_lookup1 (k := x36.2) false (key_int tyU_3) tyM_57 tyN_4 (lk rfl rfl) (lk rfl rfl) sk_val ⟨rfl, rfl⟩) ?_
 refine gd ?_
 obtain ⟨hg43, e2⟩ | ⟨hg43, e2⟩ := bc e2
 refine gd ?_
 refine D_nil ?_
 exact jm e2 (tl [1, 1, 1, 0] 0 rfl rfl)
 refine gd ?_
 obtain ⟨hg44, e2⟩ | ⟨hg44, e2⟩ := bc e2
 refine gd ?_
 obtain ⟨x45,w45,e2⟩:=be e2
 refine D_freeT rfl rfl rfl (lg rfl rfl) hg44 (fun G => O_arI (lk rfl rfl) (lk rfl rfl) rfl (ck_e w45).2 ⟨rfl, rfl⟩) (D_re (congrArg sI (ck_e w45).1) ?_)
 obtain ⟨x46,w46,e2⟩:=be e2
 refine D_freeT rfl rfl rfl (lg rfl rfl) hg44 (fun G => O_indexAddr (k := .pair) (z := x46) tyL_25 (lk rfl rfl) (lk rfl rfl) (idx_e w46).1 (idx_e w46).2 ⟨rfl, rfl⟩) ?_
 refine D_freeT rfl rfl rfl (lg rfl rfl) hg44 (fun G => O_arr_ipt 0 tyR_39 (lk rfl rfl) (lk rfl rfl) rfl ⟨rfl, rfl⟩) ?_
 refine gd ?_
 refine D_freeT rfl rfl rfl (lg rfl rfl) hg44 (fun G => O_arr_ptr 0 tyR_39 (lk rfl rfl) (lk rfl rfl) rfl ⟨rfl, rfl⟩) ?_
 refine gd ?_
 obtain ⟨hg47, e2⟩ | ⟨hg47, e2⟩ := bc e2
 refine gd ?_
 refine D_nil ?_
 exact jm e2 (tl [1, 1, 1, 0] 0 rfl rfl)
 refine gd ?_
 refine D_freeT rfl rfl rfl (lg rfl rfl) hg47 (fun G => O_arr_ptr 0 tyR_39 (lk rfl rfl) (lk rfl rfl) rfl ⟨rfl, rfl⟩) ?_
 refine gd ?_
 obtain ⟨x48,w48,e2⟩:=be e2
 refine D_freeT rfl rfl rfl (lg rfl rfl) hg47 (fun G => O_indexAddr (k := .node) (z := x48) tyL_22 (lk rfl rfl) (lk rfl rfl) (idx_e w48).1 (idx_e w48).2 ⟨rfl, rfl⟩) ?_
 refine gd ?_
 refine D_freeT rfl rfl rfl (lg rfl rfl) hg47 (fun G => O_arr_ptr 1 tyR_39 (lk rfl rfl) (lk rfl rfl) rfl ⟨rfl, rfl⟩) ?_
 refine gd ?_
 obtain ⟨x49,w49,e2⟩:=be e2
 refine D_freeT rfl rfl rfl (lg rfl rfl) hg47 (fun G => O_indexAddr (k := .node) (z := x49) tyL_22 (lk rfl rfl) (lk rfl rfl) (idx_e w49).1 (idx_e w49).2 ⟨rfl, rfl⟩) ?_
 refine gd ?_
 refine D_nil ?_
 exact jm e2 (tl [1, 1, 1, 0] 0 rfl rfl)
 refine gd ?_
 refine D_freeT rfl rfl rfl (lg rfl rfl) rfl (fun G => O_arr_ptr 0 tyR_39 (lk rfl rfl) (lk rfl rfl) rfl ⟨rfl, rfl⟩) ?_
 refine gd ?_
 obtain ⟨x50,w50,e2⟩:=be e2
 refine D_freeT rfl rfl rfl (lg rfl rfl) rfl (fun G => O_indexAddr (k := .node) (z := x50) tyL_22 (lk rfl rfl) (lk rfl rfl) (idx_e w50).1 (idx_e w50).2 ⟨rfl, rfl⟩) ?_
 refine gd ?_
 refine D_freeT rfl rfl rfl (lg rfl rfl) rfl (fun G => O_arr_ptr 1 tyR_39 (lk rfl rfl) (lk rfl rfl) rfl ⟨rfl, rfl⟩) ?_
 refine gd ?_
 obtain ⟨x51,w51,e2⟩:=be e2
 refine D_freeT rfl rfl rfl (lg rfl rfl) rfl (fun G => O_indexAddr (k := .node) (z := x51) tyL_22 (lk rfl rfl) (lk rfl rfl) (idx_e w51).1 (idx_e w51).2 ⟨rfl, rfl⟩) ?_
 refine gd ?_
 refine D_nil ?_
 exact jm e2 (tl [1, 1, 1, 0] 0 rfl rfl)
 rintro z hi
 subst hi
 refine C_cd rfl e1 (fun e1 => ?_) (fun e1 => ?_)
 refine gs ?_
 obtain rfl := so e1
 obtain rfl := so e0
 refine go ?_
 exact rt [] 4 ⟨rfl, rfl⟩ rfl rfl
 refine go ?_
 refine W rfl (O_arr_ptr 1 tyR_39 rfl rfl rfl ?_)
 refine go ?_
 refine Wn (O_mapUpdate (k := x36.2) (u := true) (key_int tyU_3) tyM_57 rfl rfl rfl sk_val sk_val ?_)
 refine go ?_
 obtain ⟨x53,w53,e1⟩:=be e1
 refine W rfl (O_arI rfl rfl rfl (ck_e w53).2 (W_re (congrArg sI (ck_e w53).1) ?_))
 refine go ?_
 exact jmpL ((mput y33 x36.2 true), x53) e1 (tl [0, 0, 0] 1 rfl rfl)
 refine go ?_
 obtain rfl := so e1
 exact jmp () rfl (tl [] 3 rfl rfl)
 rintro ⟨⟩ hi
 subst hi
 have e0 := elim_l e0
 obtain ⟨i54,e1,e0⟩:=be e0
 refine C_cut (ι := Bool) (fun i => [(6, sB i)]) (fun i => F) (fun i => i54 = i) ?_ ?_
 refine go ?_
 obtain ⟨hg55, e1⟩ | ⟨hg55, e1⟩ := bc e1
 refine Wt rfl rfl rfl hg55 rfl rfl (O_move rfl ?_)
 obtain ⟨x56,w56,e1⟩:=be e1
 refine Wt rfl rfl rfl hg55 rfl rfl (O_indexAddr (k := .pair) (z := x56) tyL_25 rfl rfl (idx_e w56).1 (idx_e w56).2 ?_)
 refine Wt rfl rfl rfl hg55 rfl rfl (O_load_ipt_all (k := .pair) tyA_39 rfl ?_)
 refine Wt rfl rfl rfl hg55 rfl rfl (O_build (ss := [(0, sI (0 : Int)),(1, sI (0 : Int))]) tyZ_39 tyP_39 rfl rfl rfl ?_)
 refine Wt rfl rfl rfl hg55 rfl rfl (O_eqPair typ_39 rfl rfl ?_)
 refine go ?_
 exact jm e1 (tl [] 0 rfl rfl)
 refine go ?_
 exact jm e1 (tl [] 0 rfl rfl)
 rintro z hi
 subst hi
 refine go ?_
 obtain rfl := so e0
 refine go ?_
 exact rt [] 0 ⟨rfl, rfl⟩ rfl rfl
def F8 (fuel : Nat) : Option (Bool) :=
 (F21 fuel (⟨#[97]⟩ : ByteArray) (Tree.mk (26 : Int) (⟨#[49]⟩ : ByteArray) (⟨#[]⟩ : ByteArray) [])).bind fun r4 =>
 (F21 fuel (⟨#[98]⟩ : ByteArray) (Tree.mk (26 : Int) (⟨#[50]⟩ : ByteArray) (⟨#[]⟩ : ByteArray) [])).bind fun r5 =>
 (F20v1 fuel [(Tree.mk (4 : Int) (⟨#[97]⟩ : ByteArray) (⟨#[]⟩ : ByteArray) r4), (Tree.mk (4 : Int) (⟨#[98]⟩ : ByteArray) (⟨#[]⟩ : ByteArray) r5)]).bind fun r7 =>
 (F21 fuel (⟨#[98]⟩ : ByteArray) (Tree.mk (26 : Int) (⟨#[49]⟩ : ByteArray) (⟨#[]⟩ : ByteArray) [])).bind fun r9 =>
 (F21 fuel (⟨#[97]⟩ : ByteArray) (Tree.mk (26 : Int) (⟨#[49]⟩ : ByteArray) (⟨#[]⟩ : ByteArray) [])).bind fun r10 =>
 (F20v1 fuel [(Tree.mk (4 : Int) (⟨#[98]⟩ : ByteArray) (⟨#[]⟩ : ByteArray) r9), (Tree.mk (4 : Int) (⟨#[97]⟩ : ByteArray) (⟨#[]⟩ : ByteArray) r10)]).bind fun r12 =>
 (F10 fuel (Tree.mk (1 : Int) (⟨#[]⟩ : ByteArray) (⟨#[]⟩ : ByteArray) r7) (Tree.mk (1 : Int) (⟨#[]⟩ : ByteArray) (⟨#[]⟩ : ByteArray) r12)).bind fun r13 =>
 (F17 fuel (6 : Int) r13.1).bind fun r14 =>
 Option.bind (α := Bool) (
 bif (r13.2 == (0 : Int)) then (
 (F11 fuel (Tree.mk (1 : Int) (⟨#[]⟩ : ByteArray) (⟨#[]⟩ : ByteArray) r7) (Tree.mk (1 : Int) (⟨#[]⟩ : ByteArray) (⟨#[]⟩ : ByteArray) r12) r13.1).bind fun r17 =>
 bif r17 then (
 (idx r14 (0 : Int)).bind fun x19 =>
 bif (x19 == (0 : Int)) then (
 (idx r14 (1 : Int)).bind fun x21 =>
 bif (x21 == (1 : Int)) then (
 (idx r14 (2 : Int)).bind fun x23 =>
 bif (x23 == (4 : Int)) then (
 (idx r14 (3 : Int)).bind fun x25 =>
 bif (x25 == (5 : Int)) then (
 (idx r14 (4 : Int)).bind fun x27 =>
 bif (x27 == (2 : Int)) then (
 (F11 fuel (Tree.mk (1 : Int) (⟨#[]⟩ : ByteArray) (⟨#[]⟩ : ByteArray) r7) (Tree.mk (1 : Int) (⟨#[]⟩ : ByteArray) (⟨#[]⟩ : ByteArray) r12) []).bind fun r29 =>
 some (!r29)) else (
 some false)) else (
 some false)) else (
 some false)) else (
 some false)) else (
 some false)) else (
 some false)) else (
 some false)) fun i15 =>
 some i15
theorem F8_ok {w0 : World} (hG : Globs w0) (fuel : Nat) : ∀ {r : Bool} (e0 : F8 fuel = some r), Fn w0 prog 8 [] [] (fun s H => s = sB r ∧ H = []) := by
 intro r e0
 rw [F8] at e0
 refine fn_intro2 74 [.tmp 0] func8 rfl rfl rfl rfl fun X hX F => ?_
 refine C_turn (T_start [] rfl (F) rfl) ?_
 refine gs ?_
 refine gs ?_
 refine W rfl (O_build (ss := [(0, sI (26 : Int)),(1, sS (⟨#[49]⟩ : ByteArray))]) tyZ_24 tyP_24 rfl rfl rfl ?_)
 refine W rfl (O_alloc tyZ_24 rfl fun b1 => ?_)
 refine Wn (S_any [sI (26 : Int), sS (⟨#[49]⟩ : ByteArray), sS (⟨#[]⟩ : ByteArray), .val (.slice none 0 0)] tyS_24 rfl rfl rfl rfl (Nat.le_of_ble_eq_true rfl) rfl ?_)
 refine go ?_
 refine gs ?_
 refine W rfl (O_build (ss := [(0, sI (26 : Int)),(1, sS (⟨#[50]⟩ : ByteArray))]) tyZ_24 tyP_24 rfl rfl rfl ?_)
 refine W rfl (O_alloc tyZ_24 rfl fun b2 => ?_)
 refine Wn (S_any [sI (26 : Int), sS (⟨#[50]⟩ : ByteArray), sS (⟨#[]⟩ : ByteArray), .val (.slice none 0 0)] tyS_24 rfl rfl rfl rfl (Nat.le_of_ble_eq_true rfl) rfl ?_)
 refine go ?_
 refine C_seq ?_
 refine C_draw2 [(0,pu),(2,pu),(6,nw),(1,mn),(3,mn),(4,nw),(5, .take),(7, .take)] [false, false] [] (boxA b2 24 [sI (26 : Int), sS (⟨#[50]⟩ : ByteArray), sS (⟨#[]⟩ : ByteArray), .val (.slice none 0 0)] :: boxA b1 24 [sI (26 : Int), sS (⟨#[49]⟩ : ByteArray), sS (⟨#[]⟩ : ByteArray), .val (.slice none 0 0)] :: F) rfl rfl rfl (by kernel_rfl) rfl ?_
 refine gd ?_
 refine D_new rfl rfl ⟨6, Nat, fun b3 => sP b3 0, fun b3 => boxA b3 24 [sI (0 : Int), sS (⟨#[]⟩ : ByteArray), sS (⟨#[]⟩ : ByteArray), .val (.slice none 0 0)]⟩ rfl (fun G => O_alloc tyZ_24 rfl fun b3 => ⟨b3, rfl, rfl⟩) ?_
 obtain ⟨r4,hr4,e0⟩:=be e0
 refine D_main rfl (D_mainX rfl fun G => O_callP fn_21 rfl (Fn.args (RepImpL.cons (RepImp.refl _) (RepImpL.cons (RepImp.agg (RepImpL.cons (RepImp.refl _) (RepImpL.cons (RepImp.refl _) (RepImpL.cons (RepImp.refl _) (RepImpL.cons (RepImp.nil .node) RepImpL.nil))))) RepImpL.nil)) (F21_ok hG fuel (⟨#[97]⟩ : ByteArray) (Tree.mk (26 : Int) (⟨#[49]⟩ : ByteArray) (⟨#[]⟩ : ByteArray) []) hr4)) (D_end ?_))
 obtain ⟨r5,hr5,e0⟩:=be e0
 refine D_main rfl (D_mainX rfl fun G => O_callP fn_21 rfl (Fn.args (RepImpL.cons (RepImp.refl _) (RepImpL.cons (RepImp.agg (RepImpL.cons (RepImp.refl _) (RepImpL.cons (RepImp.refl _) (RepImpL.cons (RepImp.refl _) (RepImpL.cons (RepImp.nil .node) RepImpL.nil))))) RepImpL.nil)) (F21_ok hG fuel (⟨#[98]⟩ : ByteArray) (Tree.mk (26 : Int) (⟨#[50]⟩ : ByteArray) (⟨#[]⟩ : ByteArray) []) hr5)) (D_end ?_))
 refine D_new rfl rfl ⟨4, Hnd, fun q6 => .val (sl q6), fun q6 => ownA (sl q6) 24 .node [(Tree.mk (4 : Int) (⟨#[97]⟩ : ByteArray) (⟨#[]⟩ : ByteArray) r4),(Tree.mk (4 : Int) (⟨#[98]⟩ : ByteArray) (⟨#[]⟩ : ByteArray) r5)]⟩ rfl (fun G => A_build 24 64 .node [(Tree.mk (4 : Int) (⟨#[97]⟩ : ByteArray) (⟨#[]⟩ : ByteArray) r4),(Tree.mk (4 : Int) (⟨#[98]⟩ : ByteArray) (⟨#[]⟩ : ByteArray) r5)] (ss := [(0, .agg [sI (4 : Int), sS (⟨#[97]⟩ : ByteArray), sS (⟨#[]⟩ : ByteArray), .isl .node r4]),(1, .agg [sI (4 : Int), sS (⟨#[98]⟩ : ByteArray), sS (⟨#[]⟩ : ByteArray), .isl .node r5])]) tyE_22 tyZ_24 rfl rfl rfl rfl rfl rfl fun q6 => ⟨q6, rfl, rfl⟩) ?_
 obtain ⟨r7,hr7,e0⟩:=be e0
 refine D_take _ _ rfl rfl rfl (fun q6 => ?_)
 refine D_mainX rfl fun G => O_call0 (F := ((boxA b2 24 [sI (26 : Int), sS (⟨#[50]⟩ : ByteArray), sS (⟨#[]⟩ : ByteArray), .val (.slice none 0 0)] :: boxA b1 24 [sI (26 : Int), sS (⟨#[49]⟩ : ByteArray), sS (⟨#[]⟩ : ByteArray), .val (.slice none 0 0)] :: F) ++ G)) fn_20 rfl (Fn.thaw (v := sl q6) (k := .node) (xs := [(Tree.mk (4 : Int) (⟨#[97]⟩ : ByteArray) (⟨#[]⟩ : ByteArray) r4),(Tree.mk (4 : Int) (⟨#[98]⟩ : ByteArray) (⟨#[]⟩ : ByteArray) r5)]) (ety := 24) (ThawL.cons .here ThawL.nil) (F20v1_ok hG fuel [(Tree.mk (4 : Int) (⟨#[97]⟩ : ByteArray) (⟨#[]⟩ : ByteArray) r4),(Tree.mk (4 : Int) (⟨#[98]⟩ : ByteArray) (⟨#[]⟩ : ByteArray) r5)] hr7)) (sel_perm [0] _) (D_end ?_)
 refine D_take _ _ rfl rfl rfl (fun b3 => ?_)
 refine D_mainX rfl fun G => S_any [sI (1 : Int), sS (⟨#[]⟩ : ByteArray), sS (⟨#[]⟩ : ByteArray), .isl .node r7] tyS_24 (lk rfl rfl) (lk rfl rfl) rfl rfl (Nat.le_of_ble_eq_true rfl) rfl (D_end ?_)
 refine D_nil ?_
 refine C_seq ?_
 refine C_draw2 [(0,pu),(2,pu),(6,nw),(1,mn),(3,mn),(4,nw),(5, .take),(7, .take)] [false, false, false] [] (bx1 b3 (1 : Int) (⟨#[]⟩ : ByteArray) (⟨#[]⟩ : ByteArray) r7 :: boxA b2 24 [sI (26 : Int), sS (⟨#[50]⟩ : ByteArray), sS (⟨#[]⟩ : ByteArray), .val (.slice none 0 0)] :: boxA b1 24 [sI (26 : Int), sS (⟨#[49]⟩ : ByteArray), sS (⟨#[]⟩ : ByteArray), .val (.slice none 0 0)] :: F) rfl rfl rfl (by kernel_rfl) rfl ?_
 refine gd ?_
 refine D_new rfl rfl ⟨6, Nat, fun b8 => sP b8 0, fun b8 => boxA b8 24 [sI (0 : Int), sS (⟨#[]⟩ : ByteArray), sS (⟨#[]⟩ : ByteArray), .val (.slice none 0 0)]⟩ rfl (fun G => O_alloc tyZ_24 rfl fun b8 => ⟨b8, rfl, rfl⟩) ?_
 obtain ⟨r9,hr9,e0⟩:=be e0
 refine D_main rfl (D_mainX rfl fun G => O_callP fn_21 rfl (Fn.args (RepImpL.cons (RepImp.refl _) (RepImpL.cons (RepImp.agg (RepImpL.cons (RepImp.refl _) (RepImpL.cons (RepImp.refl _) (RepImpL.cons (RepImp.refl _) (RepImpL.cons (RepImp.nil .node) RepImpL.nil))))) RepImpL.nil)) (F21_ok hG fuel (⟨#[98]⟩ : ByteArray) (Tree.mk (26 : Int) (⟨#[49]⟩ : ByteArray) (⟨#[]⟩ : ByteArray) []) hr9)) (D_end ?_))
 obtain ⟨r10,hr10,e0⟩:=be e0
 refine D_main rfl (D_mainX rfl fun G => O_callP fn_21 rfl (Fn.args (RepImpL.cons (RepImp.refl _) (RepImpL.cons (RepImp.agg (RepImpL.cons (RepImp.refl _) (RepImpL.cons (RepImp.refl _) (RepImpL.cons (RepImp.refl _) (RepImpL.cons (RepImp.nil .node) RepImpL.nil))))) RepImpL.nil)) (F21_ok hG fuel (⟨#[97]⟩ : ByteArray) (Tree.mk (26 : Int) (⟨#[49]⟩ : ByteArray) (⟨#[]⟩ : ByteArray) []) hr10)) (D_end ?_))
 refine D_new rfl rfl ⟨4, Hnd, fun q11 => .val (sl q11), fun q11 => ownA (sl q11) 24 .node [(Tree.mk (4 : Int) (⟨#[98]⟩ : ByteArray) (⟨#[]⟩ : ByteArray) r9),(Tree.mk (4 : Int) (⟨#[97]⟩ : ByteArray) (⟨#[]⟩ : ByteArray) r10)]⟩ rfl (fun G => A_build 24 64 .node [(Tree.mk (4 : Int) (⟨#[98]⟩ : ByteArray) (⟨#[]⟩ : ByteArray) r9),(Tree.mk (4 : Int) (⟨#[97]⟩ : ByteArray) (⟨#[]⟩ : ByteArray) r10)] (ss := [(0, .agg [sI (4 : Int), sS (⟨#[98]⟩ : ByteArray), sS (⟨#[]⟩ : ByteArray), .isl .node r9]),(1, .agg [sI (4 : Int), sS (⟨#[97]⟩ : ByteArray), sS (⟨#[]⟩ : ByteArray), .isl .node r10])]) tyE_22 tyZ_24 rfl rfl rfl rfl rfl rfl fun q11 => ⟨q11, rfl, rfl⟩) ?_
 obtain ⟨r12,hr12,e0⟩:=be e0
 refine D_take _ _ rfl rfl rfl (fun q11 => ?_)
 refine D_mainX rfl fun G => O_call0 (F := ((bx1 b3 (1 : Int) (⟨#[]⟩ : ByteArray) (⟨#[]⟩ : ByteArray) r7 :: boxA b2 24 [sI (26 : Int), sS (⟨#[50]⟩ : ByteArray), sS (⟨#[]⟩ : ByteArray), .val (.slice none 0 0)] :: boxA b1 24 [sI (26 : Int), sS (⟨#[49]⟩ : ByteArray), sS (⟨#[]⟩ : ByteArray), .val (.slice none 0 0)] :: F) ++ G)) fn_20 rfl (Fn.thaw (v := sl q11) (k := .node) (xs := [(Tree.mk (4 : Int) (⟨#[98]⟩ : ByteArray) (⟨#[]⟩ : ByteArray) r9),(Tree.mk (4 : Int) (⟨#[97]⟩ : ByteArray) (⟨#[]⟩ : ByteArray) r10)]) (ety := 24) (ThawL.cons .here ThawL.nil) (F20v1_ok hG fuel [(Tree.mk (4 : Int) (⟨#[98]⟩ : ByteArray) (⟨#[]⟩ : ByteArray) r9),(Tree.mk (4 : Int) (⟨#[97]⟩ : ByteArray) (⟨#[]⟩ : ByteArray) r10)] hr12)) (sel_perm [0] _) (D_end ?_)
 refine D_take _ _ rfl rfl rfl (fun b8 => ?_)
 refine D_mainX rfl fun G => S_any [sI (1 : Int), sS (⟨#[]⟩ : ByteArray), sS (⟨#[]⟩ : ByteArray), .isl .node r12] tyS_24 (lk rfl rfl) (lk rfl rfl) rfl rfl (Nat.le_of_ble_eq_true rfl) rfl (D_end ?_)
 refine D_nil ?_
 refine gs ?_
 obtain ⟨r13,hr13,e0⟩:=be e0
 refine W rfl (O_callP fn_10 rfl (F10_ok hG fuel (Tree.mk (1 : Int) (⟨#[]⟩ : ByteArray) (⟨#[]⟩ : ByteArray) r7) (Tree.mk (1 : Int) (⟨#[]⟩ : ByteArray) (⟨#[]⟩ : ByteArray) r12) hr13) ?_)
 refine go ?_
 refine gs ?_
 obtain ⟨r14,hr14,e0⟩:=be e0
 refine W rfl (O_callP fn_17 rfl (F17_ok hG fuel (6 : Int) r13.1 hr14) ?_)
 refine go ?_
 obtain ⟨i15,e1,e0⟩:=be e0
 refine C_cut (ι := Bool) (fun i => [(0, sB i)]) (fun i => F) (fun i => i15 = i) ?_ ?_
 refine go ?_
 obtain ⟨hg16, e1⟩ | ⟨hg16, e1⟩ := bc e1
 refine Wt rfl rfl rfl hg16 rfl rfl (O_load_all tyA_24 rfl rfl ?_)
 refine Wt rfl rfl rfl hg16 rfl rfl (O_load_all tyA_24 rfl rfl ?_)
 refine Wt rfl rfl rfl hg16 rfl rfl (O_move rfl ?_)
 obtain ⟨r17,hr17,e1⟩:=be e1
 refine Wt rfl rfl rfl hg16 rfl rfl (O_callP fn_11 rfl (F11_ok hG fuel (Tree.mk (1 : Int) (⟨#[]⟩ : ByteArray) (⟨#[]⟩ : ByteArray) r7) (Tree.mk (1 : Int) (⟨#[]⟩ : ByteArray) (⟨#[]⟩ : ByteArray) r12) r13.1 hr17) ?_)
 refine go ?_
 obtain ⟨hg18, e1⟩ | ⟨hg18, e1⟩ := bc e1
 refine Wt rfl rfl rfl hg18 rfl rfl (O_move rfl ?_)
 obtain ⟨x19,w19,e1⟩:=be e1
 refine Wt rfl rfl rfl hg18 rfl rfl (O_indexAddr (k := .int) (z := x19) tyL_28 rfl rfl (idx_e w19).1 (idx_e w19).2 ?_)
 refine Wt rfl rfl rfl hg18 rfl rfl (O_load_ipt ty1_3 rfl rfl ?_)
 refine Wt rfl rfl rfl hg18 rfl rfl (O_cmp rfl rfl rfl ?_)
 refine go ?_
 obtain ⟨hg20, e1⟩ | ⟨hg20, e1⟩ := bc e1
 refine Wt rfl rfl rfl hg20 rfl rfl (O_move rfl ?_)
 obtain ⟨x21,w21,e1⟩:=be e1
 refine Wt rfl rfl rfl hg20 rfl rfl (O_indexAddr (k := .int) (z := x21) tyL_28 rfl rfl (idx_e w21).1 (idx_e w21).2 ?_)
 refine Wt rfl rfl rfl hg20 rfl rfl (O_load_ipt ty1_3 rfl rfl ?_)
 refine Wt rfl rfl rfl hg20 rfl rfl (O_cmp rfl rfl rfl ?_)
 refine go ?_
 obtain ⟨hg22, e1⟩ | ⟨hg22, e1⟩ := bc e1
 refine Wt rfl rfl rfl hg22 rfl rfl (O_move rfl ?_)
 obtain ⟨x23,w23,e1⟩:=be e1
 refine Wt rfl rfl rfl hg22 rfl rfl (O_indexAddr (k := .int) (z := x23) tyL_28 rfl rfl (idx_e w23).1 (idx_e w23).2 ?_)
 refine Wt rfl rfl rfl hg22 rfl rfl (O_load_ipt ty1_3 rfl rfl ?_)
 refine Wt rfl rfl rfl hg22 rfl rfl (O_cmp rfl rfl rfl ?_)
 refine go ?_
 obtain ⟨hg24, e1⟩ | ⟨hg24, e1⟩ := bc e1
 refine Wt rfl rfl rfl hg24 rfl rfl (O_move rfl ?_)
 obtain ⟨x25,w25,e1⟩:=be e1
 refine Wt rfl rfl rfl hg24 rfl rfl (O_indexAddr (k := .int) (z := x25) tyL_28 rfl rfl (idx_e w25).1 (idx_e w25).2 ?_)
 refine Wt rfl rfl rfl hg24 rfl rfl (O_load_ipt ty1_3 rfl rfl ?_)
 refine Wt rfl rfl rfl hg24 rfl rfl (O_cmp rfl rfl rfl ?_)
 refine go ?_
 obtain ⟨hg26, e1⟩ | ⟨hg26, e1⟩ := bc e1
 refine Wt rfl rfl rfl hg26 rfl rfl (O_move rfl ?_)
 obtain ⟨x27,w27,e1⟩:=be e1
 refine Wt rfl rfl rfl hg26 rfl rfl (O_indexAddr (k := .int) (z := x27) tyL_28 rfl rfl (idx_e w27).1 (idx_e w27).2 ?_)
 refine Wt rfl rfl rfl hg26 rfl rfl (O_load_ipt ty1_3 rfl rfl ?_)
 refine Wt rfl rfl rfl hg26 rfl rfl (O_cmp rfl rfl rfl ?_)
 refine go ?_
 obtain ⟨hg28, e1⟩ | ⟨hg28, e1⟩ := bc e1
 refine Wt rfl rfl rfl hg28 rfl rfl (O_load_all tyA_24 rfl rfl ?_)
 refine Wt rfl rfl rfl hg28 rfl rfl (O_load_all tyA_24 rfl rfl ?_)
 obtain ⟨r29,hr29,e1⟩:=be e1
 refine Wt rfl rfl rfl hg28 rfl rfl (O_callP fn_11 rfl (Fn.args (RepImpL.cons (RepImp.refl _) (RepImpL.cons (RepImp.refl _) (RepImpL.cons (RepImp.nil .pair) RepImpL.nil))) (F11_ok hG fuel (Tree.mk (1 : Int) (⟨#[]⟩ : ByteArray) (⟨#[]⟩ : ByteArray) r7) (Tree.mk (1 : Int) (⟨#[]⟩ : ByteArray) (⟨#[]⟩ : ByteArray) r12) [] hr29)) ?_)
 refine Wt rfl rfl rfl hg28 rfl rfl (O_not rfl ?_)
 refine go ?_
 exact jm e1 (tl [] 4 rfl rfl)
 refine go ?_
 exact jm e1 (tl [] 4 rfl rfl)
 refine go ?_
 exact jm e1 (tl [] 4 rfl rfl)
 refine go ?_
 exact jm e1 (tl [] 4 rfl rfl)
 refine go ?_
 exact jm e1 (tl [] 4 rfl rfl)
 refine go ?_
 exact jm e1 (tl [] 4 rfl rfl)
 refine go ?_
 exact jm e1 (tl [] 4 rfl rfl)
 refine go ?_
 exact jm e1 (tl [] 4 rfl rfl)
 rintro z hi
 subst hi
 refine go ?_
 obtain rfl := so e0
 refine go ?_
 exact rt [] 0 ⟨rfl, rfl⟩ rfl rfl
def F9_l95 (fuel : Nat) (i7 : List Int × List Int × List (List Int)) (r5 : List Tree) (y90 : Int) : Nat → List Int → List (List Int) → Int → Int → Option (List Int × List (List Int))
 | 0, _, _, _, _ => none
 | n + 1, y110, y111, y112, y113 =>
 Option.bind (α := Bool) (
 (idx r5 y90).bind fun x116 =>
 bif (decide (y113 < (x116.kids.length : Int))) then (
 some (decide (y112 < (r5.length : Int)))) else (
 some false)) fun i115 =>
 bif i115 then (
 (idx y110 y112).bind fun x119 =>
 (idx y111 y90).bind fun x121 =>
 if ((x121).length + ([y112]).length) * 8 ≤ 140737488355328 then (
 (idx i7.2.1 y112).bind fun x124 =>
 (ck (y112 + x124)).bind fun x125 =>
 (ck (y113 + (1 : Int))).bind fun x126 =>
 F9_l95 fuel i7 r5 y90 n (y110.set (y112).toNat y90) (y111.set (y90).toNat (x121 ++ [y112])) x125 x126) else none) else (
 some (y110, y111))
def F9_l49 (fuel : Nat) (i7 : List Int × List Int × List (List Int)) (r5 : List Tree) : Nat → List Int → List (List Int) → Int → Option (List Int × List (List Int))
 | 0, _, _, _ => none
 | n + 1, y88, y89, y90 =>
 bif (decide (y90 < (r5.length : Int))) then (
 Option.bind (α := List Int × List (List Int)) (
 (ck (y90 + (1 : Int))).bind fun x94 =>
 F9_l95 fuel i7 r5 y90 fuel y88 y89 x94 (0 : Int)) fun i93 =>
 (ck (y90 + (1 : Int))).bind fun x128 =>
 F9_l49 fuel i7 r5 n i93.1 i93.2 x128) else (
 some (y88, y89))
def F9_l8 (fuel : Nat) (a2 : Int) (r5 : List Tree) : Nat → List Int → List Int → List (List Int) → Int → Option (List Int × List Int × List (List Int))
 | 0, _, _, _, _ => none
 | n + 1, y23, y24, y25, y26 =>
 bif (decide (y26 < (r5.length : Int))) then (
 (idx r5 y26).bind fun x32 =>
 (F15 fuel x32 a2).bind fun r33 =>
 if ((y24).length + ([r33]).length) * 8 ≤ 140737488355328 then (
 if ((y23).length + ([(-1 : Int)]).length) * 8 ≤ 140737488355328 then (
 if ((y25).length + 1) * 24 ≤ 140737488355328 then (
 (ck (y26 + (1 : Int))).bind fun x43 =>
 F9_l8 fuel a2 r5 n (y23 ++ [(-1 : Int)]) (y24 ++ [r33]) (y25 ++ [[]]) x43) else none) else none) else none) else (
 some (y23, y24, y25))
def F9 (fuel : Nat) (a1 : Tree) (a2 : Int) : Option (List Tree × List Int × List Int × List (List Int)) :=
 (F22 fuel a1 a2).bind fun r5 =>
 Option.bind (α := List Int × List Int × List (List Int)) (
 F9_l8 fuel a2 r5 fuel [] [] [] (0 : Int)) fun i7 =>
 Option.bind (α := List Int × List (List Int)) (
 F9_l49 fuel i7 r5 fuel i7.1 i7.2.2 (0 : Int)) fun i48 =>
 some (r5, i48.1, i7.2.1, i48.2)
theorem F9_ok {w0 : World} (hG : Globs w0) (fuel : Nat) : ∀ (a1 : Tree) (a2 : Int) {r : List Tree × List Int × List Int × List (List Int)} (e0 : F9 fuel a1 a2 = some r), Fn w0 prog 9 [.agg [sI a1.kind, sS a1.text, sS a1.trail, .isl .node a1.kids], sI a2] [] (fun s H => s = .agg [.isl .node r.1, .isl .int r.2.1, .isl .int r.2.2.1, .isl .ints r.2.2.2] ∧ H = []) := by
 intro a1 a2 r e0
 rw [F9] at e0
 refine fn_intro2 95 [.cell 4 31] func9 rfl rfl rfl rfl fun X hX F => ?_
 refine C_turn (T_start [(0, .agg [sI a1.kind, sS a1.text, sS a1.trail, .isl .node a1.kids]),(1, sI a2)] rfl (F) rfl) ?_
 refine gs ?_
 refine W rfl (O_box rfl rfl fun b3 => ?_)
 refine W rfl (O_alloc tyZ_31 rfl fun b4 => ?_)
 refine go ?_
 refine gs ?_
 obtain ⟨r5,hr5,e0⟩:=be e0
 refine W rfl (O_callP fn_22 rfl (F22_ok hG fuel a1 a2 hr5) ?_)
 refine W rfl (O_build (ss := [(0, .isl .node r5)]) tyZ_31 tyP_31 rfl rfl rfl ?_)
 refine W rfl (O_alloc tyZ_31 rfl fun b6 => ?_)
 refine Wn (S_any [.isl .node r5, .val (.slice none 0 0), .val (.slice none 0 0), .val (.slice none 0 0)] tyS_31 rfl rfl rfl rfl (Nat.le_of_ble_eq_true rfl) rfl ?_)
 refine go ?_
 obtain ⟨i7,e1,e0⟩:=be e0
 refine C_cut (ι := (List Int × List Int × List (List Int)) × Hnd × Hnd × Hnd × List Hnd) (fun i => [(4, sP b4 0),(5, sP b6 0)]) (fun i => boxA b4 31 [.val (.slice none 0 0), .val (.slice none 0 0), .val (.slice none 0 0), .val (.slice none 0 0)] :: boxA b6 31 [.isl .node r5, .val (sl i.2.1), .val (sl i.2.2.1), .val (sl i.2.2.2.1)] :: ownA (sl i.2.1) 3 .int i.1.1 :: ownA (sl i.2.2.1) 3 .int i.1.2.1 :: own2A (sl i.2.2.2.1) 28 3 .int i.2.2.2.2 i.1.2.2 :: F) (fun i => i7 = i.1) ?_ ?_
 refine gs ?_
 refine C_loopF (κ := (List Int × List Int × List (List Int) × Int) × Hnd × Hnd × Hnd × List Hnd) (fun d => [(1, sI a2),(4, sP b4 0),(5, sP b6 0),(6, sI d.1.2.2.2)]) (fun d => boxA b4 31 [.val (.slice none 0 0), .val (.slice none 0 0), .val (.slice none 0 0), .val (.slice none 0 0)] :: boxA b6 31 [.isl .node r5, .val (sl d.2.1), .val (sl d.2.2.1), .val (sl d.2.2.2.1)] :: ownA (sl d.2.1) 3 .int d.1.1 :: ownA (sl d.2.2.1) 3 .int d.1.2.1 :: own2A (sl d.2.2.2.1) 28 3 .int d.2.2.2.2 d.1.2.2.1 :: F) (fun n d => F9_l8 fuel a2 r5 n d.1.1 d.1.2.1 d.1.2.2.1 d.1.2.2.2) i7 fuel (([], [], [], (0 : Int)),(none, 0, 0),(none, 0, 0),(none, 0, 0),([] : List Hnd)) e1 (Turn.trans (T_nil 3 .int) (Turn.trans (T_nil 3 .int) (Turn.trans (T_nil2 28 3 .int) (tl [4, 3, 2, 1, 0] 1 rfl rfl)))) (fun _ => rfl) ?_
 rintro n ⟨⟨y23, y24, y25, y26⟩, q27, q28, q29, q30⟩ hF
 have e1 : F9_l8 fuel a2 r5 (n + 1) y23 y24 y25 y26 = some i7 := hF
 rw [F9_l8] at e1
 clear hF
 refine C_seq ?_
 refine gs ?_
 refine C_cd rfl e1 (fun e1 => ?_) (fun e1 => ?_)
 refine go ?_
 refine gs ?_
 refine C_seq ?_
 refine C_draw2 [(0,fr),(1,pu),(2,fr),(3,pu),(4,fr),(5,fr),(6,fr),(7,fr),(8,mn),(9,nw),(10, .take),(11,fr),(12, .open_)] [false, false, false, true, false] [ownA (sl q28) 3 .int y24] (boxA b4 31 [.val (.slice none 0 0), .val (.slice none 0 0), .val (.slice none 0 0), .val (.slice none 0 0)] :: bx8 b6 r5 q27 q28 q29 :: ownA (sl q27) 3 .int y23 :: own2A (sl q29) 28 3 .int q30 y25 :: F) rfl rfl rfl (by kernel_rfl) rfl ?_
 refine gd ?_
 obtain ⟨x32,w32,e1⟩:=be e1
 refine D_free rfl rfl (fun G => O_indexAddr (k := .node) (z := x32) tyL_22 (lk rfl rfl) (lk rfl rfl) (idx_e w32).1 (idx_e w32).2 ⟨rfl, rfl⟩) ?_
 refine D_free rfl rfl (fun G => O_load_ipt_all (k := .node) tyA_24 (lk rfl rfl) ⟨rfl, rfl⟩) ?_
 refine gd ?_
 obtain ⟨r33,hr33,e1⟩:=be e1
 refine D_main rfl (D_mainX rfl fun G => O_callP fn_15 rfl (F15_ok hG fuel x32 a2 hr33) (D_end ?_))
 refine D_new rfl rfl ⟨9, Hnd, fun q34 => .val (sl q34), fun q34 => ownA (sl q34) 3 .int [r33]⟩ rfl (fun G => A_build 3 8 .int [r33] (ss := [(0, sI r33)]) tyE_28 tyZ_3 rfl rfl rfl rfl rfl rfl fun q34 => ⟨q34, rfl, rfl⟩) ?_
 obtain ⟨h35, e1⟩ := req_e e1
 refine D_take _ _ rfl rfl rfl (fun q34 => ?_)
 refine D_mainX rfl fun G => A_own (k := .int) (by_ := 8) tyE_28 rfl rfl (lk rfl rfl) (lk rfl rfl) h35 fun q36 => (D_end ?_)
 refine gd ?_
 refine D_open2 (ownA (sl q36) 3 .int (y24 ++ [r33]) :: boxA b4 31 [.val (.slice none 0 0), .val (.slice none 0 0), .val (.slice none 0 0), .val (.slice none 0 0)] :: bx8 b6 r5 q27 q28 q29 :: ownA (sl q27) 3 .int y23 :: own2A (sl q29) 28 3 .int q30 y25 :: F) rfl rfl (D_mainX rfl fun G => S_one [.isl .node r5, .val (sl q27), .val (sl q36), .val (sl q29)] tyS_28 (lk rfl rfl) (lk rfl rfl) rfl rfl rfl (D_end ?_))
 refine D_nil0 ?_
 refine gs ?_
 refine W rfl (A_build 3 8 .int [(-1 : Int)] (ss := [(0, sI (-1 : Int))]) tyE_28 tyZ_3 rfl rfl rfl rfl rfl rfl fun q37 => ?_)
 obtain ⟨h38, e1⟩ := req_e e1
 refine W rfl (A_own (k := .int) (by_ := 8) tyE_28 rfl rfl rfl rfl h38 fun q39 => ?_)
 refine go ?_
 refine Wn (S_one [.isl .node r5, .val (sl q39), .val (sl q36), .val (sl q29)] tyS_28 rfl rfl rfl rfl rfl ?_)
 refine go ?_
 refine W rfl (A_build 28 24 .val [sl (none, 0, 0)] (ss := [(0, .val (sl (none, 0, 0)))]) tyE_29 tyZ_28 rfl rfl rfl rfl rfl rfl fun q40 => ?_)
 obtain ⟨h41, e1⟩ := req_e e1
 refine W rfl (A_own2 (k := .int) (xss := y25) (by_ := 24) tyE_29 rfl rfl rfl h41 fun q42 => ?_)
 refine go ?_
 refine Wn (S_one [.isl .node r5, .val (sl q39), .val (sl q36), .val (sl q42)] tyS_29 rfl rfl rfl rfl rfl ?_)
 refine go ?_
 obtain ⟨x43,w43,e1⟩:=be e1
 refine W rfl (O_arI rfl rfl rfl (ck_e w43).2 (W_re (congrArg sI (ck_e w43).1) ?_))
 refine go ?_
 exact jmpL (((y23 ++ [(-1 : Int)]),(y24 ++ [r33]),(y25 ++ [[]]), x43), q39, q36, q42, (q30 ++ [nilH])) e1 (tl [1, 1, 1, 0, 0] 0 rfl rfl)
 refine go ?_
 obtain rfl := so e1
 exact jmp ((y23, y24, y25), q27, q28, q29, q30) rfl (tl [0, 0, 0, 0, 0] 0 rfl rfl)
 rintro ⟨z, q44, q45, q46, q47⟩ hi
 subst hi
 obtain ⟨i48,e1,e0⟩:=be e0
 refine C_cut (ι := (List Int × List (List Int)) × List Hnd) (fun i => [(4, sP b4 0),(5, sP b6 0)]) (fun i => boxA b4 31 [.val (.slice none 0 0), .val (.slice none 0 0), .val (.slice none 0 0), .val (.slice none 0 0)] :: bx8 b6 r5 q44 q45 q46 :: ownA (sl q44) 3 .int i.1.1 :: ownA (sl q45) 3 .int i7.2.1 :: own2A (sl q46) 28 3 .int i.2 i.1.2 :: F) (fun i => i48 = i.1) ?_ ?_
 refine gs ?_
 refine C_loopF (κ := (List Int × List (List Int) × Int) × List Hnd) (fun d => [(4, sP b4 0),(5, sP b6 0),(7, sI d.1.2.2)]) (fun d => boxA b4 31 [.val (.slice none 0 0), .val (.slice none 0 0), .val (.slice none 0 0), .val (.slice none 0 0)] :: bx8 b6 r5 q44 q45 q46 :: ownA (sl q44) 3 .int d.1.1 :: ownA (sl q45) 3 .int i7.2.1 :: own2A (sl q46) 28 3 .int d.2 d.1.2.1 :: F) (fun n d => F9_l49 fuel i7 r5 n d.1.1 d.1.2.1 d.1.2.2) i48 fuel ((i7.1, i7.2.2, (0 : Int)), q47) e1 (tl [0, 0, 0, 0, 0] 0 rfl rfl) (fun _ => rfl) ?_
 rintro n ⟨⟨y88, y89, y90⟩, q91⟩ hF
 have e1 : F9_l49 fuel i7 r5 (n + 1) y88 y89 y90 = some i48 := hF
 rw [F9_l49] at e1
 clear hF
 refine C_seq ?_
 refine gs ?_
 refine C_cd rfl e1 (fun e1 => ?_) (fun e1 => ?_)
 refine go ?_
 obtain ⟨i93,e2,e1⟩:=be e1
 refine C_cut (ι := (List Int × List (List Int)) × List Hnd) (fun i => [(4, sP b4 0),(5, sP b6 0),(7, sI y90)]) (fun i => boxA b4 31 [.val (.slice none 0 0), .val (.slice none 0 0), .val (.slice none 0 0), .val (.slice none 0 0)] :: bx8 b6 r5 q44 q45 q46 :: ownA (sl q44) 3 .int i.1.1 :: ownA (sl q45) 3 .int i7.2.1 :: own2A (sl q46) 28 3 .int i.2 i.1.2 :: F) (fun i => i93 = i.1) ?_ ?_
 refine go ?_
 refine gs ?_
 obtain ⟨x94,w94,e2⟩:=be e2
 refine W rfl (O_arI rfl rfl rfl (ck_e w94).2 (W_re (congrArg sI (ck_e w94).1) ?_))
 refine go ?_
 refine gs ?_
 refine C_loopF (κ := (List Int × List (List Int) × Int × Int) × List Hnd) (fun d => [(4, sP b4 0),(5, sP b6 0),(7, sI y90),(8, sI d.1.2.2.1),(9, sI d.1.2.2.2)]) (fun d => boxA b4 31 [.val (.slice none 0 0), .val (.slice none 0 0), .val (.slice none 0 0), .val (.slice none 0 0)] :: bx8 b6 r5 q44 q45 q46 :: ownA (sl q44) 3 .int d.1.1 :: ownA (sl q45) 3 .int i7.2.1 :: own2A (sl q46) 28 3 .int d.2 d.1.2.1 :: F) (fun n d => F9_l95 fuel i7 r5 y90 n d.1.1 d.1.2.1 d.1.2.2.1 d.1.2.2.2) i93 fuel ((y88, y89, x94, (0 : Int)), q91) e2 (tl [0, 0, 0, 0, 0] 0 rfl rfl) (fun _ => rfl) ?_
 rintro n ⟨⟨y110, y111, y112, y113⟩, q114⟩ hF
 have e2 : F9_l95 fuel i7 r5 y90 (n + 1) y110 y111 y112 y113 = some i93 := hF
 rw [F9_l95] at e2
 clear hF
 refine C_seq ?_
 obtain ⟨i115,e3,e2⟩:=be e2
 refine C_cut (ι := Bool) (fun i => [(4, sP b4 0),(5, sP b6 0),(7, sI y90),(8, sI y112),(9, sI y113),(67, sB i)]) (fun i => boxA b4 31 [.val (.slice none 0 0), .val (.slice none 0 0), .val (.slice none 0 0), .val (.slice none 0 0)] :: bx8 b6 r5 q44 q45 q46 :: ownA (sl q44) 3 .int y110 :: ownA (sl q45) 3 .int i7.2.1 :: own2A (sl q46) 28 3 .int q114 y111 :: F) (fun i => i115 = i) ?_ ?_
 refine go ?_
 obtain ⟨x116,w116,e3⟩:=be e3
 refine W rfl (O_indexAddr (k := .node) (z := x116) tyL_22 rfl rfl (idx_e w116).1 (idx_e w116).2 ?_)
 refine go ?_
 obtain ⟨hg117, e3⟩ | ⟨hg117, e3⟩ := bc e3
 refine Wt rfl rfl rfl hg117 rfl rfl (O_move rfl ?_)
 refine Wt rfl rfl rfl hg117 rfl rfl (O_fieldAddr tyF_31_0 rfl ?_)
 refine Wt rfl rfl rfl hg117 rfl rfl (O_load ty1_22 rfl rfl ?_)
 refine Wt rfl rfl rfl hg117 rfl rfl (O_len_isl tyl_22 rfl ?_)
 refine Wt rfl rfl rfl hg117 rfl rfl (O_cmp rfl rfl rfl ?_)
 refine go ?_
 exact jm e3 (tl [0, 0, 0, 0, 0] 0 rfl rfl)
 refine go ?_
 exact jm e3 (tl [0, 0, 0, 0, 0] 0 rfl rfl)
 rintro z hi
 subst hi
 refine C_cd rfl e2 (fun e2 => ?_) (fun e2 => ?_)
 refine go ?_
 refine gs ?_
 refine gs ?_
 obtain ⟨x119,w119,e2⟩:=be e2
 refine W rfl (O_indexAddr_own (k := .int) tyL_28 rfl rfl (idx_lt w119).1 (idx_lt w119).2 ?_)
 refine Wn (O_store_opt (k := .int) (i := (y112).toNat) (j := 0) (z' := y90) tyS_3 rfl rfl rfl rfl rfl (idx_e w119).2 rfl (by decide) ?_)
 refine go ?_
 refine C_seq ?_
 refine C_draw2 [(0,fr),(1,pu),(2,fr),(3,fr),(4,pu),(5,fr),(8,fr),(9,nw),(6,mn),(7,mn),(10, .take),(11,mn),(12,mn)] [false, false, false, false, true] [own2A (sl q46) 28 3 .int q114 y111] (boxA b4 31 [.val (.slice none 0 0), .val (.slice none 0 0), .val (.slice none 0 0), .val (.slice none 0 0)] :: bx8 b6 r5 q44 q45 q46 :: ownA (sl q44) 3 .int (y110.set (y112).toNat y90) :: ownA (sl q45) 3 .int i7.2.1 :: F) rfl rfl rfl (by kernel_rfl) rfl ?_
 refine gd ?_
 refine D_new rfl rfl ⟨9, Hnd, fun q120 => .val (sl q120), fun q120 => ownA (sl q120) 3 .int [y112]⟩ rfl (fun G => A_build 3 8 .int [y112] (ss := [(0, sI y112)]) tyE_28 tyZ_3 rfl rfl rfl rfl rfl rfl fun q120 => ⟨q120, rfl, rfl⟩) ?_
 obtain ⟨x121,w121,e2⟩:=be e2
 refine D_main rfl (D_mainX rfl fun G => O_idx_own2 tyL_29 (lk rfl rfl) (lk rfl rfl) (idx_lt w121).1 (idx_lt w121).2 (D_end ?_))
 refine D_main rfl (D_mainX rfl fun G => O_load_row2 (i := (y90).toNat) ty1_28 (lk rfl rfl) rfl (idx_e w121).2 (D_end ?_))
 obtain ⟨h122, e2⟩ := req_e e2
 refine D_take _ _ rfl rfl rfl (fun q120 => ?_)
 refine D_mainX rfl fun G => A_sub_own (i := (y90).toNat) (k := .int) (xs := x121) (by_ := 8) tyE_28 rfl rfl (lk rfl rfl) (lk rfl rfl) (idx_e w121).2 h122 fun q123 => (D_end ?_)
 refine D_main rfl (D_mainX rfl fun G => O_idx_own2H tyL_29 (lk rfl rfl) (lk rfl rfl) (idx_lt w121).1 (idx_lt w121).2 (D_end ?_))
 refine D_main rfl (D_mainX rfl fun G => O_store_own2 tyS_28 (lk rfl rfl) (lk rfl rfl) rfl (D_end ?_))
 refine D_nil ?_
 refine go ?_
 obtain ⟨x124,w124,e2⟩:=be e2
 refine W rfl (O_indexAddr_own (k := .int) tyL_28 rfl rfl (idx_lt w124).1 (idx_lt w124).2 ?_)
 refine W rfl (O_load_opt (k := .int) (i := (y112).toNat) (j := 0) ty1_3 rfl rfl (idx_e w124).2 rfl ?_)
 obtain ⟨x125,w125,e2⟩:=be e2
 refine W rfl (O_arI rfl rfl rfl (ck_e w125).2 (W_re (congrArg sI (ck_e w125).1) ?_))
 refine go ?_
 obtain ⟨x126,w126,e2⟩:=be e2
 refine W rfl (O_arI rfl rfl rfl (ck_e w126).2 (W_re (congrArg sI (ck_e w126).1) ?_))
 refine go ?_
 exact jmpL (((y110.set (y112).toNat y90),(y111.set (y90).toNat (x121 ++ [y112])), x125, x126),(q114.set (y90).toNat q123)) e2 (tl [1, 1, 1, 1, 0] 0 rfl rfl)
 refine go ?_
 obtain rfl := so e2
 exact jmp ((y110, y111), q114) rfl (tl [0, 0, 0, 0, 0] 0 rfl rfl)
 rintro ⟨z, q127⟩ hi
 subst hi
 refine go ?_
 obtain ⟨x128,w128,e1⟩:=be e1
 refine W rfl (O_arI rfl rfl rfl (ck_e w128).2 (W_re (congrArg sI (ck_e w128).1) ?_))
 refine go ?_
 exact jmpL ((i93.1, i93.2, x128), q127) e1 (tl [0, 0, 0, 0, 0] 0 rfl rfl)
 refine go ?_
 obtain rfl := so e1
 exact jmp ((y88, y89), q91) rfl (tl [0, 0, 0, 0, 0] 0 rfl rfl)
 rintro ⟨z, q129⟩ hi
 subst hi
 refine gs ?_
 refine Wn (S_any [.isl .node r5, .val (sl q44), .val (sl q45), .val (sl q46)] tyS_31 rfl rfl rfl rfl (Nat.le_of_ble_eq_true rfl) rfl ?_)
 refine go ?_
 obtain rfl := so e0
 refine go ?_
 exact ret_ok (Turn.trans (T_sel [0, 1, 1, 1] 1 (bx8 b4 r5 q44 q45 q46 :: ownA (sl q44) 3 .int i48.1 :: ownA (sl q45) 3 .int i7.2.1 :: own2A (sl q46) 28 3 .int q129 i48.2 :: F) rfl) (Turn.trans (T_freezeB (sl q44) (k := .int) (.cons 94 rfl (.agg (.cons (.same _) (.cons .here (.cons (.same _) (.cons (.same _) .nil))))) .nil) (b := b4) (ThawL.cons (.same _) (ThawL.cons .here (ThawL.cons (.same _) (ThawL.cons (.same _) ThawL.nil))))) (Turn.trans (T_freezeB (sl q45) (k := .int) (.cons 94 rfl (.agg (.cons (.same _) (.cons (.same _) (.cons .here (.cons (.same _) .nil))))) .nil) (b := b4) (ThawL.cons (.same _) (ThawL.cons (.same _) (ThawL.cons .here (ThawL.cons (.same _) ThawL.nil))))) (Turn.trans (T_freezeB2 (sl q46) (.cons 94 rfl (.agg (.cons (.same _) (.cons (.same _) (.cons (.same _) (.cons .here .nil))))) .nil) (b := b4) (ThawL.cons (.same _) (ThawL.cons (.same _) (ThawL.cons (.same _) (ThawL.cons .here ThawL.nil))))) (T_le (E' := [(4, sP b4 0)]) (M' := bx9 b4 r5 i48.1 i7.2.1 i48.2 :: F) (.mk [0] 0 rfl ⟨rfl, trivial⟩)))))) [] 1 [.agg [.isl .node r5, .isl .int i48.1, .isl .int i7.2.1, .isl .ints i48.2]] [] (.agg (t := 4) b4 4 [.isl .node r5, .isl .int i48.1, .isl .int i7.2.1, .isl .ints i48.2] tyA_31 rfl rfl .nil) rfl ⟨rfl, rfl⟩
def F12_l19 (fuel : Nat) (a1 : List Tree) (a5 : List Tree) (a9 : List (Int × Int)) : Nat → List Bool → Int → Int → Option ((Unit ⊕ Bool))
 | 0, _, _, _ => none
 | n + 1, y36, y37, y38 =>
 bif (decide (y38 < (a9.length : Int))) then (
 (idx a9 y38).bind fun x40 =>
 Option.bind (α := Bool) (
 bif (decide (x40.1 ≤ y37)) then (
 some true) else (
 bif (decide (x40.1 ≥ (a1.length : Int))) then (
 some true) else (
 bif (decide (x40.2 < (0 : Int))) then (
 some true) else (
 bif (decide (x40.2 ≥ (a5.length : Int))) then (
 some true) else (
 (idx y36 x40.2).bind fun x46 =>
 bif x46 then (
 some true) else (
 (idx a1 x40.1).bind fun x48 =>
 (idx a5 x40.2).bind fun x49 =>
 some (x48.kind != x49.kind))))))) fun i41 =>
 bif i41 then (
 some (.inr false)) else (
 (idx y36 x40.2).bind fun x51 =>
 (ck (y38 + (1 : Int))).bind fun x52 =>
 F12_l19 fuel a1 a5 a9 n (y36.set (x40.2).toNat true) x40.1 x52)) else (
 some (.inl ()))
def F12 (fuel : Nat) (a1 : List Tree) (a2 : List Int) (a3 : List Int) (a4 : List (List Int)) (a5 : List Tree) (a6 : List Int) (a7 : List Int) (a8 : List (List Int)) (a9 : List (Int × Int)) : Option (Bool) :=
 Option.bind (α := Bool) (
 bif ((a9.length : Int) == (0 : Int)) then (
 some true) else (
 (idx a9 (0 : Int)).bind fun x14 =>
 some (!(x14.1 == (0 : Int) && x14.2 == (0 : Int))))) fun i12 =>
 bif i12 then (
 some false) else (
 if 0 ≤ (a5.length : Int) ∧ (a5.length : Int) ≤ (a5.length : Int) ∧ (1 : Int) * (a5.length : Int) ≤ 281474976710656 ∧ (a5.length : Int) ≤ 1000000000 then (
 Option.bind (α := (Unit ⊕ Bool)) (
 F12_l19 fuel a1 a5 a9 fuel (List.replicate ((a5.length : Int)).toNat false) (-1 : Int) (0 : Int)) (Sum.elim (fun i18 =>
 some true) (fun z => some z))) else none)
theorem F12_ok {w0 : World} (hG : Globs w0) (fuel : Nat) : ∀ (a1 : List Tree) (a2 : List Int) (a3 : List Int) (a4 : List (List Int)) (a5 : List Tree) (a6 : List Int) (a7 : List Int) (a8 : List (List Int)) (a9 : List (Int × Int)) {r : Bool} (e0 : F12 fuel a1 a2 a3 a4 a5 a6 a7 a8 a9 = some r), Fn w0 prog 12 [.agg [.isl .node a1, .isl .int a2, .isl .int a3, .isl .ints a4], .agg [.isl .node a5, .isl .int a6, .isl .int a7, .isl .ints a8], .isl .pair a9] [] (fun s H => s = sB r ∧ H = []) := by
 intro a1 a2 a3 a4 a5 a6 a7 a8 a9 r e0
 rw [F12] at e0
 refine fn_intro2 88 [.tmp 6] func12 rfl rfl rfl rfl fun X hX F => ?_
 refine C_turn (T_start [(0, .agg [.isl .node a1, .isl .int a2, .isl .int a3, .isl .ints a4]),(1, .agg [.isl .node a5, .isl .int a6, .isl .int a7, .isl .ints a8]),(2, .isl .pair a9)] rfl (F) rfl) ?_
 refine gs ?_
 refine W rfl (O_box rfl rfl fun b10 => ?_)
 refine W rfl (O_box rfl rfl fun b11 => ?_)
 refine go ?_
 refine C_seq ?_
 obtain ⟨i12,e1,e0⟩:=be e0
 refine C_cut (ι := Bool) (fun i => [(2, .isl .pair a9),(3, sP b10 0),(4, sP b11 0),(21, sB i)]) (fun i => bx9 b10 a1 a2 a3 a4 :: bx9 b11 a5 a6 a7 a8 :: F) (fun i => i12 = i) ?_ ?_
 refine go ?_
 obtain ⟨hg13, e1⟩ | ⟨hg13, e1⟩ := bc e1
 refine go ?_
 exact jm e1 (tl [1, 0] 0 rfl rfl)
 refine Wt rfl rfl rfl hg13 rfl rfl (O_move rfl ?_)
 obtain ⟨x14,w14,e1⟩:=be e1
 refine Wt rfl rfl rfl hg13 rfl rfl (O_indexAddr (k := .pair) (z := x14) tyL_25 rfl rfl (idx_e w14).1 (idx_e w14).2 ?_)
 refine Wt rfl rfl rfl hg13 rfl rfl (O_load_ipt_all (k := .pair) tyA_39 rfl ?_)
 refine Wt rfl rfl rfl hg13 rfl rfl (O_build (ss := [(0, sI (0 : Int)),(1, sI (0 : Int))]) tyZ_39 tyP_39 rfl rfl rfl ?_)
 refine Wt rfl rfl rfl hg13 rfl rfl (O_nePair typ_39 rfl rfl ?_)
 refine go ?_
 exact jm e1 (tl [1, 0] 0 rfl rfl)
 rintro z hi
 subst hi
 refine C_cd rfl e0 (fun e0 => ?_) (fun e0 => ?_)
 refine gs ?_
 obtain rfl := so e0
 refine go ?_
 exact rt [] 2 ⟨rfl, rfl⟩ rfl rfl
 refine go ?_
 refine gs ?_
 obtain ⟨h16, e0⟩ := req_e e0
 refine W rfl (O_make (by_ := 1) (k := .bool) false tyE_58 tyZ_4 (RepImpL.cons (RepImp.refl _) RepImpL.nil) rfl rfl h16 fun q17 => ?_)
 refine go ?_
 refine gs ?_
 obtain ⟨o18,e1,e0⟩:=be e0
 refine C_cut (ι := Unit) (fun i => []) (fun i => F) (fun i => o18 = .inl ()) ?_ ?_
 refine gs ?_
 refine C_loopF (κ := (List Bool × Int × Int)) (fun d => [(2, .isl .pair a9),(3, sP b10 0),(4, sP b11 0),(7, .val (sl q17)),(8, sI d.2.1),(9, sI d.2.2)]) (fun d => bx9 b10 a1 a2 a3 a4 :: bx9 b11 a5 a6 a7 a8 :: ownA (sl q17) 4 .bool d.1 :: F) (fun n d => F12_l19 fuel a1 a5 a9 n d.1 d.2.1 d.2.2) o18 fuel ((List.replicate ((a5.length : Int)).toNat false),(-1 : Int),(0 : Int)) e1 (tl [1, 1, 0] 0 rfl rfl) (fun _ => rfl) ?_
 rintro n ⟨y36, y37, y38⟩ hF
 have e1 : F12_l19 fuel a1 a5 a9 (n + 1) y36 y37 y38 = some o18 := hF
 rw [F12_l19] at e1
 clear hF
 refine C_seq ?_
 refine gs ?_
 refine C_cd rfl e1 (fun e1 => ?_) (fun e1 => ?_)
 refine go ?_
 refine gs ?_
 refine C_seq ?_
 refine C_draw2 [(0,fr),(1,fr),(2,fr),(3,fr),(4,fr),(5,fr),(6,fr),(7,fr),(8,fr),(9,fr),(10,fr),(11,fr)] [false, false, false] [] (bx9 b10 a1 a2 a3 a4 :: bx9 b11 a5 a6 a7 a8 :: ownA (sl q17) 4 .bool y36 :: F) rfl rfl rfl (by kernel_rfl) rfl ?_
 refine gd ?_
 obtain ⟨x40,w40,e1⟩:=be e1
 refine D_free rfl rfl (fun G => O_indexAddr (k := .pair) (z := x40) tyL_25 (lk rfl rfl) (lk rfl rfl) (idx_e w40).1 (idx_e w40).2 ⟨rfl, rfl⟩) ?_
 refine D_free rfl rfl (fun G => O_arr_ipt 0 tyR_39 (lk rfl rfl) (lk rfl rfl) rfl ⟨rfl, rfl⟩) ?_
 refine gd ?_
 refine D_free rfl rfl (fun G => O_indexAddr (k := .pair) (z := x40) tyL_25 (lk rfl rfl) (lk rfl rfl) (idx_e w40).1 (idx_e w40).2 ⟨rfl, rfl⟩) ?_
 refine D_free rfl rfl (fun G => O_arr_ipt 1 tyR_39 (lk rfl rfl) (lk rfl rfl) rfl ⟨rfl, rfl⟩) ?_
 refine gd ?_
 refine D_nil ?_
 refine C_seq ?_
 obtain ⟨i41,e2,e1⟩:=be e1
 refine C_cut (ι := Bool) (fun i => [(2, .isl .pair a9),(3, sP b10 0),(4, sP b11 0),(7, .val (sl q17)),(9, sI y38),(10, sI x40.1),(11, sI x40.2),(83, sB i)]) (fun i => bx9 b10 a1 a2 a3 a4 :: bx9 b11 a5 a6 a7 a8 :: ownA (sl q17) 4 .bool y36 :: F) (fun i => i41 = i) ?_ ?_
 refine C_draw2 [(0,fr),(1,fr),(2,fr),(3,fr),(4,fr),(5,fr),(6,pu),(7,fr),(8,fr),(9,fr),(10,fr),(11,fr),(12,fr),(13,fr),(14,fr),(15,fr),(16,fr),(17,pu),(18,fr),(19,fr),(20,fr),(21,fr),(22,fr),(23,fr),(24,pu),(25,pu),(26,fr),(27,fr),(28,fr),(29,pu),(30,fr),(31,fr),(32,fr),(33,fr),(34,fr),(35,pu),(36,fr),(37,fr),(38,fr),(39,fr),(40,fr),(41,fr)] [false, false, false] [] (bx9 b10 a1 a2 a3 a4 :: bx9 b11 a5 a6 a7 a8 :: ownA (sl q17) 4 .bool y36 :: F) rfl rfl rfl (by kernel_rfl) rfl ?_
 refine gd ?_
 obtain ⟨hg42, e2⟩ | ⟨hg42, e2⟩ := bc e2
 refine gd ?_
 refine D_nil ?_
 exact jm e2 (tl [0, 0, 0] 0 rfl rfl)
 refine gd ?_
 obtain ⟨hg43, e2⟩ | ⟨hg43, e2⟩ := bc e2
 refine gd ?_
 refine D_nil ?_
 exact jm e2 (tl [0, 0, 0] 0 rfl rfl)
 refine gd ?_
 obtain ⟨hg44, e2⟩ | ⟨hg44, e2⟩ := bc e2
 refine gd ?_
 refine D_nil ?_
 exact jm e2 (tl [0, 0, 0] 0 rfl rfl)
 refine gd ?_
 obtain ⟨hg45, e2⟩ | ⟨hg45, e2⟩ := bc e2
 refine gd ?_
 refine D_nil ?_
 exact jm e2 (tl [0, 0, 0] 0 rfl rfl)
 refine gd ?_
 obtain ⟨x46,w46,e2⟩:=be e2
 refine D_pureT rfl rfl rfl (lg rfl rfl) hg45 (fun G => O_indexAddr_own (k := .bool) tyL_58 (lk rfl rfl) (lk rfl rfl) (idx_lt w46).1 (idx_lt w46).2 ⟨rfl, rfl⟩) ?_
 refine D_pureT rfl rfl rfl (lg rfl rfl) hg45 (fun G => O_load_opt (k := .bool) (i := (x40.2).toNat) (j := 0) ty1_4 (lk rfl rfl) rfl (idx_e w46).2 rfl ⟨rfl, rfl⟩) ?_
 refine gd ?_
 obtain ⟨hg47, e2⟩ | ⟨hg47, e2⟩ := bc e2
 refine gd ?_
 refine D_nil ?_
 exact jm e2 (tl [0, 0, 0] 0 rfl rfl)
 refine gd ?_
 obtain ⟨x48,w48,e2⟩:=be e2
 refine D_freeT rfl rfl rfl (lg rfl rfl) hg47 (fun G => O_indexAddr (k := .node) (z := x48) tyL_22 (lk rfl rfl) (lk rfl rfl) (idx_e w48).1 (idx_e w48).2 ⟨rfl, rfl⟩) ?_
 refine gd ?_
 obtain ⟨x49,w49,e2⟩:=be e2
 refine D_freeT rfl rfl rfl (lg rfl rfl) hg47 (fun G => O_indexAddr (k := .node) (z := x49) tyL_22 (lk rfl rfl) (lk rfl rfl) (idx_e w49).1 (idx_e w49).2 ⟨rfl, rfl⟩) ?_
 refine gd ?_
 refine D_nil ?_
 exact jm e2 (tl [0, 0, 0] 0 rfl rfl)
 rintro z hi
 subst hi
 refine C_cd rfl e1 (fun e1 => ?_) (fun e1 => ?_)
 refine gs ?_
 obtain rfl := so e1
 obtain rfl := so e0
 refine go ?_
 exact rt [] 3 ⟨rfl, rfl⟩ rfl rfl
 refine go ?_
 refine gs ?_
 obtain ⟨x51,w51,e1⟩:=be e1
 refine W rfl (O_indexAddr_own (k := .bool) tyL_58 rfl rfl (idx_lt w51).1 (idx_lt w51).2 ?_)
 refine Wn (O_store_opt (k := .bool) (i := (x40.2).toNat) (j := 0) (z' := true) tyS_4 rfl rfl rfl rfl rfl (idx_e w51).2 rfl (by decide) ?_)
 refine go ?_
 obtain ⟨x52,w52,e1⟩:=be e1
 refine W rfl (O_arI rfl rfl rfl (ck_e w52).2 (W_re (congrArg sI (ck_e w52).1) ?_))
 refine go ?_
 exact jmpL ((y36.set (x40.2).toNat true), x40.1, x52) e1 (tl [0, 0, 0] 0 rfl rfl)
 refine go ?_
 obtain rfl := so e1
 exact jmp () rfl (tl [] 3 rfl rfl)
 rintro ⟨⟩ hi
 subst hi
 have e0 := elim_l e0
 refine gs ?_
 obtain rfl := so e0
 refine go ?_
 exact rt [] 0 ⟨rfl, rfl⟩ rfl rfl
def F3 (fuel : Nat) (a1 : Tree) (a2 : Tree) (a3 : List (Int × Int)) : Option (Bool) :=
 Option.bind (α := Bool) (
 (F7 fuel a1).bind fun r7 =>
 bif (!r7) then (
 some true) else (
 (F7 fuel a2).bind fun r9 =>
 bif (!r9) then (
 some true) else (
 some (decide ((a3.length : Int) > (500 : Int)))))) fun i6 =>
 bif i6 then (
 (F8 fuel).bind fun r12 =>
 some r12) else (
 (F9 fuel a1 (401 : Int)).bind fun r15 =>
 (F9 fuel a2 (401 : Int)).bind fun r16 =>
 (F10 fuel a1 a2).bind fun r17 =>
 Option.bind (α := Bool) (
 (F8 fuel).bind fun r19 =>
 bif r19 then (
 (F11 fuel a1 a2 a3).bind fun r21 =>
 (F12 fuel r15.1 r15.2.1 r15.2.2.1 r15.2.2.2 r16.1 r16.2.1 r16.2.2.1 r16.2.2.2 a3).bind fun r22 =>
 bif (r21 == r22) then (
 (F11 fuel a1 a2 r17.1).bind fun r24 =>
 some (r24 == (a1.kind == a2.kind))) else (
 some false)) else (
 some false)) fun i18 =>
 some i18)
theorem F3_ok {w0 : World} (hG : Globs w0) (fuel : Nat) : ∀ (a1 : Tree) (a2 : Tree) (a3 : List (Int × Int)) {r : Bool} (e0 : F3 fuel a1 a2 a3 = some r), Fn w0 prog 3 [.agg [sI a1.kind, sS a1.text, sS a1.trail, .isl .node a1.kids], .agg [sI a2.kind, sS a2.text, sS a2.trail, .isl .node a2.kids], .isl .pair a3] [] (fun s H => s = sB r ∧ H = []) := by
 intro a1 a2 a3 r e0
 rw [F3] at e0
 refine fn_intro2 59 [.tmp 6] func3 rfl rfl rfl rfl fun X hX F => ?_
 refine C_turn (T_start [(0, .agg [sI a1.kind, sS a1.text, sS a1.trail, .isl .node a1.kids]),(1, .agg [sI a2.kind, sS a2.text, sS a2.trail, .isl .node a2.kids]),(2, .isl .pair a3)] rfl (F) rfl) ?_
 refine gs ?_
 refine W rfl (O_box rfl rfl fun b4 => ?_)
 refine W rfl (O_box rfl rfl fun b5 => ?_)
 refine go ?_
 refine C_seq ?_
 obtain ⟨i6,e1,e0⟩:=be e0
 refine C_cut (ι := Bool) (fun i => [(2, .isl .pair a3),(3, sP b4 0),(4, sP b5 0),(23, sB i)]) (fun i => bx1 b4 a1.kind a1.text a1.trail a1.kids :: bx1 b5 a2.kind a2.text a2.trail a2.kids :: F) (fun i => i6 = i) ?_ ?_
 refine go ?_
 obtain ⟨r7,hr7,e1⟩:=be e1
 refine W rfl (O_callP fn_7 rfl (F7_ok hG fuel a1 hr7) ?_)
 refine go ?_
 obtain ⟨hg8, e1⟩ | ⟨hg8, e1⟩ := bc e1
 refine go ?_
 exact jm e1 (tl [1, 0] 0 rfl rfl)
 refine Wt rfl rfl rfl hg8 rfl rfl (O_load_all tyA_24 rfl rfl ?_)
 obtain ⟨r9,hr9,e1⟩:=be e1
 refine Wt rfl rfl rfl hg8 rfl rfl (O_callP fn_7 rfl (F7_ok hG fuel a2 hr9) ?_)
 refine Wt rfl rfl rfl hg8 rfl rfl (O_not rfl ?_)
 refine go ?_
 obtain ⟨hg10, e1⟩ | ⟨hg10, e1⟩ := bc e1
 refine go ?_
 exact jm e1 (tl [1, 0] 0 rfl rfl)
 refine Wt rfl rfl rfl hg10 rfl rfl (O_move rfl ?_)
 refine Wt rfl rfl rfl hg10 rfl rfl (O_len_isl tyl_25 rfl ?_)
 refine Wt rfl rfl rfl hg10 rfl rfl (O_cmp rfl rfl rfl ?_)
 refine go ?_
 exact jm e1 (tl [1, 0] 0 rfl rfl)
 rintro z hi
 subst hi
 refine C_cd rfl e0 (fun e0 => ?_) (fun e0 => ?_)
 refine gs ?_
 obtain ⟨r12,hr12,e0⟩:=be e0
 refine W rfl (O_callP fn_8 rfl (F8_ok hG fuel hr12) ?_)
 refine go ?_
 obtain rfl := so e0
 refine go ?_
 exact rt [] 2 ⟨rfl, rfl⟩ rfl rfl
 refine go ?_
 refine C_seq ?_
 refine C_draw2 [(0,pu),(2,pu),(4,nw),(5,nw),(1,mn),(3,mn),(6, .take),(7,mn)] [false, false] [] (bx1 b4 a1.kind a1.text a1.trail a1.kids :: bx1 b5 a2.kind a2.text a2.trail a2.kids :: F) rfl rfl rfl (by kernel_rfl) rfl ?_
 refine gd ?_
 refine D_new rfl rfl ⟨4, Nat, fun b13 => sP b13 0, fun b13 => boxA b13 31 [.val (.slice none 0 0), .val (.slice none 0 0), .val (.slice none 0 0), .val (.slice none 0 0)]⟩ rfl (fun G => O_alloc tyZ_31 rfl fun b13 => ⟨b13, rfl, rfl⟩) ?_
 refine D_new rfl rfl ⟨5, Nat, fun b14 => sP b14 0, fun b14 => boxA b14 31 [.val (.slice none 0 0), .val (.slice none 0 0), .val (.slice none 0 0), .val (.slice none 0 0)]⟩ rfl (fun G => O_alloc tyZ_31 rfl fun b14 => ⟨b14, rfl, rfl⟩) ?_
 obtain ⟨r15,hr15,e0⟩:=be e0
 refine D_main rfl (D_mainX rfl fun G => O_callP fn_9 rfl (F9_ok hG fuel a1 (401 : Int) hr15) (D_end ?_))
 obtain ⟨r16,hr16,e0⟩:=be e0
 refine D_main rfl (D_mainX rfl fun G => O_callP fn_9 rfl (F9_ok hG fuel a2 (401 : Int) hr16) (D_end ?_))
 refine D_take _ _ rfl rfl rfl (fun b14 b13 => ?_)
 refine D_mainX rfl fun G => S_any [.isl .node r15.1, .isl .int r15.2.1, .isl .int r15.2.2.1, .isl .ints r15.2.2.2] tyS_31 (lk rfl rfl) (lk rfl rfl) rfl rfl (Nat.le_of_ble_eq_true rfl) rfl (D_end ?_)
 refine D_main rfl (D_mainX rfl fun G => S_any [.isl .node r16.1, .isl .int r16.2.1, .isl .int r16.2.2.1, .isl .ints r16.2.2.2] tyS_31 (lk rfl rfl) (lk rfl rfl) rfl rfl (Nat.le_of_ble_eq_true rfl) rfl (D_end ?_))
 refine D_nil ?_
 refine gs ?_
 obtain ⟨r17,hr17,e0⟩:=be e0
 refine W rfl (O_callP fn_10 rfl (F10_ok hG fuel a1 a2 hr17) ?_)
 refine go ?_
 obtain ⟨i18,e1,e0⟩:=be e0
 refine C_cut (ι := Bool) (fun i => [(6, sB i)]) (fun i => F) (fun i => i18 = i) ?_ ?_
 refine C_draw2 [(0,mn),(1,fr),(2,pu),(3,pu),(4,fr),(6,pu),(7,pu),(8,fr),(5,mn),(9,mn),(10,fr),(11,fr),(12,fr),(13,pu),(14,pu),(15,fr),(17,fr),(18,pu),(19,fr),(20,pu),(21,fr),(16,mn),(22,fr),(23,fr),(24,fr)] [false, false, false, false] [] (bx9 b13 r15.1 r15.2.1 r15.2.2.1 r15.2.2.2 :: bx9 b14 r16.1 r16.2.1 r16.2.2.1 r16.2.2.2 :: bx1 b4 a1.kind a1.text a1.trail a1.kids :: bx1 b5 a2.kind a2.text a2.trail a2.kids :: F) rfl rfl rfl (by kernel_rfl) rfl ?_
 obtain ⟨r19,hr19,e1⟩:=be e1
 refine D_main rfl (D_mainX rfl fun G => O_callP fn_8 rfl (F8_ok hG fuel hr19) (D_end ?_))
 refine gd ?_
 obtain ⟨hg20, e1⟩ | ⟨hg20, e1⟩ := bc e1
 refine gd ?_
 obtain ⟨r21,hr21,e1⟩:=be e1
 refine D_main rfl (D_mainT rfl rfl (lg rfl rfl) hg20 fun G => O_callP fn_11 rfl (F11_ok hG fuel a1 a2 a3 hr21) (D_end ?_))
 obtain ⟨r22,hr22,e1⟩:=be e1
 refine D_main rfl (D_mainT rfl rfl (lg rfl rfl) hg20 fun G => O_callP fn_12 rfl (F12_ok hG fuel r15.1 r15.2.1 r15.2.2.1 r15.2.2.2 r16.1 r16.2.1 r16.2.2.1 r16.2.2.2 a3 hr22) (D_end ?_))
 refine D_freeT rfl rfl rfl (lg rfl rfl) hg20 (fun G => O_beq tyb_4 (lk rfl rfl) (lk rfl rfl) ⟨rfl, rfl⟩) ?_
 refine gd ?_
 obtain ⟨hg23, e1⟩ | ⟨hg23, e1⟩ := bc e1
 refine gd ?_
 obtain ⟨r24,hr24,e1⟩:=be e1
 refine D_main rfl (D_mainT rfl rfl (lg rfl rfl) hg23 fun G => O_callP fn_11 rfl (F11_ok hG fuel a1 a2 r17.1 hr24) (D_end ?_))
 refine D_freeT rfl rfl rfl (lg rfl rfl) hg23 (fun G => O_beq tyb_4 (lk rfl rfl) (lk rfl rfl) ⟨rfl, rfl⟩) ?_
 refine gd ?_
 refine D_nil ?_
 exact jm e1 (tl [] 4 rfl rfl)
 refine gd ?_
 refine D_mainN rfl (guardIs_no rfl rfl (lg rfl rfl) hg23) ?_
 refine gd ?_
 refine D_nil ?_
 exact jm e1 (tl [] 4 rfl rfl)
 refine gd ?_
 refine D_mainN rfl (guardIs_no rfl rfl (lg rfl rfl) hg20) ?_
 refine D_mainN rfl (guardIs_no rfl rfl (lg rfl rfl) hg20) ?_
 refine gd ?_
 refine D_mainN rfl (guardIs_no rfl rfl (lg rfl rfl) rfl) ?_
 refine gd ?_
 refine D_nil ?_
 exact jm e1 (tl [] 4 rfl rfl)
 rintro z hi
 subst hi
 refine go ?_
 obtain rfl := so e0
 refine go ?_
 exact rt [] 0 ⟨rfl, rfl⟩ rfl rfl
end Go.Proofs.YtabojfgmbfnoiaaGreatDoor
end
section
/- A tree's nodes up to a number; few nodes and short texts. -/
set_option linter.unusedVariables false
set_option linter.unusedSimpArgs false
namespace Go.Proofs.YtabojfgmbfnoiaaGreatDoor
theorem lt_of_some {α : Type} {l : List α} {i : Nat} {z : α} (hz : l[i]? = some z) : i < l.length := by
  rcases Nat.lt_or_ge i l.length with q | q
  · exact q
  · rw [List.getElem?_eq_none q] at hz; cases hz
theorem take_succ' {α : Type} {l : List α} {i : Int} {z : α} (h : 0 ≤ i) (hz : l[i.toNat]? = some z) : l.take (i + 1).toNat = l.take i.toNat ++ [z] := by
  rw [show (i + 1).toNat = i.toNat + 1 by omega, List.take_add_one, hz]; rfl
theorem mem_of_get {α : Type} {l : List α} {i : Nat} {z : α} (hz : l[i]? = some z) : z ∈ l := List.mem_of_getElem? hz
theorem F22_t : ∀ (t : Tree) (most : Int), 1 ≤ most → most ≤ 100000 → T (fun a _ => F22 a t most) (· = t.nodes.take most.toNat) := by
  intro t
  induction t using Tree.rec' with
  | h t ih =>
    intro most h1 h2
    apply T.fuel
    simp only [F22]
    refine T.bind (P := (· = t.nodes.take most.toNat)) (T.diag (f := fun a n => F22_l6 (F22 a) a t most n [t] 0) ?_) (fun x h => T.ret h)
    refine T.loop (L := fun a n (s : List Tree × Int) => F22_l6 (F22 a) a t most n s.1 s.2) (fun s => 0 ≤ s.2 ∧ s.2 ≤ t.kids.length ∧ s.1 = (t :: nodesL (t.kids.take s.2.toNat)).take most.toNat) (fun s => t.kids.length - s.2.toNat) ?_ ([t], 0) ?_
    · rintro ⟨y, i⟩ ⟨i0, i1, e⟩ rec
      simp only at i0 i1 e rec ⊢
      simp only [F22_l6]
      have hn := length_le_nodesL (t.kids.take i.toNat)
      have hy : y.length = min most.toNat (1 + (nodesL (t.kids.take i.toNat)).length) := by rw [e, List.length_take, List.length_cons]; omega
      rw [List.length_take] at hn
      refine T.bbi (T.dec (fun q1 => T.bso (T.dec (fun q2 => ?_) (fun q2 => ?_))) (fun q1 => T.bso (T.bf rfl (T.ret ?_))))
      · refine T.idx' (by omega) (fun z hz => T.ck (by omega) (T.use _ (ih z (mem_of_get hz) _ (by omega) (by omega)) (T.req ?_ (T.ck (by omega) ?_))))
        · rw [List.length_take]; omega
        · refine rec (_, _) ⟨by simp only; omega, by simp only; omega, ?_⟩ (by simp only; omega)
          simp only
          rw [take_succ' i0 hz, nodesL_append, nodesL_one, ← List.cons_append, List.take_append, ← e, List.length_cons]
          congr 2
          omega
      · refine T.ret ?_
        rw [e, nodes_eq]
        have : y.length = most.toNat := by omega
        have hd := List.take_append_drop i.toNat t.kids
        conv => rhs; rw [← hd, nodesL_append, ← List.cons_append, List.take_append_of_le_length (by rw [List.length_cons]; omega)]
      · rw [e, nodes_eq, List.take_of_length_le (by omega : t.kids.length ≤ i.toNat)]
    · refine ⟨Int.le_refl _, by simp only; omega, ?_⟩
      simp only [show (0 : Int).toNat = 0 from rfl, List.take_zero, nodesL_nil]
      rw [List.take_of_length_le (by simp; omega)]
theorem F15_t (t : Tree) {most : Int} (h1 : 1 ≤ most) (h2 : most ≤ 100000) : T (fun a _ => F15 a t most) (· = ((min most.toNat t.card : Nat) : Int)) := by
  simp only [F15]
  exact T.use _ (F22_t t most h1 h2) (T.ret (by rw [List.length_take]; rfl))
/-- Texts are no longer. -/
def Short (u : Tree) : Prop := u.text.size ≤ 50000 ∧ u.trail.size ≤ 50000
theorem F19_t (t : Tree) : T (fun a _ => F19 a t) (fun r => r = true → ∀ u ∈ t.nodes.take 2001, Short u) := by
  simp only [F19]
  refine T.use _ (F22_t t 2001 (by omega) (by omega)) ?_
  have hlen : (t.nodes.take (2001 : Int).toNat).length ≤ 2001 := by rw [List.length_take]; omega
  refine T.bind (P := fun v => v = .inr false ∨ (v = .inl () ∧ ∀ u ∈ t.nodes.take 2001, Short u)) (T.diag (f := fun a n => F19_l5 a (t.nodes.take (2001 : Int).toNat) n 0 0) ?_) ?_
  · generalize hl : t.nodes.take (2001 : Int).toNat = l at hlen ⊢
    replace hl : t.nodes.take 2001 = l := hl
    rw [hl]
    refine T.loop (L := fun a n (s : Int × Int) => F19_l5 a l n s.1 s.2) (fun s => 0 ≤ s.2 ∧ s.2 ≤ l.length ∧ 0 ≤ s.1 ∧ s.1 ≤ 50000 ∧ ∀ u ∈ l.take s.2.toNat, Short u) (fun s => l.length - s.2.toNat) ?_ (0, 0) ⟨by simp, by simp, by simp, by simp, by simp⟩
    rintro ⟨s, i⟩ ⟨i0, i1, s0, s1, hs⟩ rec
    simp only at i0 i1 s0 s1 hs rec ⊢
    simp only [F19_l5]
    refine T.dec (fun q => T.idx' (by omega) fun z hz => T.ck ?_ (T.ck ?_ (T.dec (fun p => T.ret (.inl rfl)) fun p => T.ck (by omega) (rec (_, _) ⟨by simp only; omega, by simp only; omega, ?_, ?_, ?_⟩ (by simp only; omega))))) (fun q => T.ret (.inr ⟨rfl, ?_⟩))
    · split <;> omega
    · split <;> split <;> omega
    · simp only; split <;> split <;> omega
    · simp only; omega
    · simp only
      rw [take_succ' i0 hz]
      intro u hu
      rcases List.mem_append.1 hu with h | h
      · exact hs u h
      · simp only [List.mem_singleton] at h
        subst h
        split at p <;> split at p <;> first | omega | exact ⟨by omega, by omega⟩
    · intro u hu; exact hs u (by rw [List.take_of_length_le (by omega)]; exact hu)
  · rintro v (rfl | ⟨rfl, h⟩)
    · exact T.ret (by simp)
    · exact T.ret (fun _ => h)
/-- Few nodes, short texts. -/
def Few (t : Tree) : Prop := t.card ≤ 400 ∧ ∀ u ∈ t.nodes, Short u
theorem F7_t (t : Tree) : T (fun a _ => F7 a t) (fun r => r = true → Few t) := by
  simp only [F7]
  refine T.bind (P := fun r => r = true → Few t) ?_ (fun x h => T.ret h)
  refine T.bind (F19_t t) fun r h => T.bif (fun hr => ?_) (fun _ => T.ret (by simp))
  refine T.use _ (F15_t t (by omega) (by omega)) (T.ret ?_)
  intro q
  have : t.card ≤ 400 := by simp at q; omega
  refine ⟨this, fun u hu => h hr u ?_⟩
  rw [List.take_of_length_le (by show t.card ≤ 2001; omega)]; exact hu
end Go.Proofs.YtabojfgmbfnoiaaGreatDoor
end
section
/- Copies, plans, repeated numbers. -/
set_option linter.unusedVariables false
set_option linter.unusedSimpArgs false
namespace Go.Proofs.YtabojfgmbfnoiaaGreatDoor
theorem F35_t : ∀ (t : Tree), t.card ≤ 100000 → T (fun a _ => F35 a t) (· = (t.kind, t.text, t.trail, t.kids)) := by
  intro t
  induction t using Tree.rec' with
  | h t ih =>
    intro hc
    have hk := length_le_nodesL t.kids
    rw [card_eq] at hc
    apply T.fuel
    simp only [F35]
    refine T.req ⟨by omega, by omega, by omega, by omega⟩ ?_
    refine T.use t.kids (T.diag (f := fun a n => F35_l7 (F35 a) a t n (List.replicate ((0 : Int)).toNat (Tree.mk (0 : Int) (⟨#[]⟩ : ByteArray) (⟨#[]⟩ : ByteArray) [])) 0) ?_) (T.ret rfl)
    refine T.loop (L := fun a n (s : List Tree × Int) => F35_l7 (F35 a) a t n s.1 s.2) (fun s => 0 ≤ s.2 ∧ s.2 ≤ t.kids.length ∧ s.1 = t.kids.take s.2.toNat) (fun s => t.kids.length - s.2.toNat) ?_ (_, 0) ⟨by simp, by simp, by simp⟩
    rintro ⟨y, i⟩ ⟨i0, i1, e⟩ rec
    simp only at i0 i1 e rec ⊢
    simp only [F35_l7]
    refine T.dec (fun q => T.idx' (by omega) fun z hz => T.use _ (ih z (mem_of_get hz) ?_) (T.req ?_ (T.ck (by omega) (rec (_, _) ⟨by simp only; omega, by simp only; omega, ?_⟩ (by simp only; omega))))) (fun q => T.ret ?_)
    · have := mem_card (mem_of_get hz); omega
    · rw [e, List.length_take]; simp only [List.length_cons, List.length_nil]; omega
    · simp only
      rw [take_succ' i0 hz, e, Tree.eta]
    · rw [e, List.take_of_length_le (by omega)]
/-- What each node's tree counts. -/
abbrev cards (l : List Tree) : List Int := l.map fun u => (u.card : Int)
theorem cards_nodes (t : Tree) : cards t.nodes = (t.card : Int) :: cards (nodesL t.kids) := by rw [nodes_eq]; rfl
theorem F34_t : ∀ (t : Tree) (ns : List Tree) (ps ss : List Int) (ks : List (List Int)) (par : Int), ns.length + t.card ≤ 100000 → ps.length = ns.length → ss.length = ns.length → ks.length = ns.length → T (fun a _ => F34 a ns ps ss ks t par) (fun r => r.1 = ns ++ t.nodes ∧ r.2.1.length = ns.length + t.card ∧ r.2.2.1 = ss ++ cards t.nodes ∧ r.2.2.2.1 = ks ++ t.plan ns.length ∧ r.2.2.2.2 = ns.length) := by
  intro t
  induction t using Tree.rec' with
  | h t ih =>
    intro ns ps ss ks par hc h1 h2 h3
    have hk := length_le_nodesL t.kids
    have hc' := hc
    rw [card_eq] at hc
    apply T.fuel
    simp only [F34]
    have one : ∀ {α : Type} (x : α), [x].length = 1 := fun _ => rfl
    refine T.req (by rw [one]; omega) (T.req (by rw [one]; omega) (T.req (by rw [one]; omega) (T.req (by omega) ?_)))
    refine T.bind (P := fun r => r.1 = ns ++ t.nodes ∧ r.2.1.length = ns.length + t.card ∧ r.2.2.1 = ss ++ 0 :: cards (nodesL t.kids) ∧ r.2.2.2 = ks ++ t.plan ns.length) (T.diag (f := fun a n => F34_l27 (F34 a) a ns t n (ns ++ [t]) (ps ++ [par]) (ss ++ [(0 : Int)]) (ks ++ [[]]) 0) ?_) ?_
    · refine T.loop (L := fun a n (s : List Tree × List Int × List Int × List (List Int) × Int) => F34_l27 (F34 a) a ns t n s.1 s.2.1 s.2.2.1 s.2.2.2.1 s.2.2.2.2) (fun s => 0 ≤ s.2.2.2.2 ∧ s.2.2.2.2 ≤ t.kids.length ∧ s.1 = ns ++ t :: nodesL (t.kids.take s.2.2.2.2.toNat) ∧ s.2.1.length = ns.length + 1 + (nodesL (t.kids.take s.2.2.2.2.toNat)).length ∧ s.2.2.1 = ss ++ 0 :: cards (nodesL (t.kids.take s.2.2.2.2.toNat)) ∧ s.2.2.2.1 = ks ++ posL (ns.length + 1) (t.kids.take s.2.2.2.2.toNat) :: planL (t.kids.take s.2.2.2.2.toNat) (ns.length + 1)) (fun s => t.kids.length - s.2.2.2.2.toNat) ?_ (_, _, _, _, 0) ⟨by simp, by simp, by simp [nodesL_nil], by simp [nodesL_nil, h1], by simp [nodesL_nil], by simp [nodesL_nil, planL_nil, posL]⟩
      rintro ⟨y1, y2, y3, y4, i⟩ ⟨i0, i1, e1, e2, e3, e4⟩ rec
      simp only at i0 i1 e1 e2 e3 e4 rec ⊢
      simp only [F34_l27]
      refine T.dec (fun q => T.idx' (by omega) fun z hz => ?_) (fun q => T.ret ?_)
      · have hz1 : (nodesL (t.kids.take i.toNat)).length + z.card ≤ (nodesL t.kids).length := by
          have hd := List.take_append_drop i.toNat t.kids
          have : z ∈ t.kids.drop i.toNat := by
            have : (t.kids.drop i.toNat)[0]? = some z := by rw [List.getElem?_drop, Nat.add_zero]; exact hz
            exact mem_of_get this
          have := mem_card this
          conv => rhs; rw [← hd, nodesL_append, List.length_append]
          omega
        have l1 : y1.length = ns.length + 1 + (nodesL (t.kids.take i.toNat)).length := by rw [e1, List.length_append, List.length_cons]; omega
        have l3 : y3.length = y1.length := by rw [e3, l1, List.length_append, List.length_cons, List.length_map]; omega
        have l4 : y4.length = y1.length := by rw [e4, l1, List.length_append, List.length_cons, planL_length]; omega
        refine T.bind (ih z (mem_of_get hz) y1 y2 y3 y4 ns.length (by omega) (by omega) (by omega) (by omega)) fun r hr => ?_
        obtain ⟨r1, r2, r3, r4, r5⟩ := r
        obtain ⟨g1, g2, g3, g4, g5⟩ := hr
        simp only at g1 g2 g3 g4 g5 ⊢
        have hget : r4[((ns.length : Nat) : Int).toNat]? = some (posL (ns.length + 1) (t.kids.take i.toNat)) := by
          rw [g4, e4, List.append_assoc, List.getElem?_append_right (by omega)]
          simp [h3]
        refine T.idx (by omega) hget ?_
        refine T.req ?_ (T.ck (by omega) (rec (_, _, _, _, _) ⟨by simp only; omega, by simp only; omega, ?_, ?_, ?_, ?_⟩ (by simp only; omega)))
        · rw [posL_length, List.length_take, one]; omega
        · simp only
          rw [take_succ' i0 hz, nodesL_append, nodesL_one, g1, e1]; simp
        · simp only
          rw [take_succ' i0 hz, nodesL_append, nodesL_one, List.length_append, g2, l1]; show _ = _ + (_ + z.nodes.length); unfold Tree.card; omega
        · simp only
          rw [take_succ' i0 hz, nodesL_append, nodesL_one, g3, e3]; simp [cards]
        · simp only
          rw [take_succ' i0 hz, posL_append, planL_append, planL_cons, planL_nil, List.append_nil, g4, e4, g5, List.append_assoc, List.set_append_right _ _ (by omega), show ((ns.length : Nat) : Int).toNat - ks.length = 0 by omega, l1]
          simp [posL]
      · rw [List.take_of_length_le (by omega : t.kids.length ≤ i.toNat)] at e1 e2 e3 e4
        simp only
        exact ⟨by rw [e1, nodes_eq], by rw [e2, card_eq]; omega, e3, by rw [e4, plan_eq]⟩
    · rintro ⟨r1, r2, r3, r4⟩ ⟨g1, g2, g3, g4⟩
      simp only at g1 g2 g3 g4 ⊢
      have hl : r1.length = ns.length + t.card := by rw [g1, List.length_append]; rfl
      refine T.ck (by omega) (T.idx' ?_ fun z hz => T.ret ⟨g1, g2, ?_, g4, rfl⟩)
      · rw [g3, List.length_append, List.length_cons]; omega
      · simp only
        rw [g3, List.set_append_right _ _ (by omega), show ((ns.length : Nat) : Int).toNat - ss.length = 0 by omega, List.set_cons_zero, cards_nodes, hl]
        congr 2; omega
/-- A tree's plan, as it is reckoned. -/
def PlanOf (t : Tree) (r : List Tree × List Int × List Int × List (List Int)) : Prop := r.1 = t.nodes ∧ r.2.1.length = t.card ∧ r.2.2.1 = cards t.nodes ∧ r.2.2.2 = t.plan 0
theorem F23_t (t : Tree) (hc : t.card ≤ 100000) : T (fun a _ => F23 a t) (PlanOf t) := by
  simp only [F23]
  refine T.use _ (F35_t t hc) (T.bind (F34_t _ [] [] [] [] (-1) ?_ rfl rfl rfl) fun r hr => T.ret ?_)
  · rw [Tree.eta]; simpa using hc
  · rw [Tree.eta] at hr
    obtain ⟨g1, g2, g3, g4, g5⟩ := hr
    exact ⟨by simpa using g1, by simpa using g2, by simpa using g3, by simpa using g4⟩
end Go.Proofs.YtabojfgmbfnoiaaGreatDoor
end
section
/- The document's plan; a row of one number. -/
set_option linter.unusedVariables false
set_option linter.unusedSimpArgs false
namespace Go.Proofs.YtabojfgmbfnoiaaGreatDoor
theorem get_of_lt {α : Type} {l : List α} {i : Nat} (h : i < l.length) : ∃ z, l[i]? = some z ∧ z ∈ l := ⟨l[i], List.getElem?_eq_getElem h, List.getElem_mem h⟩
theorem F9_t (t : Tree) (hc : t.card ≤ 400) : T (fun a _ => F9 a t 401) (fun r => r.1 = t.nodes) := by
  simp only [F9]
  refine T.use _ (F22_t t 401 (by omega) (by omega)) ?_
  rw [List.take_of_length_le (by show t.card ≤ _; omega)]
  have hN : t.nodes.length ≤ 400 := hc
  have hkids : ∀ u ∈ t.nodes, u.kids.length ≤ 400 := fun u hu => by
    have h1 := length_le_nodesL u.kids
    have h2 := card_mem hu
    rw [card_eq] at h2; omega
  generalize t.nodes = l at hN hkids
  refine T.bind (P := fun (r : List Int × List Int × List (List Int)) => r.1.length = l.length ∧ r.2.1.length = l.length ∧ (∀ x ∈ r.2.1, 0 ≤ x ∧ x ≤ 401) ∧ r.2.2 = List.replicate l.length []) (T.diag (f := fun a n => F9_l8 a 401 l n [] [] [] 0) ?_) ?_
  · refine T.loop (L := fun a n (s : List Int × List Int × List (List Int) × Int) => F9_l8 a 401 l n s.1 s.2.1 s.2.2.1 s.2.2.2) (fun s => 0 ≤ s.2.2.2 ∧ s.2.2.2 ≤ l.length ∧ s.1.length = s.2.2.2 ∧ s.2.1.length = s.2.2.2 ∧ (∀ x ∈ s.2.1, 0 ≤ x ∧ x ≤ 401) ∧ s.2.2.1 = List.replicate s.2.2.2.toNat []) (fun s => l.length - s.2.2.2.toNat) ?_ (_, _, _, 0) ⟨by simp, by simp, by simp, by simp, by simp, by simp⟩
    rintro ⟨y1, y2, y3, i⟩ ⟨i0, i1, e1, e2, e3, e4⟩ rec
    simp only at i0 i1 e1 e2 e3 e4 rec ⊢
    simp only [F9_l8]
    have one : ∀ {α : Type} (x : α), [x].length = 1 := fun _ => rfl
    refine T.dec (fun q => T.idx' (by omega) fun z hz => T.use _ (F15_t z (by omega) (by omega)) (T.req (by rw [one]; omega) (T.req (by rw [one]; omega) (T.req (by rw [e4, List.length_replicate]; omega) (T.ck (by omega) (rec (_, _, _, _) ⟨by simp only; omega, by simp only; omega, by simp only [List.length_append, one]; omega, by simp only [List.length_append, one]; omega, ?_, ?_⟩ (by simp only; omega))))))) (fun q => T.ret ⟨by simp only; omega, by simp only; omega, e3, ?_⟩)
    · simp only
      intro x hx
      rcases List.mem_append.1 hx with h | h
      · exact e3 x h
      · simp only [List.mem_singleton] at h; omega
    · simp only
      rw [show (i + 1).toNat = i.toNat + 1 by omega, List.replicate_succ', e4]
    · simp only
      rw [e4]; congr 1; omega
  rintro ⟨q1, q2, q3⟩ ⟨g1, g2, g3, g4⟩
  simp only at g1 g2 g3 g4 ⊢
  refine T.bind (P := fun _ => True) (T.diag (f := fun a n => F9_l49 a (q1, q2, q3) l n q1 q3 0) ?_) (fun _ _ => T.ret rfl)
  refine T.loop (L := fun a n (s : List Int × List (List Int) × Int) => F9_l49 a (q1, q2, q3) l n s.1 s.2.1 s.2.2) (fun s => 0 ≤ s.2.2 ∧ s.2.2 ≤ l.length ∧ s.1.length = l.length ∧ s.2.1.length = l.length ∧ (∀ j : Nat, s.2.2 ≤ j → j < l.length → s.2.1[j]? = some [])) (fun s => l.length - s.2.2.toNat) ?_ (_, _, 0) ⟨by simp, by simp, g1, by rw [g4]; simp, fun j _ hj => by rw [g4]; simp [hj]⟩
  rintro ⟨y1, y2, i⟩ ⟨i0, i1, e1, e2, e3⟩ rec
  simp only at i0 i1 e1 e2 e3 rec ⊢
  simp only [F9_l49]
  refine T.dec (fun q => ?_) (fun _ => T.ret trivial)
  refine T.bind (P := fun (r : List Int × List (List Int)) => r.1.length = l.length ∧ r.2.length = l.length ∧ ∀ j : Nat, i + 1 ≤ j → j < l.length → r.2[j]? = some []) ?_ (fun r hr => T.ck (by omega) (rec (_, _, _) ⟨by simp only; omega, by simp only; omega, hr.1, hr.2.1, hr.2.2⟩ (by simp only; omega)))
  refine T.ck (by omega) (T.diag (f := fun a n => F9_l95 a (q1, q2, q3) l i n y1 y2 (i + 1) 0) ?_)
  obtain ⟨u, hu, hum⟩ := get_of_lt (l := l) (i := i.toNat) (by omega)
  have huk := hkids u hum
  refine T.loop (L := fun a n (s : List Int × List (List Int) × Int × Int) => F9_l95 a (q1, q2, q3) l i n s.1 s.2.1 s.2.2.1 s.2.2.2) (fun s => 0 ≤ s.2.2.2 ∧ s.2.2.2 ≤ u.kids.length ∧ 0 ≤ s.2.2.1 ∧ s.2.2.1 ≤ 1000 ∧ s.1.length = l.length ∧ s.2.1.length = l.length ∧ (∃ row, s.2.1[i.toNat]? = some row ∧ (row.length : Int) = s.2.2.2) ∧ (∀ j : Nat, i + 1 ≤ j → j < l.length → s.2.1[j]? = some [])) (fun s => u.kids.length - s.2.2.2.toNat) ?_ (_, _, _, 0) ⟨by simp, by simp, by simp only; omega, by simp only; omega, e1, e2, ⟨[], e3 i.toNat (by omega) (by omega), rfl⟩, fun j h1 h2 => e3 j (by omega) h2⟩
  rintro ⟨z1, z2, c, k⟩ ⟨k0, k1, c0, c1, f1, f2, ⟨row, hr1, hr2⟩, f3⟩ rec2
  simp only at k0 k1 c0 c1 f1 f2 hr1 hr2 f3 rec2 ⊢
  simp only [F9_l95]
  refine T.bas (T.idx i0 hu (T.bbi (T.dec (fun p1 => T.bso (T.dec (fun p2 => ?_) (fun p2 => T.ret ⟨f1, f2, f3⟩))) (fun p1 => T.bso (T.bf rfl (T.ret ⟨f1, f2, f3⟩))))))
  have one : ∀ {α : Type} (x : α), [x].length = 1 := fun _ => rfl
  refine T.idx' (by omega) fun z hz => T.idx i0 hr1 (T.req (by rw [one]; omega) (T.idx' (by omega) fun x hx => ?_))
  have hx2 := g3 x (mem_of_get hx)
  refine T.ck (by omega) (T.ck (by omega) (rec2 (_, _, _, _) ⟨by simp only; omega, by simp only; omega, by simp only; omega, by simp only; omega, by simp only [List.length_set]; exact f1, by simp only [List.length_set]; exact f2, ⟨row ++ [c], ?_, ?_⟩, ?_⟩ (by simp only; omega)))
  · simp only
    rw [List.getElem?_set_self (by omega)]
  · simp only [List.length_append, one]; omega
  · simp only
    intro j h1 h2
    rw [List.getElem?_set_ne (by omega)]; exact f3 j h1 h2
theorem wrap_id {n : Int} (h : 0 ≤ n ∧ n < 18446744073709551616) : IntKind.u64.wrap n = n := by
  have : IntKind.u64.wrap n = n % 18446744073709551616 := by
    simp [IntKind.wrap, IntKind.signed, IntKind.bits]
  rw [this]; omega
theorem shr_zero {n : Int} (h : 0 ≤ n ∧ n < 4294967296) : shrI .u64 n 32 = 0 := by
  unfold shrI
  have : (min (32 : Int).toNat IntKind.u64.bits) = 32 := by decide
  rw [this, Int.fdiv_eq_ediv_of_nonneg _ (by decide)]
  exact Int.ediv_eq_zero_of_lt h.1 (by have := h.2; simpa using this)
theorem and_low {n : Int} (h : 0 ≤ n ∧ n < 4294967296) : bitI .and .u64 n 4294967295 = n := by
  obtain ⟨m, rfl⟩ := Int.eq_ofNat_of_zero_le h.1
  unfold bitI
  simp only
  have e : (BitVec.ofInt IntKind.u64.bits (m : Int) &&& BitVec.ofInt IntKind.u64.bits 4294967295).toNat = m := by
    show (BitVec.ofInt 64 (m : Int) &&& BitVec.ofInt 64 4294967295).toNat = m
    rw [BitVec.toNat_and]
    have h1 : (BitVec.ofInt 64 (m : Int)).toNat = m := by
      rw [BitVec.toNat_ofInt]; omega
    have h2 : (BitVec.ofInt 64 4294967295).toNat = 2 ^ 32 - 1 := by decide
    rw [h1, h2, Nat.and_two_pow_sub_one_eq_mod]; omega
  rw [e]
  exact wrap_id (by omega)
theorem lset_grow {n : Nat} {v : Int} : ∀ (m : Nat) (y : List Int) (i : Nat), y.take i = List.replicate i v → i + m ≤ y.length → (lset y i (List.replicate m v)).take (i + m) = List.replicate (i + m) v
  | 0, y, i, h, _ => h
  | m + 1, y, i, h, hl => by
    rw [List.replicate_succ, lset, show i + (m + 1) = i + 1 + m by omega]
    refine lset_grow (n := n) m _ _ ?_ (by rw [List.length_set]; omega)
    rw [List.take_add_one, List.take_set, h, List.getElem?_set_self (by omega), List.set_eq_of_length_le (by simp)]
    rw [List.replicate_succ']; rfl
theorem F25_t {n : Int} (h1 : 1 ≤ n) (h2 : n ≤ 100000) : T (fun a _ => F25v1 a [(-1 : Int)] n) (· = List.replicate n.toNat (-1)) := by
  simp only [F25v1, F39, F56]
  have one : ((([(-1 : Int)] : List Int).length : Nat) : Int) = 1 := rfl
  rw [one, wrap_id (n := 1) (by decide), wrap_id (n := n) (by omega), shr_zero (n := 1) (by decide), shr_zero (n := n) (by omega), and_low (n := 1) (by decide), and_low (n := n) (by omega)]
  simp only [Int.zero_mul, Int.mul_zero, Int.one_mul, Int.zero_add, Int.add_zero]
  simp only [wrap_id (n := n) (by omega), wrap_id (n := 0) (by decide), shr_zero (n := n) (by omega), shr_zero (n := 0) (by decide), Int.zero_add, and_low (n := 0) (by decide)]
  refine T.dec (fun h => absurd h (by omega)) fun _ => T.bas (T.bit (by decide) (T.bso (T.bso ?_)))
  refine T.bbi (T.dec (fun h => absurd h (by omega)) fun _ => T.bso (T.dec (fun h => absurd h (by omega)) fun _ => ?_))
  refine T.ck (by omega) (T.req (by omega) ?_)
  refine T.use (List.replicate n.toNat (-1)) (T.diag (f := fun a m => F25v1_l12 a m (lset (List.replicate n.toNat (0 : Int)) 0 (([(-1 : Int)] : List Int).take (min (([(-1 : Int)] : List Int)).length ((List.replicate n.toNat (0 : Int))).length))) ((min (([(-1 : Int)] : List Int)).length ((List.replicate n.toNat (0 : Int))).length : Nat) : Int)) ?_) (T.ret rfl)
  refine T.loop (L := fun a m (s : List Int × Int) => F25v1_l12 a m s.1 s.2) (fun s => s.1.length = n ∧ 1 ≤ s.2 ∧ s.2 ≤ n ∧ s.1.take s.2.toNat = List.replicate s.2.toNat (-1)) (fun s => n.toNat - s.2.toNat) ?_ (_, _) ?_
  · rintro ⟨y, i⟩ ⟨e, i1, i2, hp⟩ rec
    simp only at e i1 i2 hp rec ⊢
    simp only [F25v1_l12]
    refine T.dec (fun q => T.req (by omega) (T.req (by omega) (T.ck (by omega) (rec (_, _) ⟨?_, by simp only; omega, by simp only; omega, ?_⟩ (by simp only; omega))))) (fun q => T.ret ?_)
    · simp only [lset_length]; exact e
    · simp only
      have e3 : ((y.drop (0 : Int).toNat).take (min (i.toNat - (0 : Int).toNat) ((y.length : Int).toNat - i.toNat))) = List.replicate (min (i.toNat - (0 : Int).toNat) ((y.length : Int).toNat - i.toNat)) (-1) := by
        show (y.drop 0).take _ = _
        rw [List.drop_zero]
        have : min (i.toNat - (0 : Int).toNat) ((y.length : Int).toNat - i.toNat) = min (min (i.toNat - (0 : Int).toNat) ((y.length : Int).toNat - i.toNat)) i.toNat := by omega
        rw [this, ← List.take_take, hp, List.take_replicate]
      rw [e3]
      have := lset_grow (n := 0) (v := -1) (min (i.toNat - (0 : Int).toNat) ((y.length : Int).toNat - i.toNat)) y i.toNat hp (by omega)
      have e4 : (i + ((min (i.toNat - (0 : Int).toNat) ((y.length : Int).toNat - i.toNat) : Nat) : Int)).toNat = i.toNat + min (i.toNat - (0 : Int).toNat) ((y.length : Int).toNat - i.toNat) := by omega
      rw [e4]; exact this
    · have : i.toNat = n.toNat := by omega
      rw [this, List.take_of_length_le (by omega)] at hp
      exact hp
  · have hm : min ([(-1 : Int)] : List Int).length (List.replicate n.toNat (0 : Int)).length = 1 := by simp; omega
    rw [hm]
    refine ⟨by rw [lset_length, List.length_replicate]; omega, by simp, by simp; omega, ?_⟩
    show (lset (List.replicate n.toNat (0 : Int)) 0 [-1]).take 1 = [-1]
    obtain ⟨m, hm⟩ : ∃ m, n.toNat = m + 1 := ⟨n.toNat - 1, by omega⟩
    rw [hm, List.replicate_succ]; rfl
end Go.Proofs.YtabojfgmbfnoiaaGreatDoor
end
section
/- The chapter's example, reckoned. -/
namespace Go.Proofs.YtabojfgmbfnoiaaGreatDoor
theorem known_at (a : Nat) : F8 (a + 40) = some true := by kernel_rfl
theorem F8_t : T (fun a _ => F8 a) (· = true) := ⟨true, rfl, 40, fun a _ h _ => by
  obtain ⟨b, rfl⟩ : ∃ b, a = b + 40 := ⟨a - 40, by omega⟩
  exact known_at b⟩
end Go.Proofs.YtabojfgmbfnoiaaGreatDoor
end
section
/- The lexer answers. -/
set_option linter.unusedVariables false
set_option linter.unusedSimpArgs false
namespace Go.Proofs.YtabojfgmbfnoiaaGreatDoor
theorem F98_t (x : Int) : T (fun a _ => F98 a x) (fun _ => True) := by
  simp only [F98]
  repeat' first | with_reducible refine T.bt (by rfl) ?_ | with_reducible refine T.bf (by rfl) ?_ | with_reducible refine T.bdn (fun _ => ?_) (fun _ => ?_) | with_reducible refine T.bnot (fun _ => ?_) (fun _ => ?_) | with_reducible refine T.dec (fun _ => ?_) (fun _ => ?_) | with_reducible refine T.beq (fun _ => ?_) (fun _ => ?_) | with_reducible refine T.bne (fun _ => ?_) (fun _ => ?_) | with_reducible refine T.bif (fun _ => ?_) (fun _ => ?_) | (with_reducible refine T.ret ?_; first | trivial | omega | (simp; done) | (simp; omega)) | with_reducible refine T.bind (P := fun _ => True) ?_ (fun _ _ => ?_)
theorem F101_t (x : Int) : T (fun a _ => F101 a x) (fun _ => True) := by
  simp only [F101]
  repeat' first | with_reducible refine T.bt (by rfl) ?_ | with_reducible refine T.bf (by rfl) ?_ | with_reducible refine T.bdn (fun _ => ?_) (fun _ => ?_) | with_reducible refine T.bnot (fun _ => ?_) (fun _ => ?_) | with_reducible refine T.dec (fun _ => ?_) (fun _ => ?_) | with_reducible refine T.beq (fun _ => ?_) (fun _ => ?_) | with_reducible refine T.bne (fun _ => ?_) (fun _ => ?_) | with_reducible refine T.bif (fun _ => ?_) (fun _ => ?_) | (with_reducible refine T.ret ?_; first | trivial | omega | (simp; done) | (simp; omega)) | with_reducible refine T.bind (P := fun _ => True) ?_ (fun _ _ => ?_)
theorem F100_t (x : Int) : T (fun a _ => F100 a x) (fun _ => True) := by
  simp only [F100]
  repeat' first | exact F98_t _ | exact F101_t _ | with_reducible refine T.bt (by rfl) ?_ | with_reducible refine T.bf (by rfl) ?_ | with_reducible refine T.bdn (fun _ => ?_) (fun _ => ?_) | with_reducible refine T.bnot (fun _ => ?_) (fun _ => ?_) | with_reducible refine T.dec (fun _ => ?_) (fun _ => ?_) | with_reducible refine T.beq (fun _ => ?_) (fun _ => ?_) | with_reducible refine T.bne (fun _ => ?_) (fun _ => ?_) | with_reducible refine T.bif (fun _ => ?_) (fun _ => ?_) | (with_reducible refine T.ret ?_; first | trivial | omega | (simp; done) | (simp; omega)) | with_reducible refine T.bind (P := fun _ => True) ?_ (fun _ _ => ?_)
theorem F115_t (x : Int) : T (fun a _ => F115 a x) (fun _ => True) := by
  simp only [F115]
  repeat' first | exact F98_t _ | exact F101_t _ | with_reducible refine T.bt (by rfl) ?_ | with_reducible refine T.bf (by rfl) ?_ | with_reducible refine T.bdn (fun _ => ?_) (fun _ => ?_) | with_reducible refine T.bnot (fun _ => ?_) (fun _ => ?_) | with_reducible refine T.dec (fun _ => ?_) (fun _ => ?_) | with_reducible refine T.beq (fun _ => ?_) (fun _ => ?_) | with_reducible refine T.bne (fun _ => ?_) (fun _ => ?_) | with_reducible refine T.bif (fun _ => ?_) (fun _ => ?_) | (with_reducible refine T.ret ?_; first | trivial | omega | (simp; done) | (simp; omega)) | with_reducible refine T.bind (P := fun _ => True) ?_ (fun _ _ => ?_)
theorem F99_t (l : List UInt8) (h : l.length ≤ 100000) : T (fun a _ => F99 a l) (fun r => 0 ≤ r ∧ r ≤ l.length) := by
  simp only [F99]
  refine T.bind (P := fun r => 0 ≤ r ∧ r ≤ (l.length : Int)) (T.diag (f := fun a n => F99_l3 a l n 0) ?_) (fun _ h => T.ret h)
  refine T.loop (L := fun a n s => F99_l3 a l n s) (fun s => 0 ≤ s ∧ s ≤ (l.length : Int)) (fun s => l.length - s.toNat) ?_ 0 (by omega)
  intro i ⟨i0, i1⟩ rec
  simp only [F99_l3]
  repeat' first | exact rec _ (by first | omega | (simp only at *; omega) | (simp only [List.length_append, List.length_cons, List.length_nil] at *; omega)) (by first | omega | (simp only at *; omega) | (simp only [List.length_append, List.length_cons, List.length_nil] at *; omega)) | with_reducible refine T.bind (F100_t _) (fun _ _ => ?_) | with_reducible refine T.bas ?_ | with_reducible refine T.bsl ?_ | with_reducible refine T.bsr ?_ | with_reducible refine T.bso ?_ | with_reducible refine T.bbi ?_ | with_reducible refine T.bit (by first | omega | (simp only at *; omega) | (simp only [List.length_append, List.length_cons, List.length_nil] at *; omega)) ?_ | (simp only [Sum.elim_inl, Sum.elim_inr]) | with_reducible refine T.bt (by rfl) ?_ | with_reducible refine T.bf (by rfl) ?_ | with_reducible refine T.bdn (fun _ => ?_) (fun _ => ?_) | with_reducible refine T.bnot (fun _ => ?_) (fun _ => ?_) | with_reducible refine T.dec (fun _ => ?_) (fun _ => ?_) | with_reducible refine T.beq (fun _ => ?_) (fun _ => ?_) | with_reducible refine T.bne (fun _ => ?_) (fun _ => ?_) | with_reducible refine T.bif (fun _ => ?_) (fun _ => ?_) | with_reducible refine T.ck (by first | omega | (simp only at *; omega) | (simp only [List.length_append, List.length_cons, List.length_nil] at *; omega)) ?_ | with_reducible refine T.req (by first | omega | (simp only at *; omega) | (simp only [List.length_append, List.length_cons, List.length_nil] at *; omega)) ?_ | with_reducible refine T.idx' (by first | omega | (simp only at *; omega) | (simp only [List.length_append, List.length_cons, List.length_nil] at *; omega)) (fun _ _ => ?_) | (with_reducible refine T.ret ?_; first | trivial | omega | (simp; done) | (simp; omega))
theorem F99v1_t (l : List UInt8) (h : l.length ≤ 100000) : T (fun a _ => F99v1 a l) (fun r => 0 ≤ r ∧ r ≤ l.length) := by
  simp only [F99v1]
  refine T.bind (P := fun r => 0 ≤ r ∧ r ≤ (l.length : Int)) (T.diag (f := fun a n => F99v1_l3 a l n 0) ?_) (fun _ h => T.ret h)
  refine T.loop (L := fun a n s => F99v1_l3 a l n s) (fun s => 0 ≤ s ∧ s ≤ (l.length : Int)) (fun s => l.length - s.toNat) ?_ 0 (by omega)
  intro i ⟨i0, i1⟩ rec
  simp only [F99v1_l3]
  repeat' first | exact rec _ (by first | omega | (simp only at *; omega) | (simp only [List.length_append, List.length_cons, List.length_nil] at *; omega)) (by first | omega | (simp only at *; omega) | (simp only [List.length_append, List.length_cons, List.length_nil] at *; omega)) | with_reducible refine T.bind (F115_t _) (fun _ _ => ?_) | with_reducible refine T.bas ?_ | with_reducible refine T.bsl ?_ | with_reducible refine T.bsr ?_ | with_reducible refine T.bso ?_ | with_reducible refine T.bbi ?_ | with_reducible refine T.bit (by first | omega | (simp only at *; omega) | (simp only [List.length_append, List.length_cons, List.length_nil] at *; omega)) ?_ | (simp only [Sum.elim_inl, Sum.elim_inr]) | with_reducible refine T.bt (by rfl) ?_ | with_reducible refine T.bf (by rfl) ?_ | with_reducible refine T.bdn (fun _ => ?_) (fun _ => ?_) | with_reducible refine T.bnot (fun _ => ?_) (fun _ => ?_) | with_reducible refine T.dec (fun _ => ?_) (fun _ => ?_) | with_reducible refine T.beq (fun _ => ?_) (fun _ => ?_) | with_reducible refine T.bne (fun _ => ?_) (fun _ => ?_) | with_reducible refine T.bif (fun _ => ?_) (fun _ => ?_) | with_reducible refine T.ck (by first | omega | (simp only at *; omega) | (simp only [List.length_append, List.length_cons, List.length_nil] at *; omega)) ?_ | with_reducible refine T.req (by first | omega | (simp only at *; omega) | (simp only [List.length_append, List.length_cons, List.length_nil] at *; omega)) ?_ | with_reducible refine T.idx' (by first | omega | (simp only at *; omega) | (simp only [List.length_append, List.length_cons, List.length_nil] at *; omega)) (fun _ _ => ?_) | (with_reducible refine T.ret ?_; first | trivial | omega | (simp; done) | (simp; omega))
theorem F99v2_t (l : List UInt8) (h : l.length ≤ 100000) : T (fun a _ => F99v2 a l) (fun r => 0 ≤ r ∧ r ≤ l.length) := by
  simp only [F99v2]
  refine T.bind (P := fun r => 0 ≤ r ∧ r ≤ (l.length : Int)) (T.diag (f := fun a n => F99v2_l3 a l n 0) ?_) (fun _ h => T.ret h)
  refine T.loop (L := fun a n s => F99v2_l3 a l n s) (fun s => 0 ≤ s ∧ s ≤ (l.length : Int)) (fun s => l.length - s.toNat) ?_ 0 (by omega)
  intro i ⟨i0, i1⟩ rec
  simp only [F99v2_l3]
  repeat' first | exact rec _ (by first | omega | (simp only at *; omega) | (simp only [List.length_append, List.length_cons, List.length_nil] at *; omega)) (by first | omega | (simp only at *; omega) | (simp only [List.length_append, List.length_cons, List.length_nil] at *; omega)) | with_reducible refine T.bind (F101_t _) (fun _ _ => ?_) | with_reducible refine T.bas ?_ | with_reducible refine T.bsl ?_ | with_reducible refine T.bsr ?_ | with_reducible refine T.bso ?_ | with_reducible refine T.bbi ?_ | with_reducible refine T.bit (by first | omega | (simp only at *; omega) | (simp only [List.length_append, List.length_cons, List.length_nil] at *; omega)) ?_ | (simp only [Sum.elim_inl, Sum.elim_inr]) | with_reducible refine T.bt (by rfl) ?_ | with_reducible refine T.bf (by rfl) ?_ | with_reducible refine T.bdn (fun _ => ?_) (fun _ => ?_) | with_reducible refine T.bnot (fun _ => ?_) (fun _ => ?_) | with_reducible refine T.dec (fun _ => ?_) (fun _ => ?_) | with_reducible refine T.beq (fun _ => ?_) (fun _ => ?_) | with_reducible refine T.bne (fun _ => ?_) (fun _ => ?_) | with_reducible refine T.bif (fun _ => ?_) (fun _ => ?_) | with_reducible refine T.ck (by first | omega | (simp only at *; omega) | (simp only [List.length_append, List.length_cons, List.length_nil] at *; omega)) ?_ | with_reducible refine T.req (by first | omega | (simp only at *; omega) | (simp only [List.length_append, List.length_cons, List.length_nil] at *; omega)) ?_ | with_reducible refine T.idx' (by first | omega | (simp only at *; omega) | (simp only [List.length_append, List.length_cons, List.length_nil] at *; omega)) (fun _ _ => ?_) | (with_reducible refine T.ret ?_; first | trivial | omega | (simp; done) | (simp; omega))
theorem F103_t (l : List ByteArray) (x : ByteArray) (h : l.length ≤ 100000) : T (fun a _ => F103 a l x) (fun r => -1 ≤ r ∧ r < l.length) := by
  simp only [F103]
  refine T.bsu (P := fun _ => True) (P' := fun r => -1 ≤ r ∧ r < (l.length : Int)) (T.diag (f := fun a n => F103_l5 a l x n 0) ?_) (fun _ _ => T.ret (by omega)) (fun _ h => T.ret h)
  refine T.loop (L := fun a n s => F103_l5 a l x n s) (fun s => 0 ≤ s ∧ s ≤ (l.length : Int)) (fun s => l.length - s.toNat) ?_ 0 (by omega)
  intro i ⟨i0, i1⟩ rec
  simp only [F103_l5]
  repeat' first | exact rec _ (by first | omega | (simp only at *; omega) | (simp only [List.length_append, List.length_cons, List.length_nil] at *; omega)) (by first | omega | (simp only at *; omega) | (simp only [List.length_append, List.length_cons, List.length_nil] at *; omega)) | with_reducible refine T.bt (by rfl) ?_ | with_reducible refine T.bf (by rfl) ?_ | with_reducible refine T.bdn (fun _ => ?_) (fun _ => ?_) | with_reducible refine T.bnot (fun _ => ?_) (fun _ => ?_) | with_reducible refine T.dec (fun _ => ?_) (fun _ => ?_) | with_reducible refine T.beq (fun _ => ?_) (fun _ => ?_) | with_reducible refine T.bne (fun _ => ?_) (fun _ => ?_) | with_reducible refine T.bif (fun _ => ?_) (fun _ => ?_) | with_reducible refine T.ck (by first | omega | (simp only at *; omega) | (simp only [List.length_append, List.length_cons, List.length_nil] at *; omega)) ?_ | with_reducible refine T.req (by first | omega | (simp only at *; omega) | (simp only [List.length_append, List.length_cons, List.length_nil] at *; omega)) ?_ | with_reducible refine T.idx' (by first | omega | (simp only at *; omega) | (simp only [List.length_append, List.length_cons, List.length_nil] at *; omega)) (fun _ _ => ?_) | (with_reducible refine T.ret ?_; exact .inr ⟨_, rfl, by first | trivial | omega⟩) | (with_reducible refine T.ret ?_; exact .inl ⟨_, rfl, by first | trivial | omega⟩)
theorem F103v1_t (l : List ByteArray) (x : ByteArray) (h : l.length ≤ 100000) : T (fun a _ => F103v1 a l x) (fun r => -1 ≤ r ∧ r < l.length) := by
  simp only [F103v1]
  refine T.bsu (P := fun _ => True) (P' := fun r => -1 ≤ r ∧ r < (l.length : Int)) (T.diag (f := fun a n => F103v1_l4 a l x n 0) ?_) (fun _ _ => T.ret (by omega)) (fun _ h => T.ret h)
  refine T.loop (L := fun a n s => F103v1_l4 a l x n s) (fun s => 0 ≤ s ∧ s ≤ (l.length : Int)) (fun s => l.length - s.toNat) ?_ 0 (by omega)
  intro i ⟨i0, i1⟩ rec
  simp only [F103v1_l4]
  repeat' first | exact rec _ (by first | omega | (simp only at *; omega) | (simp only [List.length_append, List.length_cons, List.length_nil] at *; omega)) (by first | omega | (simp only at *; omega) | (simp only [List.length_append, List.length_cons, List.length_nil] at *; omega)) | with_reducible refine T.bt (by rfl) ?_ | with_reducible refine T.bf (by rfl) ?_ | with_reducible refine T.bdn (fun _ => ?_) (fun _ => ?_) | with_reducible refine T.bnot (fun _ => ?_) (fun _ => ?_) | with_reducible refine T.dec (fun _ => ?_) (fun _ => ?_) | with_reducible refine T.beq (fun _ => ?_) (fun _ => ?_) | with_reducible refine T.bne (fun _ => ?_) (fun _ => ?_) | with_reducible refine T.bif (fun _ => ?_) (fun _ => ?_) | with_reducible refine T.ck (by first | omega | (simp only at *; omega) | (simp only [List.length_append, List.length_cons, List.length_nil] at *; omega)) ?_ | with_reducible refine T.req (by first | omega | (simp only at *; omega) | (simp only [List.length_append, List.length_cons, List.length_nil] at *; omega)) ?_ | with_reducible refine T.idx' (by first | omega | (simp only at *; omega) | (simp only [List.length_append, List.length_cons, List.length_nil] at *; omega)) (fun _ _ => ?_) | (with_reducible refine T.ret ?_; exact .inr ⟨_, rfl, by first | trivial | omega⟩) | (with_reducible refine T.ret ?_; exact .inl ⟨_, rfl, by first | trivial | omega⟩)
theorem F71_t (l : List ByteArray) (x : ByteArray) (h : l.length ≤ 100000) : T (fun a _ => F71 a l x) (fun _ => True) := by
  simp only [F71]
  exact T.bind (F103_t l x h) fun _ _ => T.ret trivial
theorem F71v1_t (l : List ByteArray) (x : ByteArray) (h : l.length ≤ 100000) : T (fun a _ => F71v1 a l x) (fun _ => True) := by
  simp only [F71v1]
  exact T.bind (F103v1_t l x h) fun _ _ => T.ret trivial
theorem F102_t (x : ByteArray) : T (fun a _ => F102 a x) (fun _ => True) := by
  simp only [F102]
  exact T.bind (F71_t _ x (by decide)) fun _ _ => T.ret trivial
theorem data_len (s : ByteArray) : s.data.toList.length = s.size := rfl
theorem size_pos {s : ByteArray} (h : ¬ s = (⟨#[]⟩ : ByteArray)) : 0 < s.size := by
  rcases s with ⟨⟨l⟩⟩
  cases l with
  | nil => exact absurd rfl h
  | cons c l => simp [ByteArray.size]
theorem F70_t (x : ByteArray) (h : x.size ≤ 50000) : T (fun a _ => F70 a x) (fun _ => True) := by
  simp only [F70]
  refine T.bind (P := fun _ => True) ?_ (fun _ _ => T.ret trivial)
  refine T.bdn (fun q => T.sidx' ⟨by omega, by have := size_pos q; omega⟩ fun z hz => ?_) (fun _ => T.ret trivial)
  refine T.bind (F98_t _) fun _ _ => T.bif (fun _ => T.req (by omega) (T.bind (F99_t _ (by rw [data_len]; omega)) fun _ _ => ?_)) fun _ => T.ret trivial
  repeat' first | with_reducible refine T.bind (F102_t _) (fun _ _ => ?_) | with_reducible refine T.bt (by rfl) ?_ | with_reducible refine T.bf (by rfl) ?_ | with_reducible refine T.bdn (fun _ => ?_) (fun _ => ?_) | with_reducible refine T.bnot (fun _ => ?_) (fun _ => ?_) | with_reducible refine T.dec (fun _ => ?_) (fun _ => ?_) | with_reducible refine T.beq (fun _ => ?_) (fun _ => ?_) | with_reducible refine T.bne (fun _ => ?_) (fun _ => ?_) | with_reducible refine T.bif (fun _ => ?_) (fun _ => ?_) | (with_reducible refine T.ret ?_; first | trivial | omega | (simp; done) | (simp; omega))
theorem decode_bounds {xs : List UInt8} (h : 0 < xs.length) : 1 ≤ runeLen xs ∧ runeLen xs ≤ xs.length ∧ 0 ≤ runeOf xs ∧ runeOf xs ≤ 100000000 := by
  have hs : (⟨xs.toArray⟩ : ByteArray).size = xs.length := by simp [ByteArray.size]
  have h0 : ¬ (⟨xs.toArray⟩ : ByteArray).size = 0 := by omega
  unfold runeLen runeOf
  have h2 : 1 ≤ (Lib.decodeGo (⟨xs.toArray⟩ : ByteArray)).2 ∧ (Lib.decodeGo (⟨xs.toArray⟩ : ByteArray)).2 ≤ xs.length ∧ (Lib.decodeGo (⟨xs.toArray⟩ : ByteArray)).1 ≤ 100000000 := by
    unfold Lib.decodeGo
    rw [if_neg h0]
    unfold Utf8.decode
    have e : ∀ i, ((⟨xs.toArray⟩ : ByteArray).get! i).toNat < 256 := fun i => UInt8.toNat_lt _
    have e0 := e (0 + 0)
    have e1 := e (0 + 1)
    have e2 := e (0 + 2)
    have e3 := e (0 + 3)
    simp only [Utf8.runeError, hs, Bool.and_eq_true, decide_eq_true_eq]
    repeat' split
    all_goals exact ⟨by simp, by simp only; omega, by simp only; omega⟩
  omega
theorem F131_t {xs : List UInt8} (h : 0 < xs.length) : T (fun a _ => F131 a xs) (fun r => 0 ≤ r.2 ∧ r.2 ≤ xs.length) := by
  have := decode_bounds h
  simp only [F131]
  refine T.req h (T.bind (P := fun _ => True) ?_ fun _ _ => ?_)
  · repeat' first | with_reducible refine T.bt (by rfl) ?_ | with_reducible refine T.bf (by rfl) ?_ | with_reducible refine T.bdn (fun _ => ?_) (fun _ => ?_) | with_reducible refine T.bnot (fun _ => ?_) (fun _ => ?_) | with_reducible refine T.dec (fun _ => ?_) (fun _ => ?_) | with_reducible refine T.beq (fun _ => ?_) (fun _ => ?_) | with_reducible refine T.bne (fun _ => ?_) (fun _ => ?_) | with_reducible refine T.bif (fun _ => ?_) (fun _ => ?_) | (with_reducible refine T.ret ?_; first | trivial | omega | (simp; done) | (simp; omega))
  · refine T.bif (fun _ => T.ret (by first | omega | (simp only at *; omega) | (simp only [List.length_append, List.length_cons, List.length_nil] at *; omega))) (fun _ => T.ck (by omega) (T.ret (by first | omega | (simp only at *; omega) | (simp only [List.length_append, List.length_cons, List.length_nil] at *; omega))))
theorem F111_t (l : List UInt8) (h : l.length ≤ 100000) : T (fun a _ => F111 a l) (fun _ => True) := by
  simp only [F111]
  refine T.bind (P := fun _ => True) (T.diag (f := fun a n => F111_l3 a l n 0) ?_) (fun _ h => T.ret h)
  refine T.loop (L := fun a n s => F111_l3 a l n s) (fun s => 0 ≤ s ∧ s ≤ (l.length : Int)) (fun s => l.length - s.toNat) ?_ 0 (by omega)
  intro i ⟨i0, i1⟩ rec
  simp only [F111_l3]
  refine T.dec (fun q => T.req (by omega) ?_) (fun _ => T.ret trivial)
  have hl : ((l.drop i.toNat).take ((l.length : Int).toNat - i.toNat)).length = l.length - i.toNat := by rw [List.length_take, List.length_drop]; omega
  generalize (l.drop i.toNat).take ((l.length : Int).toNat - i.toNat) = rest at hl
  refine T.bind (F131_t (by omega)) fun r hr => ?_
  refine T.beq (fun _ => T.ret trivial) fun hne => T.ck (by omega) (rec _ (by omega) (by omega))
theorem F113_t (k : Tok) : T (fun a _ => F113 a k) (fun _ => True) := by
  simp only [F113]
  repeat' first | with_reducible refine T.bind (F102_t _) (fun _ _ => ?_) | with_reducible refine T.bind (F71_t _ _ (by decide)) (fun _ _ => ?_) | with_reducible refine T.bt (by rfl) ?_ | with_reducible refine T.bf (by rfl) ?_ | with_reducible refine T.bdn (fun _ => ?_) (fun _ => ?_) | with_reducible refine T.bnot (fun _ => ?_) (fun _ => ?_) | with_reducible refine T.dec (fun _ => ?_) (fun _ => ?_) | with_reducible refine T.beq (fun _ => ?_) (fun _ => ?_) | with_reducible refine T.bne (fun _ => ?_) (fun _ => ?_) | with_reducible refine T.bif (fun _ => ?_) (fun _ => ?_) | (with_reducible refine T.ret ?_; first | trivial | omega | (simp; done) | (simp; omega)) | with_reducible refine T.bind (P := fun _ => True) ?_ (fun _ _ => ?_)
theorem F116_t (l : List UInt8) (h0 : 0 < l.length) (h : l.length ≤ 100000) : T (fun a _ => F116 a l) (fun r => 0 ≤ r ∧ r ≤ l.length) := by
  simp only [F116]
  refine T.bsu (P := fun _ => True) (P' := fun r => 0 ≤ r ∧ r ≤ (l.length : Int)) (T.diag (f := fun a n => F116_l3 a l n 1) ?_) (fun _ _ => T.ret (by omega)) (fun _ h => T.ret h)
  refine T.loop (L := fun a n s => F116_l3 a l n s) (fun s => 1 ≤ s) (fun s => l.length + 2 - s.toNat) ?_ 1 (by omega)
  intro i i0 rec
  simp only [F116_l3]
  repeat' first | exact rec _ (by first | omega | (simp only at *; omega) | (simp only [List.length_append, List.length_cons, List.length_nil] at *; omega)) (by first | omega | (simp only at *; omega) | (simp only [List.length_append, List.length_cons, List.length_nil] at *; omega)) | with_reducible refine T.bas ?_ | with_reducible refine T.bsl ?_ | with_reducible refine T.bsr ?_ | with_reducible refine T.bso ?_ | with_reducible refine T.bbi ?_ | with_reducible refine T.bit (by first | omega | (simp only at *; omega) | (simp only [List.length_append, List.length_cons, List.length_nil] at *; omega)) ?_ | (simp only [Sum.elim_inl, Sum.elim_inr]) | with_reducible refine T.bt (by rfl) ?_ | with_reducible refine T.bf (by rfl) ?_ | with_reducible refine T.bdn (fun _ => ?_) (fun _ => ?_) | with_reducible refine T.bnot (fun _ => ?_) (fun _ => ?_) | with_reducible refine T.dec (fun _ => ?_) (fun _ => ?_) | with_reducible refine T.beq (fun _ => ?_) (fun _ => ?_) | with_reducible refine T.bne (fun _ => ?_) (fun _ => ?_) | with_reducible refine T.bif (fun _ => ?_) (fun _ => ?_) | with_reducible refine T.ck (by first | omega | (simp only at *; omega) | (simp only [List.length_append, List.length_cons, List.length_nil] at *; omega)) ?_ | with_reducible refine T.req (by first | omega | (simp only at *; omega) | (simp only [List.length_append, List.length_cons, List.length_nil] at *; omega)) ?_ | with_reducible refine T.idx' (by first | omega | (simp only at *; omega) | (simp only [List.length_append, List.length_cons, List.length_nil] at *; omega)) (fun _ _ => ?_) | (with_reducible refine T.ret ?_; exact .inr ⟨_, rfl, by first | trivial | omega⟩) | (with_reducible refine T.ret ?_; exact .inl ⟨_, rfl, by first | trivial | omega⟩)
theorem F117_t (l m : List UInt8) : T (fun a _ => F117 a l m) (fun r => r = true → (m.length : Int) ≤ l.length) := by
  simp only [F117, F132]
  refine T.bind (P := fun r => r = true → (m.length : Int) ≤ l.length) ?_ (fun _ h => T.ret h)
  refine T.dec (fun q => T.req (by omega) (T.bso (T.ret fun _ => by omega))) (fun _ => T.ret (by simp))
theorem F120_t (l : List UInt8) (h : 0 < l.length) : T (fun a _ => F120 a l) (fun r => 0 ≤ r ∧ r ≤ l.length) := by
  simp only [F120]
  refine T.bsu (P := fun _ => True) (P' := fun r => 0 ≤ r ∧ r ≤ (l.length : Int)) (T.diag (f := fun a n => F120_l3 a l n 2) ?_) (fun _ _ => T.ret (by omega)) (fun _ h => T.ret h)
  refine T.loop (L := fun a n s => F120_l3 a l n s) (fun s => 0 ≤ s ∧ s ≤ 2) (fun s => s.toNat) ?_ 2 (by omega)
  intro i ⟨i0, i1⟩ rec
  simp only [F120_l3]
  repeat' first | exact rec _ (by first | omega | (simp only at *; omega) | (simp only [List.length_append, List.length_cons, List.length_nil] at *; omega)) (by first | omega | (simp only at *; omega) | (simp only [List.length_append, List.length_cons, List.length_nil] at *; omega)) | with_reducible refine T.bas ?_ | with_reducible refine T.bsl ?_ | with_reducible refine T.bsr ?_ | with_reducible refine T.bso ?_ | with_reducible refine T.bbi ?_ | with_reducible refine T.bit (by first | omega | (simp only at *; omega) | (simp only [List.length_append, List.length_cons, List.length_nil] at *; omega)) ?_ | (simp only [Sum.elim_inl, Sum.elim_inr]) | with_reducible refine T.bt (by rfl) ?_ | with_reducible refine T.bf (by rfl) ?_ | with_reducible refine T.bdn (fun _ => ?_) (fun _ => ?_) | with_reducible refine T.bnot (fun _ => ?_) (fun _ => ?_) | with_reducible refine T.dec (fun _ => ?_) (fun _ => ?_) | with_reducible refine T.beq (fun _ => ?_) (fun _ => ?_) | with_reducible refine T.bne (fun _ => ?_) (fun _ => ?_) | with_reducible refine T.bif (fun _ => ?_) (fun _ => ?_) | with_reducible refine T.ck (by first | omega | (simp only at *; omega) | (simp only [List.length_append, List.length_cons, List.length_nil] at *; omega)) ?_ | with_reducible refine T.req (by first | omega | (simp only at *; omega) | (simp only [List.length_append, List.length_cons, List.length_nil] at *; omega)) ?_ | with_reducible refine T.idx' (by first | omega | (simp only at *; omega) | (simp only [List.length_append, List.length_cons, List.length_nil] at *; omega)) (fun _ _ => ?_) | with_reducible refine T.bind (F71_t _ _ (by decide)) (fun _ _ => ?_) | (with_reducible refine T.ret ?_; exact .inr ⟨_, rfl, by first | trivial | omega⟩) | (with_reducible refine T.ret ?_; exact .inl ⟨_, rfl, by first | trivial | omega⟩)
end Go.Proofs.YtabojfgmbfnoiaaGreatDoor
end
section
/- The lexer answers: its loop. -/
set_option linter.unusedVariables false
set_option linter.unusedSimpArgs false
namespace Go.Proofs.YtabojfgmbfnoiaaGreatDoor
theorem one_len {α : Type} (x : α) : [x].length = 1 := rfl
theorem F114v1_t (k : Int) (s : ByteArray) (i : Int) (b : Bool) (l : List Tok) (c : Bool) (hs : s.size ≤ 100000) (hi : 0 ≤ i ∧ i ≤ 100000) (hl : l.length ≤ 300000) : T (fun a _ => F114v1 a k s i b l c) (fun r => r.length ≤ l.length + 1) := by
  simp only [F114v1]
  refine T.bind (P := fun (r : List Tok) => r.length ≤ l.length + 1) ?_ (fun _ h => T.ret h)
  refine T.bind (F113_t _) fun _ _ => T.bif (fun _ => T.ck (by omega) (T.req (by rw [one_len]; omega) (T.ret ?_))) (fun _ => T.ret (by omega))
  rw [List.length_append, one_len]; omega
theorem F112v1_t (t : Tok) (k : Int) (s : ByteArray) (i : Int) (b : Bool) (l : List Tok) (c : Bool) (ht : t.text.size ≤ 100000) (hti : 0 ≤ t.at_ ∧ t.at_ ≤ 100000) (hs : s.size ≤ 100000) (hi : 0 ≤ i ∧ i ≤ 100000) (hl : l.length ≤ 300000) : T (fun a _ => F112v1 a t k s i b l c) (fun r => r.2.1.size ≤ 100000 ∧ 0 ≤ r.2.2.1 ∧ r.2.2.1 ≤ 100000 ∧ r.2.2.2.2.length ≤ l.length + 2) := by
  simp only [F112v1]
  refine T.bind (P := fun (r : Int × ByteArray × Int × Bool × List Tok) => r.2.1.size ≤ 100000 ∧ 0 ≤ r.2.2.1 ∧ r.2.2.1 ≤ 100000 ∧ r.2.2.2.2.length ≤ l.length + 1) ?_ (fun r h => ?_)
  · refine T.bind (P := fun _ => True) ?_ (fun r _ => T.bif (fun _ => T.ck (by omega) (T.req (by rw [one_len]; omega) (T.ret ⟨Nat.zero_le _, by simp only; omega, by simp only; omega, ?_⟩))) (fun _ => T.ret ⟨by simp only; omega, by simp only; omega, by simp only; omega, by simp only; omega⟩))
    · repeat' first | with_reducible refine T.bind (F113_t _) (fun _ _ => ?_) | with_reducible refine T.bt (by rfl) ?_ | with_reducible refine T.bf (by rfl) ?_ | with_reducible refine T.bdn (fun _ => ?_) (fun _ => ?_) | with_reducible refine T.bnot (fun _ => ?_) (fun _ => ?_) | with_reducible refine T.dec (fun _ => ?_) (fun _ => ?_) | with_reducible refine T.beq (fun _ => ?_) (fun _ => ?_) | with_reducible refine T.bne (fun _ => ?_) (fun _ => ?_) | with_reducible refine T.bif (fun _ => ?_) (fun _ => ?_) | (with_reducible refine T.ret ?_; first | trivial | omega | (simp; done) | (simp; omega))
    · simp only [List.length_append, one_len]; omega
  · refine T.req (by rw [one_len]; omega) (T.bne (fun _ => T.ret ⟨ht, hti.1, hti.2, ?_⟩) (fun _ => T.ret ⟨h.1, h.2.1, h.2.2.1, ?_⟩)) <;> (simp only [List.length_append, one_len]; omega)
theorem size_arr (l : List UInt8) : (⟨l.toArray⟩ : ByteArray).size = l.length := by simp [ByteArray.size]
theorem trim_le (l : List UInt8) : (trimR l).length ≤ l.length := by
  obtain ⟨n, h, e⟩ := trimR_take l
  rw [e, List.length_take]; omega
theorem F82_t (l : List UInt8) (h : l.length ≤ 100000) : T (fun a _ => F82 a l) (fun _ => True) := by
  simp only [F82]
  refine T.dec (fun _ => T.ret trivial) fun _ => T.bind (F111_t l h) fun r _ => T.dec (fun _ => T.ret trivial) fun _ => ?_
  refine T.bsu (P := fun (s : List Tok × Int × ByteArray × Int × Bool × Bool) => s.1.length ≤ 200000 ∧ s.2.2.1.size ≤ 100000 ∧ 0 ≤ s.2.2.2.1 ∧ s.2.2.2.1 ≤ 100000) (P' := fun _ => True) (T.diag (f := fun a n => F82_l9 a l n [] 0 ⟨#[]⟩ 0 false true 0) ?_) (fun x hx => T.bind (F114v1_t _ _ _ _ _ _ hx.2.1 hx.2.2 (by omega)) fun _ _ => T.ret trivial) (fun _ _ => T.ret trivial)
  refine T.loop (L := fun a n (s : List Tok × Int × ByteArray × Int × Bool × Bool × Int) => F82_l9 a l n s.1 s.2.1 s.2.2.1 s.2.2.2.1 s.2.2.2.2.1 s.2.2.2.2.2.1 s.2.2.2.2.2.2) (fun s => 0 ≤ s.2.2.2.2.2.2 ∧ s.2.2.2.2.2.2 ≤ l.length ∧ (s.1.length : Int) ≤ 2 * s.2.2.2.2.2.2 ∧ s.2.2.1.size ≤ 100000 ∧ 0 ≤ s.2.2.2.1 ∧ s.2.2.2.1 ≤ 100000) (fun s => l.length - s.2.2.2.2.2.2.toNat) ?_ (_, _, _, _, _, _, 0) ⟨by simp, by simp, by simp, by simp [ByteArray.size], by simp, by simp⟩
  rintro ⟨ts, k, s, at_, b1, b2, i⟩ ⟨i0, i1, hl, hs, a0, a1⟩ rec
  simp only at i0 i1 hl hs a0 a1 rec ⊢
  simp only [F82_l9]
  refine T.dec (fun q => T.req (by omega) ?_) (fun _ => T.ret (.inl ⟨_, rfl, by simp only; omega, hs, a0, a1⟩))
  have hr : ((l.drop i.toNat).take ((l.length : Int).toNat - i.toNat)).length = l.length - i.toNat := by rw [List.length_take, List.length_drop]; omega
  generalize (l.drop i.toNat).take ((l.length : Int).toNat - i.toNat) = rest at hr ⊢
  refine T.idx' (by omega) fun c hc => ?_
  refine T.bsu (P := fun (p : Int × Int) => 0 ≤ p.1 ∧ p.1 ≤ rest.length) (P' := fun (z : List Tok × Int × ByteArray × Int × Bool × Bool × Int) => z.2.2.2.2.2.2 = i + 1 ∧ z.1.length ≤ ts.length + 1 ∧ z.2.2.1.size ≤ 100000 ∧ 0 ≤ z.2.2.2.1 ∧ z.2.2.2.1 ≤ 100000) ?_ ?_ ?_
  · refine T.beq (fun _ => T.bind (F114v1_t _ _ _ _ _ _ hs ⟨a0, a1⟩ (by omega)) fun r hr => T.ck (by omega) (T.ret (.inr ⟨_, rfl, rfl, hr, Nat.zero_le _, Int.le_refl 0, by simp only; omega⟩))) fun _ => ?_
    refine T.bind (P := fun _ => True) ?_ (fun r _ => T.bif (fun _ => T.ck (by omega) (T.ret (.inr ⟨_, rfl, rfl, by simp only; omega, hs, a0, a1⟩))) (fun _ => ?_))
    · repeat' first | with_reducible refine T.bt (by rfl) ?_ | with_reducible refine T.bf (by rfl) ?_ | with_reducible refine T.bdn (fun _ => ?_) (fun _ => ?_) | with_reducible refine T.bnot (fun _ => ?_) (fun _ => ?_) | with_reducible refine T.dec (fun _ => ?_) (fun _ => ?_) | with_reducible refine T.beq (fun _ => ?_) (fun _ => ?_) | with_reducible refine T.bne (fun _ => ?_) (fun _ => ?_) | with_reducible refine T.bif (fun _ => ?_) (fun _ => ?_) | (with_reducible refine T.ret ?_; first | trivial | omega | (simp; done) | (simp; omega))
    refine T.bind (F98_t _) fun _ _ => T.bif (fun _ => T.bind (F99v1_t rest (by omega)) fun r hr => T.ret (.inl ⟨_, rfl, hr⟩)) fun _ => ?_
    refine T.bind (F101_t _) fun _ _ => T.bif (fun _ => T.bind (F99v2_t rest (by omega)) fun r hr => T.bind (P := fun _ => True) ?_ fun _ _ => T.bif (fun _ => T.ret (.inl ⟨_, rfl, by simp only; omega⟩)) (fun _ => T.ret (.inl ⟨_, rfl, hr⟩))) fun _ => ?_
    · repeat' first | with_reducible refine T.bt (by rfl) ?_ | with_reducible refine T.bf (by rfl) ?_ | with_reducible refine T.bdn (fun _ => ?_) (fun _ => ?_) | with_reducible refine T.bnot (fun _ => ?_) (fun _ => ?_) | with_reducible refine T.dec (fun _ => ?_) (fun _ => ?_) | with_reducible refine T.beq (fun _ => ?_) (fun _ => ?_) | with_reducible refine T.bne (fun _ => ?_) (fun _ => ?_) | with_reducible refine T.bif (fun _ => ?_) (fun _ => ?_) | (with_reducible refine T.ret ?_; first | trivial | omega | (simp; done) | (simp; omega))
    refine T.beq (fun _ => T.bind (F116_t rest (by omega) (by omega)) fun r hr => T.ret (.inl ⟨_, rfl, hr⟩)) fun _ => ?_
    refine T.beq (fun _ => T.ret (.inl ⟨_, rfl, by simp only; omega⟩)) fun _ => ?_
    refine T.bind (F117_t rest _) fun r hr => T.bif (fun hq => T.req (by omega) ?_) (fun _ => T.bind (F120_t rest (by omega)) fun r hr => T.ret (.inl ⟨_, rfl, hr⟩))
    refine T.bind (P := fun n => 0 ≤ n ∧ n ≤ (rest.length : Int)) ?_ (fun n hn => T.req ⟨by omega, hn.1, hn.2⟩ (T.ret (.inl ⟨_, rfl, by simp only; omega, ?_⟩)))
    · have hx : idxByte rest 10 < rest.length ∨ idxByte rest 10 = -1 := by
        unfold idxByte
        have hlt : ∀ (l : List UInt8) (c : UInt8), Lib.indexByte l c < l.length ∨ Lib.indexByte l c = -1 := by
          intro l c
          induction l with
          | nil => right; rfl
          | cons b l ih =>
            rw [Lib.indexByte]
            split
            · left; simp only [List.length_cons]; omega
            · split
              · right; rfl
              · rename_i hne
                simp only [beq_iff_eq] at hne
                left; simp only [List.length_cons]; omega
        exact hlt rest 10
      refine T.dec (fun _ => T.ret (by omega)) (fun _ => T.ret (by omega))
    · simp only
      have := trim_le ((rest.drop (0 : Int).toNat).take (n.toNat - (0 : Int).toNat))
      rw [List.length_take, List.length_drop] at this
      have e0 : (0 : Int).toNat = 0 := rfl
      rw [e0] at this
      have e : ((rest.drop (0 : Int).toNat).take (n.toNat - (0 : Int).toNat)) = ((rest.drop 0).take (n.toNat - 0)) := rfl
      rw [e]; omega
  · rintro ⟨n, kd⟩ ⟨n0, n1⟩
    simp only at n0 n1 ⊢
    refine T.beq (fun _ => T.ret (.inr ⟨_, rfl, trivial⟩)) fun hne => T.req ⟨by omega, n0, n1⟩ ?_
    refine T.bind (F112v1_t _ _ _ _ _ _ _ ?_ ?_ hs ⟨a0, a1⟩ (by omega)) ?_
    · simp only [size_arr, List.length_take]; omega
    · simp only; omega
    · rintro ⟨r1, r2, r3, r4, r5⟩ ⟨g1, g2, g3, g4⟩
      simp only at g1 g2 g3 g4 ⊢
      exact T.ck (by omega) (rec (_, _, _, _, _, _, _) ⟨by simp only; omega, by simp only; omega, by simp only; omega, g1, g2, g3⟩ (by simp only; omega))
  · rintro z ⟨z1, z2, z3, z4, z5⟩
    exact rec z ⟨by omega, by omega, by omega, z3, z4, z5⟩ (by omega)
theorem F59_t (s : ByteArray) (k : Int) (h : s.size ≤ 50000) : T (fun a _ => F59 a s k) (fun _ => True) := by
  simp only [F59]
  refine T.req (by omega) (T.bind (F82_t _ (by rw [data_len]; omega)) fun r _ => T.bind (P := fun _ => True) ?_ (fun _ _ => T.ret trivial))
  repeat' first | with_reducible refine T.bt (by rfl) ?_ | with_reducible refine T.bf (by rfl) ?_ | with_reducible refine T.bdn (fun _ => ?_) (fun _ => ?_) | with_reducible refine T.bnot (fun _ => ?_) (fun _ => ?_) | with_reducible refine T.dec (fun _ => ?_) (fun _ => ?_) | with_reducible refine T.beq (fun _ => ?_) (fun _ => ?_) | with_reducible refine T.bne (fun _ => ?_) (fun _ => ?_) | with_reducible refine T.bif (fun _ => ?_) (fun _ => ?_) | (with_reducible refine T.ret ?_; first | trivial | omega | (simp; done) | (simp; omega)) | with_reducible refine T.ck (by first | omega | (simp only at *; omega) | (simp only [List.length_append, List.length_cons, List.length_nil] at *; omega)) ?_ | with_reducible refine T.req (by first | omega | (simp only at *; omega) | (simp only [List.length_append, List.length_cons, List.length_nil] at *; omega)) ?_ | with_reducible refine T.idx' (by first | omega | (simp only at *; omega) | (simp only [List.length_append, List.length_cons, List.length_nil] at *; omega)) (fun _ _ => ?_)
end Go.Proofs.YtabojfgmbfnoiaaGreatDoor
end
section
/- Whether a tree is a program's: it is answered. -/
set_option linter.unusedVariables false
set_option linter.unusedSimpArgs false
namespace Go.Proofs.YtabojfgmbfnoiaaGreatDoor
theorem F105_t (l : List ByteArray) (x : ByteArray) (h : l.length ≤ 100000) : T (fun a _ => F105 a l x) (fun _ => True) := by
  simp only [F105]
  exact T.bind (F71v1_t l x h) fun _ _ => T.ret trivial
theorem F104_t (l : List (List ByteArray)) (x : ByteArray) (h : l.length ≤ 100000) (hm : ∀ m ∈ l, m.length ≤ 100000) : T (fun a _ => F104 a l x) (fun r => -1 ≤ r ∧ r < l.length) := by
  simp only [F104]
  refine T.bsu (P := fun _ => True) (P' := fun r => -1 ≤ r ∧ r < (l.length : Int)) (T.diag (f := fun a n => F104_l6 a l x n 0) ?_) (fun _ _ => T.ret (by omega)) (fun _ h => T.ret h)
  refine T.loop (L := fun a n s => F104_l6 a l x n s) (fun s => 0 ≤ s ∧ s ≤ (l.length : Int)) (fun s => l.length - s.toNat) ?_ 0 (by omega)
  intro i ⟨i0, i1⟩ rec
  simp only [F104_l6]
  refine T.dec (fun _ => T.idx' (by omega) fun z hz => T.bind (F105_t _ _ (hm _ (mem_of_get hz))) fun _ _ => T.bif (fun _ => T.ret (.inr ⟨_, rfl, by omega⟩)) (fun _ => T.ck (by omega) (rec _ (by omega) (by omega)))) (fun _ => T.ret (.inl ⟨_, rfl, trivial⟩))
theorem F72_t (x : ByteArray) : T (fun a _ => F72 a x) (fun _ => True) := by
  simp only [F72]
  refine T.bind (F104_t _ _ (by decide) (by decide)) fun r hr => T.ck (by simp only [List.length_cons, List.length_nil] at hr; omega) (T.ret trivial)
theorem F57_t (t : Tree) (h : t.text.size ≤ 50000) : T (fun a _ => F57 a t) (fun _ => True) := by
  simp only [F57]
  repeat' first | with_reducible refine T.bind (F70_t _ h) (fun _ _ => ?_) | with_reducible refine T.bind (F59_t _ _ h) (fun _ _ => ?_) | with_reducible refine T.bind (F71_t _ _ (by decide)) (fun _ _ => ?_) | with_reducible refine T.bind (F72_t _) (fun _ _ => ?_) | with_reducible refine T.bt (by rfl) ?_ | with_reducible refine T.bf (by rfl) ?_ | with_reducible refine T.bdn (fun _ => ?_) (fun _ => ?_) | with_reducible refine T.bnot (fun _ => ?_) (fun _ => ?_) | with_reducible refine T.dec (fun _ => ?_) (fun _ => ?_) | with_reducible refine T.beq (fun _ => ?_) (fun _ => ?_) | with_reducible refine T.bne (fun _ => ?_) (fun _ => ?_) | with_reducible refine T.bif (fun _ => ?_) (fun _ => ?_) | (with_reducible refine T.ret ?_; first | trivial | omega | (simp; done) | (simp; omega)) | with_reducible refine T.bind (P := fun _ => True) ?_ (fun _ _ => ?_)
theorem F121_t (l : List Int) (x : Int) (h : l.length ≤ 100000) : T (fun a _ => F121 a l x) (fun _ => True) := by
  simp only [F121]
  refine T.bsu (P := fun _ => True) (P' := fun r => True) (T.diag (f := fun a n => F121_l5 a l x n 0) ?_) (fun _ _ => T.ret trivial) (fun _ h => T.ret trivial)
  refine T.loop (L := fun a n s => F121_l5 a l x n s) (fun s => 0 ≤ s ∧ s ≤ (l.length : Int)) (fun s => l.length - s.toNat) ?_ 0 (by omega)
  intro i ⟨i0, i1⟩ rec
  simp only [F121_l5]
  repeat' first | exact rec _ (by first | omega | (simp only at *; omega) | (simp only [List.length_append, List.length_cons, List.length_nil] at *; omega)) (by first | omega | (simp only at *; omega) | (simp only [List.length_append, List.length_cons, List.length_nil] at *; omega)) | with_reducible refine T.bt (by rfl) ?_ | with_reducible refine T.bf (by rfl) ?_ | with_reducible refine T.bdn (fun _ => ?_) (fun _ => ?_) | with_reducible refine T.bnot (fun _ => ?_) (fun _ => ?_) | with_reducible refine T.dec (fun _ => ?_) (fun _ => ?_) | with_reducible refine T.beq (fun _ => ?_) (fun _ => ?_) | with_reducible refine T.bne (fun _ => ?_) (fun _ => ?_) | with_reducible refine T.bif (fun _ => ?_) (fun _ => ?_) | with_reducible refine T.ck (by first | omega | (simp only at *; omega) | (simp only [List.length_append, List.length_cons, List.length_nil] at *; omega)) ?_ | with_reducible refine T.req (by first | omega | (simp only at *; omega) | (simp only [List.length_append, List.length_cons, List.length_nil] at *; omega)) ?_ | with_reducible refine T.idx' (by first | omega | (simp only at *; omega) | (simp only [List.length_append, List.length_cons, List.length_nil] at *; omega)) (fun _ _ => ?_) | (with_reducible refine T.ret ?_; exact .inr ⟨_, rfl, by first | trivial | omega⟩) | (with_reducible refine T.ret ?_; exact .inl ⟨_, rfl, by first | trivial | omega⟩)
theorem F84_t (l : List Int) (x : Int) (h : l.length ≤ 100000) : T (fun a _ => F84 a l x) (fun _ => True) := by
  simp only [F84]
  exact T.bind (F121_t l x h) fun _ _ => T.ret trivial
theorem F83_t (t : Tree) (l : List Int) (h : l.length ≤ 100000) : T (fun a _ => F83 a t l) (fun _ => True) := by
  simp only [F83]
  exact T.bind (F84_t l _ h) fun _ _ => T.ret trivial
theorem F60_t (l : List Int) : T (fun a _ => F60 a l) (fun _ => True) := T.ret trivial
theorem F73_t (l : List Tree) (h : l.length ≤ 100000) : T (fun a _ => F73 a l) (fun _ => True) := by
  simp only [F73]
  refine T.bsu (P := fun _ => True) (P' := fun r => True) (T.diag (f := fun a n => F73_l3 a l n 0 0) ?_) (fun _ _ => T.ret trivial) (fun _ h => T.ret trivial)
  refine T.loop (L := fun a n (s : Int × Int) => F73_l3 a l n s.1 s.2) (fun s => 0 ≤ s.2 ∧ s.2 ≤ (l.length : Int)) (fun s => l.length - s.2.toNat) ?_ (0, 0) (by simp)
  rintro ⟨y, i⟩ ⟨i0, i1⟩ rec
  simp only at i0 i1 rec ⊢
  simp only [F73_l3]
  refine T.dec (fun _ => ?_) (fun _ => T.ret (.inl ⟨_, rfl, trivial⟩))
  refine T.bsu (P := fun _ => True) (P' := fun r => True) ?_ (fun x _ => T.ck (by omega) (rec (_, _) ⟨by simp only; omega, by simp only; omega⟩ (by simp only; omega))) (fun _ _ => T.ret (.inr ⟨_, rfl, trivial⟩))
  repeat' first | with_reducible refine T.bind (F60_t _) (fun _ _ => ?_) | with_reducible refine T.bind (F83_t _ _ (by decide)) (fun _ _ => ?_) | with_reducible refine T.bt (by rfl) ?_ | with_reducible refine T.bf (by rfl) ?_ | with_reducible refine T.bdn (fun _ => ?_) (fun _ => ?_) | with_reducible refine T.bnot (fun _ => ?_) (fun _ => ?_) | with_reducible refine T.dec (fun _ => ?_) (fun _ => ?_) | with_reducible refine T.beq (fun _ => ?_) (fun _ => ?_) | with_reducible refine T.bne (fun _ => ?_) (fun _ => ?_) | with_reducible refine T.bif (fun _ => ?_) (fun _ => ?_) | with_reducible refine T.ck (by first | omega | (simp only at *; omega) | (simp only [List.length_append, List.length_cons, List.length_nil] at *; omega)) ?_ | with_reducible refine T.req (by first | omega | (simp only at *; omega) | (simp only [List.length_append, List.length_cons, List.length_nil] at *; omega)) ?_ | with_reducible refine T.idx' (by first | omega | (simp only at *; omega) | (simp only [List.length_append, List.length_cons, List.length_nil] at *; omega)) (fun _ _ => ?_) | (with_reducible refine T.ret ?_; exact .inr ⟨_, rfl, by first | trivial | omega⟩) | (with_reducible refine T.ret ?_; exact .inl ⟨_, rfl, by first | trivial | omega⟩) | with_reducible refine T.bind (P := fun _ => True) ?_ (fun _ _ => ?_) | (with_reducible refine T.ret ?_; first | trivial | omega | (simp; done) | (simp; omega))
theorem F75_t (t : Tree) : T (fun a _ => F75 a t) (fun _ => True) := by
  simp only [F75]
  repeat' first | with_reducible refine T.bt (by rfl) ?_ | with_reducible refine T.bf (by rfl) ?_ | with_reducible refine T.bdn (fun _ => ?_) (fun _ => ?_) | with_reducible refine T.bnot (fun _ => ?_) (fun _ => ?_) | with_reducible refine T.dec (fun _ => ?_) (fun _ => ?_) | with_reducible refine T.beq (fun _ => ?_) (fun _ => ?_) | with_reducible refine T.bne (fun _ => ?_) (fun _ => ?_) | with_reducible refine T.bif (fun _ => ?_) (fun _ => ?_) | (with_reducible refine T.ret ?_; first | trivial | omega | (simp; done) | (simp; omega)) | with_reducible refine T.bind (P := fun _ => True) ?_ (fun _ _ => ?_)
theorem F77_t (t : Tree) : T (fun a _ => F77 a t) (fun _ => True) := by
  simp only [F77]
  repeat' first | with_reducible refine T.bt (by rfl) ?_ | with_reducible refine T.bf (by rfl) ?_ | with_reducible refine T.bdn (fun _ => ?_) (fun _ => ?_) | with_reducible refine T.bnot (fun _ => ?_) (fun _ => ?_) | with_reducible refine T.dec (fun _ => ?_) (fun _ => ?_) | with_reducible refine T.beq (fun _ => ?_) (fun _ => ?_) | with_reducible refine T.bne (fun _ => ?_) (fun _ => ?_) | with_reducible refine T.bif (fun _ => ?_) (fun _ => ?_) | (with_reducible refine T.ret ?_; first | trivial | omega | (simp; done) | (simp; omega)) | with_reducible refine T.bind (P := fun _ => True) ?_ (fun _ _ => ?_)
theorem F78_t (t : Tree) : T (fun a _ => F78 a t) (fun _ => True) := T.ret trivial
theorem F76_t : T (fun a _ => F76 a) (fun _ => True) := T.ret trivial
theorem F76v1_t : T (fun a _ => F76v1 a) (fun _ => True) := T.ret trivial
theorem F108_t (k : Int) (s r : ByteArray) (l : List Tree) : T (fun a _ => F108 a k s r l) (fun _ => True) := by
  simp only [F108]
  exact T.bind (F77_t _) fun _ _ => T.ret trivial
theorem F108v1_t (k : Int) (s r : ByteArray) (l : List Tree) : T (fun a _ => F108v1 a k s r l) (fun _ => True) := by
  simp only [F108v1]
  exact T.bind (F78_t _) fun _ _ => T.ret trivial
theorem F108v2_t (k : Int) (s r : ByteArray) (l : List Tree) : T (fun a _ => F108v2 a k s r l) (fun _ => True) := by
  simp only [F108v2]
  exact T.bind (F75_t _) fun _ _ => T.ret trivial
theorem F129_t (k : Int) (s r : ByteArray) (l : List Tree) : T (fun a _ => F129 a k s r l) (fun _ => True) := by
  simp only [F129]
  refine T.bsu (P := fun _ => True) (P' := fun r => True) (T.diag (f := fun a n => F129_l8 a k s r l n 0) ?_) (fun _ _ => T.ret trivial) (fun _ h => T.ret trivial)
  refine T.loop (L := fun a n i => F129_l8 a k s r l n i) (fun i => 0 ≤ i ∧ i ≤ 2) (fun i => 2 - i.toNat) ?_ 0 (by omega)
  intro i ⟨i0, i1⟩ rec
  simp only [F129_l8]
  repeat' first | exact rec _ (by first | omega | (simp only at *; omega) | (simp only [List.length_append, List.length_cons, List.length_nil] at *; omega)) (by first | omega | (simp only at *; omega) | (simp only [List.length_append, List.length_cons, List.length_nil] at *; omega)) | with_reducible refine T.bind (F108_t _ _ _ _) (fun _ _ => ?_) | with_reducible refine T.bind (F108v1_t _ _ _ _) (fun _ _ => ?_) | with_reducible refine T.bind (F108v2_t _ _ _ _) (fun _ _ => ?_) | with_reducible refine T.bt (by rfl) ?_ | with_reducible refine T.bf (by rfl) ?_ | with_reducible refine T.bdn (fun _ => ?_) (fun _ => ?_) | with_reducible refine T.bnot (fun _ => ?_) (fun _ => ?_) | with_reducible refine T.dec (fun _ => ?_) (fun _ => ?_) | with_reducible refine T.beq (fun _ => ?_) (fun _ => ?_) | with_reducible refine T.bne (fun _ => ?_) (fun _ => ?_) | with_reducible refine T.bif (fun _ => ?_) (fun _ => ?_) | with_reducible refine T.ck (by first | omega | (simp only at *; omega) | (simp only [List.length_append, List.length_cons, List.length_nil] at *; omega)) ?_ | with_reducible refine T.req (by first | omega | (simp only at *; omega) | (simp only [List.length_append, List.length_cons, List.length_nil] at *; omega)) ?_ | with_reducible refine T.idx' (by first | omega | (simp only at *; omega) | (simp only [List.length_append, List.length_cons, List.length_nil] at *; omega)) (fun _ _ => ?_) | (with_reducible refine T.ret ?_; exact .inr ⟨_, rfl, by first | trivial | omega⟩) | (with_reducible refine T.ret ?_; exact .inl ⟨_, rfl, by first | trivial | omega⟩) | (exfalso; omega)
theorem F107_t (k : Int) (s r : ByteArray) (l : List Tree) : T (fun a _ => F107 a k s r l) (fun _ => True) := by
  simp only [F107]
  exact T.bind (F129_t _ _ _ _) fun _ _ => T.ret trivial
theorem F106_t (t : Tree) : T (fun a _ => F106 a t) (fun _ => True) := by
  simp only [F106]
  exact T.bind (F107_t _ _ _ _) fun _ _ => T.ret trivial
theorem F129v1_t (k : Int) (s r : ByteArray) (l : List Tree) : T (fun a _ => F129v1 a k s r l) (fun _ => True) := by
  simp only [F129v1]
  refine T.bsu (P := fun _ => True) (P' := fun r => True) (T.diag (f := fun a n => F129v1_l8 a k s r l n 0) ?_) (fun _ _ => T.ret trivial) (fun _ h => T.ret trivial)
  refine T.loop (L := fun a n i => F129v1_l8 a k s r l n i) (fun i => 0 ≤ i ∧ i ≤ 2) (fun i => 2 - i.toNat) ?_ 0 (by omega)
  intro i ⟨i0, i1⟩ rec
  simp only [F129v1_l8]
  repeat' first | exact rec _ (by first | omega | (simp only at *; omega) | (simp only [List.length_append, List.length_cons, List.length_nil] at *; omega)) (by first | omega | (simp only at *; omega) | (simp only [List.length_append, List.length_cons, List.length_nil] at *; omega)) | with_reducible refine T.bind (F108_t _ _ _ _) (fun _ _ => ?_) | with_reducible refine T.bind (F108v1_t _ _ _ _) (fun _ _ => ?_) | with_reducible refine T.bind (F108v2_t _ _ _ _) (fun _ _ => ?_) | with_reducible refine T.bt (by rfl) ?_ | with_reducible refine T.bf (by rfl) ?_ | with_reducible refine T.bdn (fun _ => ?_) (fun _ => ?_) | with_reducible refine T.bnot (fun _ => ?_) (fun _ => ?_) | with_reducible refine T.dec (fun _ => ?_) (fun _ => ?_) | with_reducible refine T.beq (fun _ => ?_) (fun _ => ?_) | with_reducible refine T.bne (fun _ => ?_) (fun _ => ?_) | with_reducible refine T.bif (fun _ => ?_) (fun _ => ?_) | with_reducible refine T.ck (by first | omega | (simp only at *; omega) | (simp only [List.length_append, List.length_cons, List.length_nil] at *; omega)) ?_ | with_reducible refine T.req (by first | omega | (simp only at *; omega) | (simp only [List.length_append, List.length_cons, List.length_nil] at *; omega)) ?_ | with_reducible refine T.idx' (by first | omega | (simp only at *; omega) | (simp only [List.length_append, List.length_cons, List.length_nil] at *; omega)) (fun _ _ => ?_) | (with_reducible refine T.ret ?_; exact .inr ⟨_, rfl, by first | trivial | omega⟩) | (with_reducible refine T.ret ?_; exact .inl ⟨_, rfl, by first | trivial | omega⟩) | (exfalso; omega)
theorem F107v1_t (k : Int) (s r : ByteArray) (l : List Tree) : T (fun a _ => F107v1 a k s r l) (fun _ => True) := by
  simp only [F107v1]
  exact T.bind (F129v1_t _ _ _ _) fun _ _ => T.ret trivial
theorem F106v1_t (t : Tree) : T (fun a _ => F106v1 a t) (fun _ => True) := by
  simp only [F106v1]
  exact T.bind (F107v1_t _ _ _ _) fun _ _ => T.ret trivial
theorem F110_t (t : Tree) (a5 : List Int) (ha5 : a5.length ≤ 100000) : T (fun a _ => F110 a t a5) (fun _ => True) := by
  simp only [F110]
  exact T.bind (F83_t _ _ ha5) fun _ _ => T.ret trivial
theorem F130_t (l : List Tree) (h : l.length ≤ 100000) (a5 : List Int) (ha5 : a5.length ≤ 100000) : T (fun a _ => F130 a l a5) (fun _ => True) := by
  simp only [F130]
  refine T.bsu (P := fun _ => True) (P' := fun r => True) (T.diag (f := fun a n => F130_l7 a l a5 n 0) ?_) (fun _ _ => T.ret trivial) (fun _ h => T.ret trivial)
  refine T.loop (L := fun a n s => F130_l7 a l a5 n s) (fun s => 0 ≤ s ∧ s ≤ (l.length : Int)) (fun s => l.length - s.toNat) ?_ 0 (by omega)
  intro i ⟨i0, i1⟩ rec
  simp only [F130_l7]
  repeat' first | exact rec _ (by first | omega | (simp only at *; omega) | (simp only [List.length_append, List.length_cons, List.length_nil] at *; omega)) (by first | omega | (simp only at *; omega) | (simp only [List.length_append, List.length_cons, List.length_nil] at *; omega)) | with_reducible refine T.bind (F110_t _ a5 ha5) (fun _ _ => ?_) | with_reducible refine T.bt (by rfl) ?_ | with_reducible refine T.bf (by rfl) ?_ | with_reducible refine T.bdn (fun _ => ?_) (fun _ => ?_) | with_reducible refine T.bnot (fun _ => ?_) (fun _ => ?_) | with_reducible refine T.dec (fun _ => ?_) (fun _ => ?_) | with_reducible refine T.beq (fun _ => ?_) (fun _ => ?_) | with_reducible refine T.bne (fun _ => ?_) (fun _ => ?_) | with_reducible refine T.bif (fun _ => ?_) (fun _ => ?_) | with_reducible refine T.ck (by first | omega | (simp only at *; omega) | (simp only [List.length_append, List.length_cons, List.length_nil] at *; omega)) ?_ | with_reducible refine T.req (by first | omega | (simp only at *; omega) | (simp only [List.length_append, List.length_cons, List.length_nil] at *; omega)) ?_ | with_reducible refine T.idx' (by first | omega | (simp only at *; omega) | (simp only [List.length_append, List.length_cons, List.length_nil] at *; omega)) (fun _ _ => ?_) | (with_reducible refine T.ret ?_; exact .inr ⟨_, rfl, by first | trivial | omega⟩) | (with_reducible refine T.ret ?_; exact .inl ⟨_, rfl, by first | trivial | omega⟩)
theorem F109_t (l : List Tree) (h : l.length ≤ 100000) (a5 : List Int) (ha5 : a5.length ≤ 100000) : T (fun a _ => F109 a l a5) (fun _ => True) := by
  simp only [F109]
  exact T.bind (F130_t l h a5 ha5) fun _ _ => T.ret trivial
theorem F79_t (l : List Tree) (h : l.length ≤ 100000) (a5 : List Int) (ha5 : a5.length ≤ 100000) : T (fun a _ => F79 a l a5) (fun _ => True) := by
  simp only [F79]
  exact T.bind (F109_t l h a5 ha5) fun _ _ => T.ret trivial
theorem F80_t (t : Tree) : T (fun a _ => F80 a t) (fun _ => True) := by
  simp only [F80]
  exact T.bind (F60_t _) fun _ _ => T.bind (F83_t _ _ (by decide)) fun _ _ => T.ret trivial
theorem F110v1_t (t : Tree) : T (fun a _ => F110v1 a t) (fun _ => True) := by
  simp only [F110v1]
  exact T.bind (F80_t _) fun _ _ => T.ret trivial
theorem F130v1_t (l : List Tree) (h : l.length ≤ 100000) : T (fun a _ => F130v1 a l) (fun _ => True) := by
  simp only [F130v1]
  refine T.bsu (P := fun _ => True) (P' := fun r => True) (T.diag (f := fun a n => F130v1_l4 a l n 0) ?_) (fun _ _ => T.ret trivial) (fun _ h => T.ret trivial)
  refine T.loop (L := fun a n s => F130v1_l4 a l n s) (fun s => 0 ≤ s ∧ s ≤ (l.length : Int)) (fun s => l.length - s.toNat) ?_ 0 (by omega)
  intro i ⟨i0, i1⟩ rec
  simp only [F130v1_l4]
  repeat' first | exact rec _ (by first | omega | (simp only at *; omega) | (simp only [List.length_append, List.length_cons, List.length_nil] at *; omega)) (by first | omega | (simp only at *; omega) | (simp only [List.length_append, List.length_cons, List.length_nil] at *; omega)) | with_reducible refine T.bind (F110v1_t _) (fun _ _ => ?_) | with_reducible refine T.bt (by rfl) ?_ | with_reducible refine T.bf (by rfl) ?_ | with_reducible refine T.bdn (fun _ => ?_) (fun _ => ?_) | with_reducible refine T.bnot (fun _ => ?_) (fun _ => ?_) | with_reducible refine T.dec (fun _ => ?_) (fun _ => ?_) | with_reducible refine T.beq (fun _ => ?_) (fun _ => ?_) | with_reducible refine T.bne (fun _ => ?_) (fun _ => ?_) | with_reducible refine T.bif (fun _ => ?_) (fun _ => ?_) | with_reducible refine T.ck (by first | omega | (simp only at *; omega) | (simp only [List.length_append, List.length_cons, List.length_nil] at *; omega)) ?_ | with_reducible refine T.req (by first | omega | (simp only at *; omega) | (simp only [List.length_append, List.length_cons, List.length_nil] at *; omega)) ?_ | with_reducible refine T.idx' (by first | omega | (simp only at *; omega) | (simp only [List.length_append, List.length_cons, List.length_nil] at *; omega)) (fun _ _ => ?_) | (with_reducible refine T.ret ?_; exact .inr ⟨_, rfl, by first | trivial | omega⟩) | (with_reducible refine T.ret ?_; exact .inl ⟨_, rfl, by first | trivial | omega⟩)
theorem F109v1_t (l : List Tree) (h : l.length ≤ 100000) : T (fun a _ => F109v1 a l) (fun _ => True) := by
  simp only [F109v1]
  exact T.bind (F130v1_t l h) fun _ _ => T.ret trivial
theorem F79v1_t (l : List Tree) (h : l.length ≤ 100000) : T (fun a _ => F79v1 a l) (fun _ => True) := by
  simp only [F79v1]
  exact T.bind (F109v1_t l h) fun _ _ => T.ret trivial
theorem F110v2_t (t : Tree) : T (fun a _ => F110v2 a t) (fun _ => True) := by
  simp only [F110v2]
  exact T.bind (F75_t _) fun _ _ => T.ret trivial
theorem F130v2_t (l : List Tree) (h : l.length ≤ 100000) : T (fun a _ => F130v2 a l) (fun _ => True) := by
  simp only [F130v2]
  refine T.bsu (P := fun _ => True) (P' := fun r => True) (T.diag (f := fun a n => F130v2_l4 a l n 0) ?_) (fun _ _ => T.ret trivial) (fun _ h => T.ret trivial)
  refine T.loop (L := fun a n s => F130v2_l4 a l n s) (fun s => 0 ≤ s ∧ s ≤ (l.length : Int)) (fun s => l.length - s.toNat) ?_ 0 (by omega)
  intro i ⟨i0, i1⟩ rec
  simp only [F130v2_l4]
  repeat' first | exact rec _ (by first | omega | (simp only at *; omega) | (simp only [List.length_append, List.length_cons, List.length_nil] at *; omega)) (by first | omega | (simp only at *; omega) | (simp only [List.length_append, List.length_cons, List.length_nil] at *; omega)) | with_reducible refine T.bind (F110v2_t _) (fun _ _ => ?_) | with_reducible refine T.bt (by rfl) ?_ | with_reducible refine T.bf (by rfl) ?_ | with_reducible refine T.bdn (fun _ => ?_) (fun _ => ?_) | with_reducible refine T.bnot (fun _ => ?_) (fun _ => ?_) | with_reducible refine T.dec (fun _ => ?_) (fun _ => ?_) | with_reducible refine T.beq (fun _ => ?_) (fun _ => ?_) | with_reducible refine T.bne (fun _ => ?_) (fun _ => ?_) | with_reducible refine T.bif (fun _ => ?_) (fun _ => ?_) | with_reducible refine T.ck (by first | omega | (simp only at *; omega) | (simp only [List.length_append, List.length_cons, List.length_nil] at *; omega)) ?_ | with_reducible refine T.req (by first | omega | (simp only at *; omega) | (simp only [List.length_append, List.length_cons, List.length_nil] at *; omega)) ?_ | with_reducible refine T.idx' (by first | omega | (simp only at *; omega) | (simp only [List.length_append, List.length_cons, List.length_nil] at *; omega)) (fun _ _ => ?_) | (with_reducible refine T.ret ?_; exact .inr ⟨_, rfl, by first | trivial | omega⟩) | (with_reducible refine T.ret ?_; exact .inl ⟨_, rfl, by first | trivial | omega⟩)
theorem F109v2_t (l : List Tree) (h : l.length ≤ 100000) : T (fun a _ => F109v2 a l) (fun _ => True) := by
  simp only [F109v2]
  exact T.bind (F130v2_t l h) fun _ _ => T.ret trivial
theorem F79v2_t (l : List Tree) (h : l.length ≤ 100000) : T (fun a _ => F79v2 a l) (fun _ => True) := by
  simp only [F79v2]
  exact T.bind (F109v2_t l h) fun _ _ => T.ret trivial
theorem F81_t (t : Tree) : T (fun a _ => F81 a t) (fun _ => True) := by
  simp only [F81]
  repeat' first | with_reducible refine T.bt (by rfl) ?_ | with_reducible refine T.bf (by rfl) ?_ | with_reducible refine T.bdn (fun _ => ?_) (fun _ => ?_) | with_reducible refine T.bnot (fun _ => ?_) (fun _ => ?_) | with_reducible refine T.dec (fun _ => ?_) (fun _ => ?_) | with_reducible refine T.beq (fun _ => ?_) (fun _ => ?_) | with_reducible refine T.bne (fun _ => ?_) (fun _ => ?_) | with_reducible refine T.bif (fun _ => ?_) (fun _ => ?_) | (with_reducible refine T.ret ?_; first | trivial | omega | (simp; done) | (simp; omega)) | with_reducible refine T.bind (P := fun _ => True) ?_ (fun _ _ => ?_)
theorem F74_t (l : List Tree) : T (fun a _ => F74 a l) (fun r => r = true → l.length = 1) := by
  simp only [F74]
  refine T.bne (fun _ => T.ret (by simp)) fun hl => ?_
  refine T.bsu (P := fun _ => True) (P' := fun r => True) (T.diag (f := fun a n => F74_l5 a l n 0) ?_) (fun _ _ => T.ret (fun _ => by omega)) (fun _ h => T.ret (fun _ => by omega))
  refine T.loop (L := fun a n i => F74_l5 a l n i) (fun i => 0 ≤ i ∧ i ≤ 1) (fun i => 1 - i.toNat) ?_ 0 (by omega)
  intro i ⟨i0, i1⟩ rec
  simp only [F74_l5]
  repeat' first | exact rec _ (by first | omega | (simp only at *; omega) | (simp only [List.length_append, List.length_cons, List.length_nil] at *; omega)) (by first | omega | (simp only at *; omega) | (simp only [List.length_append, List.length_cons, List.length_nil] at *; omega)) | with_reducible refine T.bind (F75_t _) (fun _ _ => ?_) | with_reducible refine T.bind (F77_t _) (fun _ _ => ?_) | with_reducible refine T.bind (F81_t _) (fun _ _ => ?_) | with_reducible refine T.bind (F106_t _) (fun _ _ => ?_) | with_reducible refine T.bind (F106v1_t _) (fun _ _ => ?_) | with_reducible refine T.bind (F83_t _ _ (by assumption)) (fun _ _ => ?_) | with_reducible refine T.bt (by rfl) ?_ | with_reducible refine T.bf (by rfl) ?_ | with_reducible refine T.bdn (fun _ => ?_) (fun _ => ?_) | with_reducible refine T.bnot (fun _ => ?_) (fun _ => ?_) | with_reducible refine T.dec (fun _ => ?_) (fun _ => ?_) | with_reducible refine T.beq (fun _ => ?_) (fun _ => ?_) | with_reducible refine T.bne (fun _ => ?_) (fun _ => ?_) | with_reducible refine T.bif (fun _ => ?_) (fun _ => ?_) | with_reducible refine T.ck (by first | omega | (simp only at *; omega) | (simp only [List.length_append, List.length_cons, List.length_nil] at *; omega)) ?_ | with_reducible refine T.req (by first | omega | (simp only at *; omega) | (simp only [List.length_append, List.length_cons, List.length_nil] at *; omega)) ?_ | with_reducible refine T.idx' (by first | omega | (simp only at *; omega) | (simp only [List.length_append, List.length_cons, List.length_nil] at *; omega)) (fun _ _ => ?_) | (with_reducible refine T.ret ?_; exact .inr ⟨_, rfl, by first | trivial | omega⟩) | (with_reducible refine T.ret ?_; exact .inl ⟨_, rfl, by first | trivial | omega⟩) | (exfalso; omega)
theorem F74v1_t (l : List Tree) : T (fun a _ => F74v1 a l) (fun r => r = true → l.length = 2) := by
  simp only [F74v1]
  refine T.bne (fun _ => T.ret (by simp)) fun hl => ?_
  refine T.bsu (P := fun _ => True) (P' := fun r => True) (T.diag (f := fun a n => F74v1_l9 a l n 0) ?_) (fun _ _ => T.ret (fun _ => by omega)) (fun _ h => T.ret (fun _ => by omega))
  refine T.loop (L := fun a n i => F74v1_l9 a l n i) (fun i => 0 ≤ i ∧ i ≤ 2) (fun i => 2 - i.toNat) ?_ 0 (by omega)
  intro i ⟨i0, i1⟩ rec
  simp only [F74v1_l9]
  repeat' first | exact rec _ (by first | omega | (simp only at *; omega) | (simp only [List.length_append, List.length_cons, List.length_nil] at *; omega)) (by first | omega | (simp only at *; omega) | (simp only [List.length_append, List.length_cons, List.length_nil] at *; omega)) | with_reducible refine T.bind (F75_t _) (fun _ _ => ?_) | with_reducible refine T.bind (F77_t _) (fun _ _ => ?_) | with_reducible refine T.bind (F81_t _) (fun _ _ => ?_) | with_reducible refine T.bind (F106_t _) (fun _ _ => ?_) | with_reducible refine T.bind (F106v1_t _) (fun _ _ => ?_) | with_reducible refine T.bind (F83_t _ _ (by assumption)) (fun _ _ => ?_) | with_reducible refine T.bt (by rfl) ?_ | with_reducible refine T.bf (by rfl) ?_ | with_reducible refine T.bdn (fun _ => ?_) (fun _ => ?_) | with_reducible refine T.bnot (fun _ => ?_) (fun _ => ?_) | with_reducible refine T.dec (fun _ => ?_) (fun _ => ?_) | with_reducible refine T.beq (fun _ => ?_) (fun _ => ?_) | with_reducible refine T.bne (fun _ => ?_) (fun _ => ?_) | with_reducible refine T.bif (fun _ => ?_) (fun _ => ?_) | with_reducible refine T.ck (by first | omega | (simp only at *; omega) | (simp only [List.length_append, List.length_cons, List.length_nil] at *; omega)) ?_ | with_reducible refine T.req (by first | omega | (simp only at *; omega) | (simp only [List.length_append, List.length_cons, List.length_nil] at *; omega)) ?_ | with_reducible refine T.idx' (by first | omega | (simp only at *; omega) | (simp only [List.length_append, List.length_cons, List.length_nil] at *; omega)) (fun _ _ => ?_) | (with_reducible refine T.ret ?_; exact .inr ⟨_, rfl, by first | trivial | omega⟩) | (with_reducible refine T.ret ?_; exact .inl ⟨_, rfl, by first | trivial | omega⟩) | (exfalso; omega)
theorem F74v2_t (l : List Tree) : T (fun a _ => F74v2 a l) (fun r => r = true → l.length = 1) := by
  simp only [F74v2]
  refine T.bne (fun _ => T.ret (by simp)) fun hl => ?_
  refine T.bsu (P := fun _ => True) (P' := fun r => True) (T.diag (f := fun a n => F74v2_l5 a l n 0) ?_) (fun _ _ => T.ret (fun _ => by omega)) (fun _ h => T.ret (fun _ => by omega))
  refine T.loop (L := fun a n i => F74v2_l5 a l n i) (fun i => 0 ≤ i ∧ i ≤ 1) (fun i => 1 - i.toNat) ?_ 0 (by omega)
  intro i ⟨i0, i1⟩ rec
  simp only [F74v2_l5]
  repeat' first | exact rec _ (by first | omega | (simp only at *; omega) | (simp only [List.length_append, List.length_cons, List.length_nil] at *; omega)) (by first | omega | (simp only at *; omega) | (simp only [List.length_append, List.length_cons, List.length_nil] at *; omega)) | with_reducible refine T.bind (F75_t _) (fun _ _ => ?_) | with_reducible refine T.bind (F77_t _) (fun _ _ => ?_) | with_reducible refine T.bind (F81_t _) (fun _ _ => ?_) | with_reducible refine T.bind (F106_t _) (fun _ _ => ?_) | with_reducible refine T.bind (F106v1_t _) (fun _ _ => ?_) | with_reducible refine T.bind (F83_t _ _ (by assumption)) (fun _ _ => ?_) | with_reducible refine T.bt (by rfl) ?_ | with_reducible refine T.bf (by rfl) ?_ | with_reducible refine T.bdn (fun _ => ?_) (fun _ => ?_) | with_reducible refine T.bnot (fun _ => ?_) (fun _ => ?_) | with_reducible refine T.dec (fun _ => ?_) (fun _ => ?_) | with_reducible refine T.beq (fun _ => ?_) (fun _ => ?_) | with_reducible refine T.bne (fun _ => ?_) (fun _ => ?_) | with_reducible refine T.bif (fun _ => ?_) (fun _ => ?_) | with_reducible refine T.ck (by first | omega | (simp only at *; omega) | (simp only [List.length_append, List.length_cons, List.length_nil] at *; omega)) ?_ | with_reducible refine T.req (by first | omega | (simp only at *; omega) | (simp only [List.length_append, List.length_cons, List.length_nil] at *; omega)) ?_ | with_reducible refine T.idx' (by first | omega | (simp only at *; omega) | (simp only [List.length_append, List.length_cons, List.length_nil] at *; omega)) (fun _ _ => ?_) | (with_reducible refine T.ret ?_; exact .inr ⟨_, rfl, by first | trivial | omega⟩) | (with_reducible refine T.ret ?_; exact .inl ⟨_, rfl, by first | trivial | omega⟩) | (exfalso; omega)
theorem F74v3_t (l : List Tree) (a5 : List Int) (ha5 : a5.length ≤ 100000) (a8 : List Int) (ha8 : a8.length ≤ 100000) (a13 : List Int) (ha13 : a13.length ≤ 100000) : T (fun a _ => F74v3 a l a5 a8 a13) (fun r => r = true → l.length = 4) := by
  simp only [F74v3]
  refine T.bne (fun _ => T.ret (by simp)) fun hl => ?_
  refine T.bsu (P := fun _ => True) (P' := fun r => True) (T.diag (f := fun a n => F74v3_l16 a l a5 a8 a13 n 0) ?_) (fun _ _ => T.ret (fun _ => by omega)) (fun _ h => T.ret (fun _ => by omega))
  refine T.loop (L := fun a n i => F74v3_l16 a l a5 a8 a13 n i) (fun i => 0 ≤ i ∧ i ≤ 4) (fun i => 4 - i.toNat) ?_ 0 (by omega)
  intro i ⟨i0, i1⟩ rec
  simp only [F74v3_l16]
  repeat' first | exact rec _ (by first | omega | (simp only at *; omega) | (simp only [List.length_append, List.length_cons, List.length_nil] at *; omega)) (by first | omega | (simp only at *; omega) | (simp only [List.length_append, List.length_cons, List.length_nil] at *; omega)) | with_reducible refine T.bind (F75_t _) (fun _ _ => ?_) | with_reducible refine T.bind (F77_t _) (fun _ _ => ?_) | with_reducible refine T.bind (F81_t _) (fun _ _ => ?_) | with_reducible refine T.bind (F106_t _) (fun _ _ => ?_) | with_reducible refine T.bind (F106v1_t _) (fun _ _ => ?_) | with_reducible refine T.bind (F83_t _ _ (by assumption)) (fun _ _ => ?_) | with_reducible refine T.bt (by rfl) ?_ | with_reducible refine T.bf (by rfl) ?_ | with_reducible refine T.bdn (fun _ => ?_) (fun _ => ?_) | with_reducible refine T.bnot (fun _ => ?_) (fun _ => ?_) | with_reducible refine T.dec (fun _ => ?_) (fun _ => ?_) | with_reducible refine T.beq (fun _ => ?_) (fun _ => ?_) | with_reducible refine T.bne (fun _ => ?_) (fun _ => ?_) | with_reducible refine T.bif (fun _ => ?_) (fun _ => ?_) | with_reducible refine T.ck (by first | omega | (simp only at *; omega) | (simp only [List.length_append, List.length_cons, List.length_nil] at *; omega)) ?_ | with_reducible refine T.req (by first | omega | (simp only at *; omega) | (simp only [List.length_append, List.length_cons, List.length_nil] at *; omega)) ?_ | with_reducible refine T.idx' (by first | omega | (simp only at *; omega) | (simp only [List.length_append, List.length_cons, List.length_nil] at *; omega)) (fun _ _ => ?_) | (with_reducible refine T.ret ?_; exact .inr ⟨_, rfl, by first | trivial | omega⟩) | (with_reducible refine T.ret ?_; exact .inl ⟨_, rfl, by first | trivial | omega⟩) | (exfalso; omega)
theorem F74v4_t (l : List Tree) : T (fun a _ => F74v4 a l) (fun r => r = true → l.length = 2) := by
  simp only [F74v4]
  refine T.bne (fun _ => T.ret (by simp)) fun hl => ?_
  refine T.bsu (P := fun _ => True) (P' := fun r => True) (T.diag (f := fun a n => F74v4_l5 a l n 0) ?_) (fun _ _ => T.ret (fun _ => by omega)) (fun _ h => T.ret (fun _ => by omega))
  refine T.loop (L := fun a n i => F74v4_l5 a l n i) (fun i => 0 ≤ i ∧ i ≤ 2) (fun i => 2 - i.toNat) ?_ 0 (by omega)
  intro i ⟨i0, i1⟩ rec
  simp only [F74v4_l5]
  repeat' first | exact rec _ (by first | omega | (simp only at *; omega) | (simp only [List.length_append, List.length_cons, List.length_nil] at *; omega)) (by first | omega | (simp only at *; omega) | (simp only [List.length_append, List.length_cons, List.length_nil] at *; omega)) | with_reducible refine T.bind (F75_t _) (fun _ _ => ?_) | with_reducible refine T.bind (F77_t _) (fun _ _ => ?_) | with_reducible refine T.bind (F81_t _) (fun _ _ => ?_) | with_reducible refine T.bind (F106_t _) (fun _ _ => ?_) | with_reducible refine T.bind (F106v1_t _) (fun _ _ => ?_) | with_reducible refine T.bind (F83_t _ _ (by assumption)) (fun _ _ => ?_) | with_reducible refine T.bt (by rfl) ?_ | with_reducible refine T.bf (by rfl) ?_ | with_reducible refine T.bdn (fun _ => ?_) (fun _ => ?_) | with_reducible refine T.bnot (fun _ => ?_) (fun _ => ?_) | with_reducible refine T.dec (fun _ => ?_) (fun _ => ?_) | with_reducible refine T.beq (fun _ => ?_) (fun _ => ?_) | with_reducible refine T.bne (fun _ => ?_) (fun _ => ?_) | with_reducible refine T.bif (fun _ => ?_) (fun _ => ?_) | with_reducible refine T.ck (by first | omega | (simp only at *; omega) | (simp only [List.length_append, List.length_cons, List.length_nil] at *; omega)) ?_ | with_reducible refine T.req (by first | omega | (simp only at *; omega) | (simp only [List.length_append, List.length_cons, List.length_nil] at *; omega)) ?_ | with_reducible refine T.idx' (by first | omega | (simp only at *; omega) | (simp only [List.length_append, List.length_cons, List.length_nil] at *; omega)) (fun _ _ => ?_) | (with_reducible refine T.ret ?_; exact .inr ⟨_, rfl, by first | trivial | omega⟩) | (with_reducible refine T.ret ?_; exact .inl ⟨_, rfl, by first | trivial | omega⟩) | (exfalso; omega)
theorem F74v5_t (l : List Tree) (a5 : List Int) (ha5 : a5.length ≤ 100000) (a8 : List Int) (ha8 : a8.length ≤ 100000) : T (fun a _ => F74v5 a l a5 a8) (fun r => r = true → l.length = 3) := by
  simp only [F74v5]
  refine T.bne (fun _ => T.ret (by simp)) fun hl => ?_
  refine T.bsu (P := fun _ => True) (P' := fun r => True) (T.diag (f := fun a n => F74v5_l11 a l a5 a8 n 0) ?_) (fun _ _ => T.ret (fun _ => by omega)) (fun _ h => T.ret (fun _ => by omega))
  refine T.loop (L := fun a n i => F74v5_l11 a l a5 a8 n i) (fun i => 0 ≤ i ∧ i ≤ 3) (fun i => 3 - i.toNat) ?_ 0 (by omega)
  intro i ⟨i0, i1⟩ rec
  simp only [F74v5_l11]
  repeat' first | exact rec _ (by first | omega | (simp only at *; omega) | (simp only [List.length_append, List.length_cons, List.length_nil] at *; omega)) (by first | omega | (simp only at *; omega) | (simp only [List.length_append, List.length_cons, List.length_nil] at *; omega)) | with_reducible refine T.bind (F75_t _) (fun _ _ => ?_) | with_reducible refine T.bind (F77_t _) (fun _ _ => ?_) | with_reducible refine T.bind (F81_t _) (fun _ _ => ?_) | with_reducible refine T.bind (F106_t _) (fun _ _ => ?_) | with_reducible refine T.bind (F106v1_t _) (fun _ _ => ?_) | with_reducible refine T.bind (F83_t _ _ (by assumption)) (fun _ _ => ?_) | with_reducible refine T.bt (by rfl) ?_ | with_reducible refine T.bf (by rfl) ?_ | with_reducible refine T.bdn (fun _ => ?_) (fun _ => ?_) | with_reducible refine T.bnot (fun _ => ?_) (fun _ => ?_) | with_reducible refine T.dec (fun _ => ?_) (fun _ => ?_) | with_reducible refine T.beq (fun _ => ?_) (fun _ => ?_) | with_reducible refine T.bne (fun _ => ?_) (fun _ => ?_) | with_reducible refine T.bif (fun _ => ?_) (fun _ => ?_) | with_reducible refine T.ck (by first | omega | (simp only at *; omega) | (simp only [List.length_append, List.length_cons, List.length_nil] at *; omega)) ?_ | with_reducible refine T.req (by first | omega | (simp only at *; omega) | (simp only [List.length_append, List.length_cons, List.length_nil] at *; omega)) ?_ | with_reducible refine T.idx' (by first | omega | (simp only at *; omega) | (simp only [List.length_append, List.length_cons, List.length_nil] at *; omega)) (fun _ _ => ?_) | (with_reducible refine T.ret ?_; exact .inr ⟨_, rfl, by first | trivial | omega⟩) | (with_reducible refine T.ret ?_; exact .inl ⟨_, rfl, by first | trivial | omega⟩) | (exfalso; omega)
theorem F74v6_t (l : List Tree) (a7 : List Int) (ha7 : a7.length ≤ 100000) : T (fun a _ => F74v6 a l a7) (fun r => r = true → l.length = 2) := by
  simp only [F74v6]
  refine T.bne (fun _ => T.ret (by simp)) fun hl => ?_
  refine T.bsu (P := fun _ => True) (P' := fun r => True) (T.diag (f := fun a n => F74v6_l10 a l a7 n 0) ?_) (fun _ _ => T.ret (fun _ => by omega)) (fun _ h => T.ret (fun _ => by omega))
  refine T.loop (L := fun a n i => F74v6_l10 a l a7 n i) (fun i => 0 ≤ i ∧ i ≤ 2) (fun i => 2 - i.toNat) ?_ 0 (by omega)
  intro i ⟨i0, i1⟩ rec
  simp only [F74v6_l10]
  repeat' first | exact rec _ (by first | omega | (simp only at *; omega) | (simp only [List.length_append, List.length_cons, List.length_nil] at *; omega)) (by first | omega | (simp only at *; omega) | (simp only [List.length_append, List.length_cons, List.length_nil] at *; omega)) | with_reducible refine T.bind (F75_t _) (fun _ _ => ?_) | with_reducible refine T.bind (F77_t _) (fun _ _ => ?_) | with_reducible refine T.bind (F81_t _) (fun _ _ => ?_) | with_reducible refine T.bind (F106_t _) (fun _ _ => ?_) | with_reducible refine T.bind (F106v1_t _) (fun _ _ => ?_) | with_reducible refine T.bind (F83_t _ _ (by assumption)) (fun _ _ => ?_) | with_reducible refine T.bt (by rfl) ?_ | with_reducible refine T.bf (by rfl) ?_ | with_reducible refine T.bdn (fun _ => ?_) (fun _ => ?_) | with_reducible refine T.bnot (fun _ => ?_) (fun _ => ?_) | with_reducible refine T.dec (fun _ => ?_) (fun _ => ?_) | with_reducible refine T.beq (fun _ => ?_) (fun _ => ?_) | with_reducible refine T.bne (fun _ => ?_) (fun _ => ?_) | with_reducible refine T.bif (fun _ => ?_) (fun _ => ?_) | with_reducible refine T.ck (by first | omega | (simp only at *; omega) | (simp only [List.length_append, List.length_cons, List.length_nil] at *; omega)) ?_ | with_reducible refine T.req (by first | omega | (simp only at *; omega) | (simp only [List.length_append, List.length_cons, List.length_nil] at *; omega)) ?_ | with_reducible refine T.idx' (by first | omega | (simp only at *; omega) | (simp only [List.length_append, List.length_cons, List.length_nil] at *; omega)) (fun _ _ => ?_) | (with_reducible refine T.ret ?_; exact .inr ⟨_, rfl, by first | trivial | omega⟩) | (with_reducible refine T.ret ?_; exact .inl ⟨_, rfl, by first | trivial | omega⟩) | (exfalso; omega)
theorem F74v7_t (l : List Tree) : T (fun a _ => F74v7 a l) (fun r => r = true → l.length = 2) := by
  simp only [F74v7]
  refine T.bne (fun _ => T.ret (by simp)) fun hl => ?_
  refine T.bsu (P := fun _ => True) (P' := fun r => True) (T.diag (f := fun a n => F74v7_l5 a l n 0) ?_) (fun _ _ => T.ret (fun _ => by omega)) (fun _ h => T.ret (fun _ => by omega))
  refine T.loop (L := fun a n i => F74v7_l5 a l n i) (fun i => 0 ≤ i ∧ i ≤ 2) (fun i => 2 - i.toNat) ?_ 0 (by omega)
  intro i ⟨i0, i1⟩ rec
  simp only [F74v7_l5]
  repeat' first | exact rec _ (by first | omega | (simp only at *; omega) | (simp only [List.length_append, List.length_cons, List.length_nil] at *; omega)) (by first | omega | (simp only at *; omega) | (simp only [List.length_append, List.length_cons, List.length_nil] at *; omega)) | with_reducible refine T.bind (F75_t _) (fun _ _ => ?_) | with_reducible refine T.bind (F77_t _) (fun _ _ => ?_) | with_reducible refine T.bind (F81_t _) (fun _ _ => ?_) | with_reducible refine T.bind (F106_t _) (fun _ _ => ?_) | with_reducible refine T.bind (F106v1_t _) (fun _ _ => ?_) | with_reducible refine T.bind (F83_t _ _ (by assumption)) (fun _ _ => ?_) | with_reducible refine T.bt (by rfl) ?_ | with_reducible refine T.bf (by rfl) ?_ | with_reducible refine T.bdn (fun _ => ?_) (fun _ => ?_) | with_reducible refine T.bnot (fun _ => ?_) (fun _ => ?_) | with_reducible refine T.dec (fun _ => ?_) (fun _ => ?_) | with_reducible refine T.beq (fun _ => ?_) (fun _ => ?_) | with_reducible refine T.bne (fun _ => ?_) (fun _ => ?_) | with_reducible refine T.bif (fun _ => ?_) (fun _ => ?_) | with_reducible refine T.ck (by first | omega | (simp only at *; omega) | (simp only [List.length_append, List.length_cons, List.length_nil] at *; omega)) ?_ | with_reducible refine T.req (by first | omega | (simp only at *; omega) | (simp only [List.length_append, List.length_cons, List.length_nil] at *; omega)) ?_ | with_reducible refine T.idx' (by first | omega | (simp only at *; omega) | (simp only [List.length_append, List.length_cons, List.length_nil] at *; omega)) (fun _ _ => ?_) | (with_reducible refine T.ret ?_; exact .inr ⟨_, rfl, by first | trivial | omega⟩) | (with_reducible refine T.ret ?_; exact .inl ⟨_, rfl, by first | trivial | omega⟩) | (exfalso; omega)
theorem F74v8_t (l : List Tree) : T (fun a _ => F74v8 a l) (fun r => r = true → l.length = 1) := by
  simp only [F74v8]
  refine T.bne (fun _ => T.ret (by simp)) fun hl => ?_
  refine T.bsu (P := fun _ => True) (P' := fun r => True) (T.diag (f := fun a n => F74v8_l5 a l n 0) ?_) (fun _ _ => T.ret (fun _ => by omega)) (fun _ h => T.ret (fun _ => by omega))
  refine T.loop (L := fun a n i => F74v8_l5 a l n i) (fun i => 0 ≤ i ∧ i ≤ 1) (fun i => 1 - i.toNat) ?_ 0 (by omega)
  intro i ⟨i0, i1⟩ rec
  simp only [F74v8_l5]
  repeat' first | exact rec _ (by first | omega | (simp only at *; omega) | (simp only [List.length_append, List.length_cons, List.length_nil] at *; omega)) (by first | omega | (simp only at *; omega) | (simp only [List.length_append, List.length_cons, List.length_nil] at *; omega)) | with_reducible refine T.bind (F75_t _) (fun _ _ => ?_) | with_reducible refine T.bind (F77_t _) (fun _ _ => ?_) | with_reducible refine T.bind (F81_t _) (fun _ _ => ?_) | with_reducible refine T.bind (F106_t _) (fun _ _ => ?_) | with_reducible refine T.bind (F106v1_t _) (fun _ _ => ?_) | with_reducible refine T.bind (F83_t _ _ (by assumption)) (fun _ _ => ?_) | with_reducible refine T.bt (by rfl) ?_ | with_reducible refine T.bf (by rfl) ?_ | with_reducible refine T.bdn (fun _ => ?_) (fun _ => ?_) | with_reducible refine T.bnot (fun _ => ?_) (fun _ => ?_) | with_reducible refine T.dec (fun _ => ?_) (fun _ => ?_) | with_reducible refine T.beq (fun _ => ?_) (fun _ => ?_) | with_reducible refine T.bne (fun _ => ?_) (fun _ => ?_) | with_reducible refine T.bif (fun _ => ?_) (fun _ => ?_) | with_reducible refine T.ck (by first | omega | (simp only at *; omega) | (simp only [List.length_append, List.length_cons, List.length_nil] at *; omega)) ?_ | with_reducible refine T.req (by first | omega | (simp only at *; omega) | (simp only [List.length_append, List.length_cons, List.length_nil] at *; omega)) ?_ | with_reducible refine T.idx' (by first | omega | (simp only at *; omega) | (simp only [List.length_append, List.length_cons, List.length_nil] at *; omega)) (fun _ _ => ?_) | (with_reducible refine T.ret ?_; exact .inr ⟨_, rfl, by first | trivial | omega⟩) | (with_reducible refine T.ret ?_; exact .inl ⟨_, rfl, by first | trivial | omega⟩) | (exfalso; omega)
theorem F74v9_t (l : List Tree) (a5 : List Int) (ha5 : a5.length ≤ 100000) : T (fun a _ => F74v9 a l a5) (fun r => r = true → l.length = 1) := by
  simp only [F74v9]
  refine T.bne (fun _ => T.ret (by simp)) fun hl => ?_
  refine T.bsu (P := fun _ => True) (P' := fun r => True) (T.diag (f := fun a n => F74v9_l8 a l a5 n 0) ?_) (fun _ _ => T.ret (fun _ => by omega)) (fun _ h => T.ret (fun _ => by omega))
  refine T.loop (L := fun a n i => F74v9_l8 a l a5 n i) (fun i => 0 ≤ i ∧ i ≤ 1) (fun i => 1 - i.toNat) ?_ 0 (by omega)
  intro i ⟨i0, i1⟩ rec
  simp only [F74v9_l8]
  repeat' first | exact rec _ (by first | omega | (simp only at *; omega) | (simp only [List.length_append, List.length_cons, List.length_nil] at *; omega)) (by first | omega | (simp only at *; omega) | (simp only [List.length_append, List.length_cons, List.length_nil] at *; omega)) | with_reducible refine T.bind (F75_t _) (fun _ _ => ?_) | with_reducible refine T.bind (F77_t _) (fun _ _ => ?_) | with_reducible refine T.bind (F81_t _) (fun _ _ => ?_) | with_reducible refine T.bind (F106_t _) (fun _ _ => ?_) | with_reducible refine T.bind (F106v1_t _) (fun _ _ => ?_) | with_reducible refine T.bind (F83_t _ _ (by assumption)) (fun _ _ => ?_) | with_reducible refine T.bt (by rfl) ?_ | with_reducible refine T.bf (by rfl) ?_ | with_reducible refine T.bdn (fun _ => ?_) (fun _ => ?_) | with_reducible refine T.bnot (fun _ => ?_) (fun _ => ?_) | with_reducible refine T.dec (fun _ => ?_) (fun _ => ?_) | with_reducible refine T.beq (fun _ => ?_) (fun _ => ?_) | with_reducible refine T.bne (fun _ => ?_) (fun _ => ?_) | with_reducible refine T.bif (fun _ => ?_) (fun _ => ?_) | with_reducible refine T.ck (by first | omega | (simp only at *; omega) | (simp only [List.length_append, List.length_cons, List.length_nil] at *; omega)) ?_ | with_reducible refine T.req (by first | omega | (simp only at *; omega) | (simp only [List.length_append, List.length_cons, List.length_nil] at *; omega)) ?_ | with_reducible refine T.idx' (by first | omega | (simp only at *; omega) | (simp only [List.length_append, List.length_cons, List.length_nil] at *; omega)) (fun _ _ => ?_) | (with_reducible refine T.ret ?_; exact .inr ⟨_, rfl, by first | trivial | omega⟩) | (with_reducible refine T.ret ?_; exact .inl ⟨_, rfl, by first | trivial | omega⟩) | (exfalso; omega)
theorem F74v10_t (l : List Tree) : T (fun a _ => F74v10 a l) (fun r => r = true → l.length = 2) := by
  simp only [F74v10]
  refine T.bne (fun _ => T.ret (by simp)) fun hl => ?_
  refine T.bsu (P := fun _ => True) (P' := fun r => True) (T.diag (f := fun a n => F74v10_l5 a l n 0) ?_) (fun _ _ => T.ret (fun _ => by omega)) (fun _ h => T.ret (fun _ => by omega))
  refine T.loop (L := fun a n i => F74v10_l5 a l n i) (fun i => 0 ≤ i ∧ i ≤ 2) (fun i => 2 - i.toNat) ?_ 0 (by omega)
  intro i ⟨i0, i1⟩ rec
  simp only [F74v10_l5]
  repeat' first | exact rec _ (by first | omega | (simp only at *; omega) | (simp only [List.length_append, List.length_cons, List.length_nil] at *; omega)) (by first | omega | (simp only at *; omega) | (simp only [List.length_append, List.length_cons, List.length_nil] at *; omega)) | with_reducible refine T.bind (F75_t _) (fun _ _ => ?_) | with_reducible refine T.bind (F77_t _) (fun _ _ => ?_) | with_reducible refine T.bind (F81_t _) (fun _ _ => ?_) | with_reducible refine T.bind (F106_t _) (fun _ _ => ?_) | with_reducible refine T.bind (F106v1_t _) (fun _ _ => ?_) | with_reducible refine T.bind (F83_t _ _ (by assumption)) (fun _ _ => ?_) | with_reducible refine T.bt (by rfl) ?_ | with_reducible refine T.bf (by rfl) ?_ | with_reducible refine T.bdn (fun _ => ?_) (fun _ => ?_) | with_reducible refine T.bnot (fun _ => ?_) (fun _ => ?_) | with_reducible refine T.dec (fun _ => ?_) (fun _ => ?_) | with_reducible refine T.beq (fun _ => ?_) (fun _ => ?_) | with_reducible refine T.bne (fun _ => ?_) (fun _ => ?_) | with_reducible refine T.bif (fun _ => ?_) (fun _ => ?_) | with_reducible refine T.ck (by first | omega | (simp only at *; omega) | (simp only [List.length_append, List.length_cons, List.length_nil] at *; omega)) ?_ | with_reducible refine T.req (by first | omega | (simp only at *; omega) | (simp only [List.length_append, List.length_cons, List.length_nil] at *; omega)) ?_ | with_reducible refine T.idx' (by first | omega | (simp only at *; omega) | (simp only [List.length_append, List.length_cons, List.length_nil] at *; omega)) (fun _ _ => ?_) | (with_reducible refine T.ret ?_; exact .inr ⟨_, rfl, by first | trivial | omega⟩) | (with_reducible refine T.ret ?_; exact .inl ⟨_, rfl, by first | trivial | omega⟩) | (exfalso; omega)
end Go.Proofs.YtabojfgmbfnoiaaGreatDoor
end
section
/- Whether a tree is a program's: it is answered, and what it tells of functions' Kids. -/
set_option linter.unusedVariables false
set_option linter.unusedSimpArgs false
namespace Go.Proofs.YtabojfgmbfnoiaaGreatDoor
/-- What of a program's nodes is used. -/
def Okn (t : Tree) : Prop := (t.kind = 7 → t.kids.length = 4) ∧ (t.kind = 16 → t.kids.length = 1)
theorem F58_t (t : Tree) (h : t.kids.length ≤ 100000) : T (fun a _ => F58 a t) (fun r => r = true → Okn t) := by
  simp only [F58]
  refine T.beq (fun _ => T.bind (F73_t _ h) fun _ _ => T.ret fun _ => ⟨by omega, by omega⟩) fun _ => ?_
  refine T.bind (P := fun i => i = true → t.kind ≠ 7 ∧ t.kind ≠ 16) ?_ fun i hi => T.bif (fun q => T.bind (F74_t _) fun _ _ => T.ret fun _ => ⟨fun e => absurd e (hi q).1, fun e => absurd e (hi q).2⟩) fun _ => ?_
  · repeat' first | with_reducible refine T.bt (by rfl) ?_ | with_reducible refine T.bf (by rfl) ?_ | with_reducible refine T.bdn (fun _ => ?_) (fun _ => ?_) | with_reducible refine T.bnot (fun _ => ?_) (fun _ => ?_) | with_reducible refine T.dec (fun _ => ?_) (fun _ => ?_) | with_reducible refine T.beq (fun _ => ?_) (fun _ => ?_) | with_reducible refine T.bne (fun _ => ?_) (fun _ => ?_) | with_reducible refine T.bif (fun _ => ?_) (fun _ => ?_) | (with_reducible refine T.ret ?_; intro q; simp only [beq_iff_eq] at q; omega)
  refine T.beq (fun _ => ?_) fun _ => ?_
  · refine T.bind (P := fun _ => True) ?_ fun _ _ => T.ret fun _ => ⟨by omega, by omega⟩
    refine T.bind F76_t fun _ _ => T.bind F76v1_t fun _ _ => T.bind (F74v1_t _) fun r hr => T.bif (fun q => ?_) (fun _ => T.ret trivial)
    have hl := hr q
    repeat' first | with_reducible refine T.bind (F78_t _) (fun _ _ => ?_) | with_reducible refine T.ck (by first | omega | (simp only at *; omega) | (simp only [List.length_append, List.length_cons, List.length_nil] at *; omega)) ?_ | with_reducible refine T.req (by first | omega | (simp only at *; omega) | (simp only [List.length_append, List.length_cons, List.length_nil] at *; omega)) ?_ | with_reducible refine T.idx' (by first | omega | (simp only at *; omega) | (simp only [List.length_append, List.length_cons, List.length_nil] at *; omega)) (fun _ _ => ?_) | with_reducible refine T.bt (by rfl) ?_ | with_reducible refine T.bf (by rfl) ?_ | with_reducible refine T.bdn (fun _ => ?_) (fun _ => ?_) | with_reducible refine T.bnot (fun _ => ?_) (fun _ => ?_) | with_reducible refine T.dec (fun _ => ?_) (fun _ => ?_) | with_reducible refine T.beq (fun _ => ?_) (fun _ => ?_) | with_reducible refine T.bne (fun _ => ?_) (fun _ => ?_) | with_reducible refine T.bif (fun _ => ?_) (fun _ => ?_) | (with_reducible refine T.ret ?_; first | trivial | omega | (simp; done) | (simp; omega))
  refine T.bind (P := fun i => (i = true → t.kind ≠ 7) ∧ (i = false → t.kind ≠ 16)) ?_ fun i hi => T.bif (fun q => T.bind (F74v2_t _) fun r hr => T.ret fun e => ⟨fun e => absurd e (hi.1 q), fun _ => hr e⟩) fun qi => ?_
  · repeat' first | with_reducible refine T.bt (by rfl) ?_ | with_reducible refine T.bf (by rfl) ?_ | with_reducible refine T.bdn (fun _ => ?_) (fun _ => ?_) | with_reducible refine T.bnot (fun _ => ?_) (fun _ => ?_) | with_reducible refine T.dec (fun _ => ?_) (fun _ => ?_) | with_reducible refine T.beq (fun _ => ?_) (fun _ => ?_) | with_reducible refine T.bne (fun _ => ?_) (fun _ => ?_) | with_reducible refine T.bif (fun _ => ?_) (fun _ => ?_) | (with_reducible refine T.ret ?_; constructor <;> intro q <;> simp only [beq_iff_eq, beq_eq_false_iff_ne] at q <;> omega)
  have h16 := hi.2 qi
  refine T.beq (fun _ => ?_) fun h7 => ?_
  · exact T.bind (F60_t _) fun _ _ => T.bind (F60_t _) fun _ _ => T.bind F76_t fun _ _ => T.bind (F60_t _) fun _ _ => T.bind (F74v3_t _ _ (by decide) _ (by decide) _ (by decide)) fun r hr => T.ret fun e => ⟨fun _ => hr e, fun q => absurd q h16⟩
  refine T.mono (P := fun _ => True) ?_ (fun r _ _ => ⟨fun e => absurd e h7, fun e => absurd e h16⟩)
  refine T.beq (fun _ => T.bind (F74v4_t _) fun _ _ => T.ret trivial) fun _ => ?_
  refine T.beq (fun _ => T.bind (F60_t _) fun _ _ => T.bind (F79_t _ h _ (by decide)) fun _ _ => T.ret trivial) fun _ => ?_
  refine T.beq (fun _ => T.bind (F60_t _) fun _ _ => T.bind (F79_t _ h _ (by decide)) fun _ _ => T.ret trivial) fun _ => ?_
  refine T.beq (fun _ => T.bind (F79v1_t _ h) fun _ _ => T.ret trivial) fun _ => ?_
  refine T.beq (fun _ => T.bind (F60_t _) fun _ _ => T.bind (F60_t _) fun _ _ => T.bind (F74v5_t _ _ (by decide) _ (by decide)) fun _ _ => T.ret trivial) fun _ => ?_
  refine T.beq (fun _ => T.bind F76v1_t fun _ _ => T.bind (F60_t _) fun _ _ => T.bind (F74v6_t _ _ (by decide)) fun _ _ => T.ret trivial) fun _ => ?_
  refine T.beq (fun _ => T.bind (F79v2_t _ h) fun _ _ => T.ret trivial) fun _ => ?_
  refine T.beq (fun _ => ?_) fun _ => ?_
  · refine T.bind (P := fun _ => True) ?_ fun _ _ => T.ret trivial
    refine T.bind (F74v7_t _) fun r hr => T.bif (fun q => ?_) (fun _ => T.ret trivial)
    have hl := hr q
    repeat' first | with_reducible refine T.bt (by rfl) ?_ | with_reducible refine T.bf (by rfl) ?_ | with_reducible refine T.bdn (fun _ => ?_) (fun _ => ?_) | with_reducible refine T.bnot (fun _ => ?_) (fun _ => ?_) | with_reducible refine T.dec (fun _ => ?_) (fun _ => ?_) | with_reducible refine T.beq (fun _ => ?_) (fun _ => ?_) | with_reducible refine T.bne (fun _ => ?_) (fun _ => ?_) | with_reducible refine T.bif (fun _ => ?_) (fun _ => ?_) | with_reducible refine T.ck (by first | omega | (simp only at *; omega) | (simp only [List.length_append, List.length_cons, List.length_nil] at *; omega)) ?_ | with_reducible refine T.req (by first | omega | (simp only at *; omega) | (simp only [List.length_append, List.length_cons, List.length_nil] at *; omega)) ?_ | with_reducible refine T.idx' (by first | omega | (simp only at *; omega) | (simp only [List.length_append, List.length_cons, List.length_nil] at *; omega)) (fun _ _ => ?_) | (with_reducible refine T.ret ?_; first | trivial | omega | (simp; done) | (simp; omega))
  refine T.beq (fun _ => T.bind (F74v8_t _) fun _ _ => T.ret trivial) fun _ => ?_
  refine T.beq (fun _ => T.bind (F60_t _) fun _ _ => T.bind (F74v9_t _ _ (by decide)) fun _ _ => T.ret trivial) fun _ => ?_
  refine T.bind (P := fun _ => True) ?_ fun _ _ => T.bif (fun _ => T.bind (F74v10_t _) fun _ _ => T.ret trivial) fun _ => ?_
  · repeat' first | with_reducible refine T.bt (by rfl) ?_ | with_reducible refine T.bf (by rfl) ?_ | with_reducible refine T.bdn (fun _ => ?_) (fun _ => ?_) | with_reducible refine T.bnot (fun _ => ?_) (fun _ => ?_) | with_reducible refine T.dec (fun _ => ?_) (fun _ => ?_) | with_reducible refine T.beq (fun _ => ?_) (fun _ => ?_) | with_reducible refine T.bne (fun _ => ?_) (fun _ => ?_) | with_reducible refine T.bif (fun _ => ?_) (fun _ => ?_) | (with_reducible refine T.ret ?_; first | trivial | omega | (simp; done) | (simp; omega))
  refine T.beq (fun _ => ?_) fun _ => T.ret trivial
  refine T.bind (P := fun _ => True) ?_ fun _ _ => T.ret trivial
  exact T.dec (fun _ => T.bind (F79v2_t _ h) fun _ _ => T.ret trivial) fun _ => T.ret trivial
theorem F85_t (t : Tree) (i : Int) : T (fun a _ => F85 a t i) (fun r => r = true → 0 ≤ i ∧ i < t.kids.length) := by
  simp only [F85]
  refine T.bind (P := fun c => c = false → 0 ≤ i ∧ i < t.kids.length) ?_ fun c hc => T.bif (fun _ => T.ret (by simp)) fun q => ?_
  · exact T.dec (fun _ => T.ret (by simp)) fun _ => T.ret (by simp; omega)
  have hb := hc q
  refine T.mono (P := fun _ => True) ?_ (fun _ _ _ => hb)
  refine T.idx' hb fun z hz => ?_
  repeat' first | with_reducible refine T.bind (F72_t _) (fun _ _ => ?_) | with_reducible refine T.bt (by rfl) ?_ | with_reducible refine T.bf (by rfl) ?_ | with_reducible refine T.bdn (fun _ => ?_) (fun _ => ?_) | with_reducible refine T.bnot (fun _ => ?_) (fun _ => ?_) | with_reducible refine T.dec (fun _ => ?_) (fun _ => ?_) | with_reducible refine T.beq (fun _ => ?_) (fun _ => ?_) | with_reducible refine T.bne (fun _ => ?_) (fun _ => ?_) | with_reducible refine T.bif (fun _ => ?_) (fun _ => ?_) | (with_reducible refine T.ret ?_; first | trivial | omega | (simp; done) | (simp; omega)) | with_reducible refine T.bind (P := fun _ => True) ?_ (fun _ _ => ?_)
theorem F61_t (t : Tree) (i : Int) (hk : t.kind = 18 → i = 2 → i < t.kids.length) : T (fun a _ => F61 a t i) (fun r => 0 ≤ r ∧ r ≤ 2) := by
  simp only [F61]
  refine T.bind (P := fun d => 0 ≤ d ∧ d ≤ 1) ?_ fun d hd => T.bind (P := fun d => 0 ≤ d ∧ d ≤ 2) ?_ fun _ h => T.ret h
  · exact T.bind (F85_t t i) fun _ _ => T.bif (fun _ => T.ret (by omega)) fun _ => T.ret (by omega)
  refine T.bind (P := fun _ => True) ?_ fun _ _ => T.bif (fun _ => T.ck (by omega) (T.ret (by omega))) fun _ => ?_
  · repeat' first | with_reducible refine T.bt (by rfl) ?_ | with_reducible refine T.bf (by rfl) ?_ | with_reducible refine T.bdn (fun _ => ?_) (fun _ => ?_) | with_reducible refine T.bnot (fun _ => ?_) (fun _ => ?_) | with_reducible refine T.dec (fun _ => ?_) (fun _ => ?_) | with_reducible refine T.beq (fun _ => ?_) (fun _ => ?_) | with_reducible refine T.bne (fun _ => ?_) (fun _ => ?_) | with_reducible refine T.bif (fun _ => ?_) (fun _ => ?_) | (with_reducible refine T.ret ?_; first | trivial | omega | (simp; done) | (simp; omega))
  refine T.bind (P := fun _ => True) ?_ fun _ _ => T.bif (fun _ => T.dec (fun _ => T.ck (by omega) (T.ret (by omega))) fun _ => T.ret (by omega)) fun _ => ?_
  · repeat' first | with_reducible refine T.bt (by rfl) ?_ | with_reducible refine T.bf (by rfl) ?_ | with_reducible refine T.bdn (fun _ => ?_) (fun _ => ?_) | with_reducible refine T.bnot (fun _ => ?_) (fun _ => ?_) | with_reducible refine T.dec (fun _ => ?_) (fun _ => ?_) | with_reducible refine T.beq (fun _ => ?_) (fun _ => ?_) | with_reducible refine T.bne (fun _ => ?_) (fun _ => ?_) | with_reducible refine T.bif (fun _ => ?_) (fun _ => ?_) | (with_reducible refine T.ret ?_; first | trivial | omega | (simp; done) | (simp; omega))
  refine T.beq (fun h18 => ?_) fun _ => T.ret (by omega)
  refine T.bind (P := fun _ => True) ?_ fun _ _ => T.bif (fun _ => T.ck (by omega) (T.ret (by omega))) fun _ => T.ret (by omega)
  refine T.beq (fun h2 => ?_) fun _ => T.ret trivial
  have := hk h18 h2
  repeat' first | with_reducible refine T.ck (by first | omega | (simp only at *; omega) | (simp only [List.length_append, List.length_cons, List.length_nil] at *; omega)) ?_ | with_reducible refine T.req (by first | omega | (simp only at *; omega) | (simp only [List.length_append, List.length_cons, List.length_nil] at *; omega)) ?_ | with_reducible refine T.idx' (by first | omega | (simp only at *; omega) | (simp only [List.length_append, List.length_cons, List.length_nil] at *; omega)) (fun _ _ => ?_) | (with_reducible refine T.ret ?_; first | trivial | omega | (simp; done) | (simp; omega))
theorem F40_t : ∀ (t : Tree) (d : Int) (b : Bool), (∀ u ∈ t.nodes, Short u) → t.card ≤ 400 → 0 ≤ d → d ≤ 1000 → T (fun a _ => F40 a t d b) (fun r => r = true → ∀ u ∈ t.nodes, Okn u) := by
  intro t
  induction t using Tree.rec' with
  | h t ih =>
    intro d b hs hc d0 d1
    have hk := length_le_nodesL t.kids
    have hcd := card_eq t
    have hst := hs t (self_mem t)
    have htr : t.trail.size ≤ 50000 := hst.2
    apply T.fuel
    simp only [F40]
    refine T.bind (P := fun c => c = false → d ≤ 256 ∧ Okn t) ?_ fun c hcc => T.bif (fun _ => T.ret (by simp)) fun qc => ?_
    · refine T.dec (fun _ => T.ret (by simp)) fun _ => T.dec (fun _ => T.ret (by simp)) fun _ => T.dec (fun _ => T.ret (by simp)) fun _ => ?_
      refine T.bind (F57_t t hst.1) fun _ _ => T.bnot (fun _ => T.ret (by simp)) fun _ => T.bind (F58_t t (by omega)) fun r hr => T.ret fun e => ⟨by omega, hr (by simpa using e)⟩
    obtain ⟨hd, hok⟩ := hcc qc
    refine T.bind (P := fun _ => True) ?_ fun _ _ => T.bif (fun _ => T.ret (by simp)) fun _ => ?_
    · refine T.bdn (fun _ => ?_) fun _ => T.ret trivial
      repeat' first | with_reducible refine T.bind (F59_t _ _ htr) (fun _ _ => ?_) | with_reducible refine T.bt (by rfl) ?_ | with_reducible refine T.bf (by rfl) ?_ | with_reducible refine T.bdn (fun _ => ?_) (fun _ => ?_) | with_reducible refine T.bnot (fun _ => ?_) (fun _ => ?_) | with_reducible refine T.dec (fun _ => ?_) (fun _ => ?_) | with_reducible refine T.beq (fun _ => ?_) (fun _ => ?_) | with_reducible refine T.bne (fun _ => ?_) (fun _ => ?_) | with_reducible refine T.bif (fun _ => ?_) (fun _ => ?_) | (with_reducible refine T.ret ?_; first | trivial | omega | (simp; done) | (simp; omega))
    refine T.bind (F60_t _) fun _ _ => T.bind (F83_t _ _ (by decide)) fun r _ => ?_
    refine T.bsu (P := fun _ => ∀ u ∈ t.nodes, Okn u) (P' := fun r => r = false) (T.diag (f := fun a n => F40_l24 (F40 a) a t d r n 0) ?_) (fun _ h => T.ret fun _ => h) (fun x h => T.ret (by simp [h]))
    refine T.loop (L := fun a n i => F40_l24 (F40 a) a t d r n i) (fun i => 0 ≤ i ∧ i ≤ t.kids.length ∧ ∀ k ∈ t.kids.take i.toNat, ∀ u ∈ k.nodes, Okn u) (fun i => t.kids.length - i.toNat) ?_ 0 ⟨by simp, by simp, by simp⟩
    rintro i ⟨i0, i1, hi⟩ rec
    simp only [F40_l24]
    refine T.dec (fun q => T.idx' (by omega) fun z hz => T.bind (F61_t t i (by omega)) fun e he => T.ck (by omega) ?_) fun q => T.ret (.inl ⟨_, rfl, ?_⟩)
    · have hzm := mem_of_get hz
      refine T.bind (ih z hzm _ r (fun u hu => hs u (nodes_trans (kid_mem hzm) hu)) ?_ (by omega) (by omega)) fun c hcz => T.bnot (fun _ => T.ret (.inr ⟨_, rfl, rfl⟩)) fun qz => T.ck (by omega) (rec _ ⟨by omega, by omega, ?_⟩ (by omega))
      · have := mem_card hzm; omega
      · rw [take_succ' i0 hz]
        intro k hk
        rcases List.mem_append.1 hk with h | h
        · exact hi k h
        · rw [List.mem_singleton] at h; subst h; exact hcz qz
    · rw [List.take_of_length_le (by omega)] at hi
      intro u hu
      rcases mem_nodes.1 hu with rfl | ⟨k, hk, hu⟩
      · exact hok
      · exact hi k hk u hu
theorem F28_t (t : Tree) (h : Few t) : T (fun a _ => F28 a t) (fun r => r = true → ∀ u ∈ t.nodes, Okn u) := by
  simp only [F28]
  refine T.bind (P := fun r => r = true → ∀ u ∈ t.nodes, Okn u) ?_ fun _ h => T.ret h
  refine T.beq (fun _ => T.bind (F40_t t 0 false h.2 h.1 (by omega) (by omega)) fun _ h => T.ret h) fun _ => T.ret (by simp)
end Go.Proofs.YtabojfgmbfnoiaaGreatDoor
end
section
/- A node's text is its own. -/
set_option linter.unusedVariables false
set_option linter.unusedSimpArgs false
namespace Go.Proofs.YtabojfgmbfnoiaaGreatDoor
def valD : List UInt8 → Nat := List.foldl (fun acc c => acc * 10 + (c.toNat - 48)) 0
theorem digit_nat {d : Nat} (h : d < 10) : (UInt8.ofNat (48 + d)).toNat = 48 + d := by
  rw [UInt8.toNat_ofNat']; omega
theorem digs_val : ∀ (f n : Nat), n < 10 ^ (f + 1) → valD (digs f n) = n
  | 0, n, h => by
    have h : n < 10 := by simpa using h
    simp only [digs, valD, List.foldl_cons, List.foldl_nil]
    rw [digit_nat h]; omega
  | f + 1, n, h => by
    rw [digs]
    split
    · rename_i h
      simp only [valD, List.foldl_cons, List.foldl_nil]
      rw [digit_nat h]; omega
    · have ih := digs_val f (n / 10) (by rw [Nat.pow_succ] at h; omega)
      unfold valD at ih ⊢
      rw [List.foldl_append, ih]
      simp only [List.foldl_cons, List.foldl_nil]
      rw [digit_nat (by omega)]; omega
theorem digs_mem : ∀ (f n : Nat) (c : UInt8), n < 10 ^ (f + 1) → c ∈ digs f n → 48 ≤ c.toNat ∧ c.toNat ≤ 57
  | 0, n, c, h, hc => by
    have h : n < 10 := by simpa using h
    simp only [digs, List.mem_singleton] at hc
    subst hc
    rw [digit_nat h]; omega
  | f + 1, n, c, h, hc => by
    rw [digs] at hc
    split at hc
    · rename_i h
      simp only [List.mem_singleton] at hc
      subst hc
      rw [digit_nat h]; omega
    · rcases List.mem_append.1 hc with hc | hc
      · exact digs_mem f (n / 10) c (by rw [Nat.pow_succ] at h; omega) hc
      · simp only [List.mem_singleton] at hc
        subst hc
        rw [digit_nat (by omega)]; omega
theorem digs_len : ∀ (f n : Nat), 1 ≤ (digs f n).length ∧ (digs f n).length ≤ f + 1
  | 0, n => by simp [digs]
  | f + 1, n => by
    rw [digs]
    split
    · simp
    · have := digs_len f (n / 10)
      rw [List.length_append, List.length_cons, List.length_nil]; omega
theorem itoaL_len (n : Int) : 1 ≤ (itoaL n).length ∧ (itoaL n).length ≤ 21 := by
  unfold itoaL
  have h1 := digs_len 19 n.natAbs
  have h2 := digs_len 19 n.toNat
  split
  · rw [List.length_cons]; omega
  · omega
theorem itoaL_mem {n : Int} (hn : inI n) {c : UInt8} (h : c ∈ itoaL n) : c.toNat = 45 ∨ 48 ≤ c.toNat ∧ c.toNat ≤ 57 := by
  unfold inI at hn
  unfold itoaL at h
  split at h
  · rcases List.mem_cons.1 h with rfl | h
    · left; rfl
    · right; exact digs_mem 19 _ _ (by omega) h
  · right; exact digs_mem 19 _ _ (by omega) h
theorem itoaL_inj {n m : Int} (hn : inI n) (hm : inI m) (h : itoaL n = itoaL m) : n = m := by
  unfold inI at hn hm
  unfold itoaL at h
  have cross : ∀ (u v : Nat), v < 10 ^ 20 → (45 : UInt8) :: digs 19 u ≠ digs 19 v := fun u v hv e => by
    have : (45 : UInt8) ∈ digs 19 v := by rw [← e]; exact List.mem_cons_self ..
    have := digs_mem 19 v 45 hv this
    revert this; decide
  split at h <;> split at h
  · have h := List.cons.inj h
    have := congrArg valD h.2
    rw [digs_val 19 _ (by omega), digs_val 19 _ (by omega)] at this; omega
  · exact absurd h (cross _ _ (by omega))
  · exact absurd h.symm (cross _ _ (by omega))
  · have := congrArg valD h
    rw [digs_val 19 _ (by omega), digs_val 19 _ (by omega)] at this; omega
theorem sep_inj (c : UInt8) : ∀ (xs ys R R' : List UInt8), (∀ x ∈ xs, x ≠ c) → (∀ y ∈ ys, y ≠ c) → (R = [] ∨ ∃ q, R = c :: q) → (R' = [] ∨ ∃ q, R' = c :: q) → xs ++ R = ys ++ R' → xs = ys ∧ R = R'
  | [], [], R, R', _, _, _, _, h => ⟨rfl, h⟩
  | [], y :: ys, R, R', _, hy, hR, _, h => by
    rcases hR with rfl | ⟨q, rfl⟩
    · cases h
    · have := (List.cons.inj h).1
      exact absurd this.symm (hy y (List.mem_cons_self ..))
  | x :: xs, [], R, R', hx, _, _, hR, h => by
    rcases hR with rfl | ⟨q, rfl⟩
    · cases h
    · have := (List.cons.inj h).1
      exact absurd this (hx x (List.mem_cons_self ..))
  | x :: xs, y :: ys, R, R', hx, hy, hR, hR', h => by
    obtain ⟨h1, h2⟩ := List.cons.inj h
    obtain ⟨h3, h4⟩ := sep_inj c xs ys R R' (fun z hz => hx z (List.mem_cons_of_mem _ hz)) (fun z hz => hy z (List.mem_cons_of_mem _ hz)) hR hR' h2
    exact ⟨by rw [h1, h3], h4⟩
/-- A text with its length ahead. -/
def txt (s : ByteArray) : List UInt8 := itoaL s.size ++ 58 :: s.data.toList
def codeH : List ByteArray → List UInt8
  | [] => []
  | s :: l => txt s ++ codeH l
def codeK : List Int → List UInt8
  | [] => []
  | m :: l => 44 :: itoaL m ++ codeK l
def code (t : Tree) (ms : List Int) : List UInt8 := codeH [itoaB t.kind, t.text, t.trail] ++ codeK ms
theorem txt_inj {s s' : ByteArray} {R R' : List UInt8} (h1 : s.size ≤ 100000) (h2 : s'.size ≤ 100000) (h : txt s ++ R = txt s' ++ R') : s = s' ∧ R = R' := by
  unfold txt at h
  have i1 : inI (s.size : Int) := ⟨by omega, by omega⟩
  have i2 : inI (s'.size : Int) := ⟨by omega, by omega⟩
  rw [List.append_assoc, List.append_assoc] at h
  have n58 : ∀ {n : Int}, inI n → ∀ x ∈ itoaL n, x ≠ 58 := fun hn x hx e => by
    have := itoaL_mem hn hx
    subst e
    revert this; decide
  obtain ⟨e1, e2⟩ := sep_inj 58 _ _ _ _ (n58 i1) (n58 i2) (.inr ⟨_, rfl⟩) (.inr ⟨_, rfl⟩) h
  have e3 := itoaL_inj i1 i2 e1
  have e4 := (List.cons.inj e2).2
  have e5 := List.append_inj e4 (by rw [data_len, data_len]; omega)
  refine ⟨?_, e5.2⟩
  rcases s with ⟨⟨l⟩⟩
  rcases s' with ⟨⟨l'⟩⟩
  have := e5.1
  simp only at this
  rw [this]
theorem codeK_inj : ∀ (ms ms' : List Int), (∀ m ∈ ms, inI m) → (∀ m ∈ ms', inI m) → codeK ms = codeK ms' → ms = ms'
  | [], [], _, _, _ => rfl
  | [], m :: l, _, _, h => by cases h
  | m :: l, [], _, _, h => by cases h
  | m :: l, m' :: l', h1, h2, h => by
    simp only [codeK] at h
    have h := (List.cons.inj h).2
    have i1 := h1 m (List.mem_cons_self ..)
    have i2 := h2 m' (List.mem_cons_self ..)
    have n44 : ∀ {n : Int}, inI n → ∀ x ∈ itoaL n, x ≠ 44 := fun hn x hx e => by
      have := itoaL_mem hn hx
      subst e
      revert this; decide
    have st : ∀ l : List Int, codeK l = [] ∨ ∃ q, codeK l = 44 :: q := fun l => by
      cases l with
      | nil => exact .inl rfl
      | cons m l => exact .inr ⟨_, rfl⟩
    obtain ⟨e1, e2⟩ := sep_inj 44 _ _ _ _ (n44 i1) (n44 i2) (st l) (st l') h
    rw [itoaL_inj i1 i2 e1, codeK_inj l l' (fun x hx => h1 x (List.mem_cons_of_mem _ hx)) (fun x hx => h2 x (List.mem_cons_of_mem _ hx)) e2]
theorem itoaB_size (n : Int) : 1 ≤ (itoaB n).size ∧ (itoaB n).size ≤ 21 := by
  unfold itoaB; rw [size_arr]; exact itoaL_len n
theorem code_inj {t u : Tree} {ms ms' : List Int} (ht : inI t.kind) (hu : inI u.kind) (h1 : Short t) (h2 : Short u) (hm : ∀ m ∈ ms, inI m) (hm' : ∀ m ∈ ms', inI m) (h : code t ms = code u ms') : t.kind = u.kind ∧ t.text = u.text ∧ t.trail = u.trail ∧ ms = ms' := by
  unfold code at h
  simp only [codeH, List.append_assoc, List.nil_append] at h
  have k1 := itoaB_size t.kind
  have k2 := itoaB_size u.kind
  have s1 := h1.1
  have s2 := h1.2
  have s3 := h2.1
  have s4 := h2.2
  obtain ⟨e1, h⟩ := txt_inj (by omega) (by omega) h
  obtain ⟨e2, h⟩ := txt_inj (by omega) (by omega) h
  obtain ⟨e3, h⟩ := txt_inj (by omega) (by omega) h
  refine ⟨itoaL_inj ht hu ?_, e2, e3, codeK_inj _ _ hm hm' h⟩
  unfold itoaB at e1
  have := congrArg (fun b : ByteArray => b.data.toList) e1
  simpa using this
theorem txt_len (s : ByteArray) : (txt s).length ≤ 22 + s.size := by
  unfold txt
  have := itoaL_len s.size
  rw [List.length_append, List.length_cons, data_len]; omega
theorem codeH_append : ∀ (l m : List ByteArray), codeH (l ++ m) = codeH l ++ codeH m
  | [], m => rfl
  | s :: l, m => by rw [List.cons_append, codeH, codeH, codeH_append l m, List.append_assoc]
theorem codeK_append : ∀ (l m : List Int), codeK (l ++ m) = codeK l ++ codeK m
  | [], m => rfl
  | s :: l, m => by rw [List.cons_append, codeK, codeK, codeK_append l m]; simp
theorem codeK_len : ∀ (l : List Int), (codeK l).length ≤ 22 * l.length
  | [] => by simp [codeK]
  | m :: l => by
    have := codeK_len l
    have := itoaL_len m
    rw [codeK, List.length_append, List.length_cons, List.length_cons]; omega
theorem mget_mput {κ ν : Type} [DecidableEq κ] : ∀ (l : List (κ × ν)) (k : κ) (v : ν) (q : κ), mget (mput l k v) q = if k = q then some v else mget l q
  | [], k, v, q => by simp only [mput, mget]
  | p :: l, k, v, q => by
    unfold mput
    split
    · rename_i h
      simp only [mget]
      by_cases hq : k = q
      · rw [if_pos hq, if_pos hq]
      · rw [if_neg hq, if_neg hq, if_neg (by rw [h]; exact hq)]
    · rename_i h
      simp only [mget]
      rw [mget_mput l k v q]
      by_cases hq : p.1 = q
      · rw [if_pos hq, if_neg (by rw [← hq]; exact fun e => h e.symm), if_pos hq]
      · rw [if_neg hq, if_neg hq]
theorem mput_new {κ ν : Type} [DecidableEq κ] : ∀ (l : List (κ × ν)) (k : κ) (v : ν), mget l k = none → (mput l k v).length = l.length + 1
  | [], k, v, _ => rfl
  | p :: l, k, v, h => by
    unfold mget at h
    split at h
    · cases h
    · rename_i hn
      unfold mput
      rw [if_neg hn, List.length_cons, List.length_cons, mput_new l k v h]
end Go.Proofs.YtabojfgmbfnoiaaGreatDoor
end
section
/- Marks: like marks, like trees. -/
set_option linter.unusedVariables false
set_option linter.unusedSimpArgs false
namespace Go.Proofs.YtabojfgmbfnoiaaGreatDoor
/-- Numbers that stand for Kids. -/
def Mk (reps : List Tree) (kids : List Tree) (ms : List Int) : Prop := ms.length = kids.length ∧ ∀ (j : Nat) (k : Tree), kids[j]? = some k → ∃ m : Int, ms[j]? = some m ∧ inI m ∧ reps[m.toNat]? = some k
theorem Mk.grow {reps more kids : List Tree} {ms : List Int} (h : Mk reps kids ms) : Mk (reps ++ more) kids ms := ⟨h.1, fun j k hk => by
  obtain ⟨m, a, b, c⟩ := h.2 j k hk
  exact ⟨m, a, b, by rw [List.getElem?_append_left (by rcases Nat.lt_or_ge m.toNat reps.length with q | q; exact q; rw [List.getElem?_eq_none q] at c; cases c)]; exact c⟩⟩
theorem Mk.inn {reps kids : List Tree} {ms : List Int} (h : Mk reps kids ms) : ∀ m ∈ ms, inI m := fun m hm => by
  obtain ⟨j, hj, e⟩ := List.mem_iff_getElem.1 hm
  have := h.1
  obtain ⟨x, a, b, _⟩ := h.2 j _ (List.getElem?_eq_getElem (by omega))
  rw [List.getElem?_eq_getElem hj, e, Option.some.injEq] at a
  rw [a]; exact b
theorem Mk.inj {reps k1 k2 : List Tree} {ms : List Int} (h1 : Mk reps k1 ms) (h2 : Mk reps k2 ms) : k1 = k2 := by
  apply List.ext_getElem?
  intro j
  have l1 := h1.1
  have l2 := h2.1
  by_cases hj : j < ms.length
  · obtain ⟨m, a, _, c⟩ := h1.2 j _ (List.getElem?_eq_getElem (by omega))
    obtain ⟨m', a', _, c'⟩ := h2.2 j _ (List.getElem?_eq_getElem (by omega))
    rw [a, Option.some.injEq] at a'
    subst a'
    rw [List.getElem?_eq_getElem (by omega), List.getElem?_eq_getElem (by omega), ← c, ← c']
  · rw [List.getElem?_eq_none (by omega), List.getElem?_eq_none (by omega)]
/-- What is asked of a node. -/
def Fine (t : Tree) : Prop := inI t.kind ∧ Short t
/-- Texts and the trees they stand for. -/
def Nums (nums : List (ByteArray × Int)) (reps : List Tree) : Prop := nums.length = reps.length ∧ ∀ s k, mget nums s = some k → 0 ≤ k ∧ k < reps.length ∧ ∃ t ms, reps[k.toNat]? = some t ∧ s.data.toList = code t ms ∧ Mk reps t.kids ms ∧ Fine t
theorem Nums.nil : Nums [] [] := ⟨rfl, fun s k h => by cases h⟩
theorem Nums.hit {nums : List (ByteArray × Int)} {reps : List Tree} (h : Nums nums reps) {s : ByteArray} {k : Int} (hk : mget nums s = some k) {t : Tree} {ms : List Int} (hs : s.data.toList = code t ms) (hm : Mk reps t.kids ms) (ht : Fine t) : 0 ≤ k ∧ k < reps.length ∧ reps[k.toNat]? = some t := by
  obtain ⟨k0, k1, u, ms', hu, hc, hm', hf⟩ := h.2 s k hk
  obtain ⟨e1, e2, e3, e4⟩ := code_inj ht.1 hf.1 ht.2 hf.2 hm.inn hm'.inn (hs.symm.trans hc)
  subst e4
  have e5 := hm.inj hm'
  refine ⟨k0, k1, ?_⟩
  rw [hu, ← Tree.eta t, ← Tree.eta u, e1, e2, e3, e5]
theorem Nums.new {nums : List (ByteArray × Int)} {reps : List Tree} (h : Nums nums reps) {s : ByteArray} (hk : mget nums s = none) {t : Tree} {ms : List Int} (hs : s.data.toList = code t ms) (hm : Mk reps t.kids ms) (ht : Fine t) : Nums (mput nums s (nums.length : Int)) (reps ++ [t]) := by
  refine ⟨by rw [mput_new _ _ _ hk, List.length_append, h.1, one_len], fun q k hq => ?_⟩
  rw [mget_mput] at hq
  split at hq
  · rename_i e
    subst e
    simp only [Option.some.injEq] at hq
    subst hq
    have := h.1
    refine ⟨by omega, by rw [List.length_append, one_len]; omega, t, ms, ?_, hs, hm.grow, ht⟩
    rw [List.getElem?_append_right (by omega), show ((nums.length : Nat) : Int).toNat - reps.length = 0 by omega]; rfl
  · obtain ⟨k0, k1, u, ms', hu, hc, hm', hf⟩ := h.2 q k hq
    refine ⟨k0, by rw [List.length_append, one_len]; omega, u, ms', ?_, hc, hm'.grow, hf⟩
    rw [List.getElem?_append_left (by omega)]; exact hu
/-- From a place on the marks stand for the nodes. -/
def Own (reps l : List Tree) (own : List Int) (i : Int) : Prop := own.length = l.length ∧ ∀ j : Nat, i < j → j < l.length → ∃ m, own[j]? = some m ∧ 0 ≤ m ∧ m < 1000000 ∧ reps[m.toNat]? = l[j]?
theorem Own.grow {reps more l : List Tree} {own : List Int} {i : Int} (h : Own reps l own i) : Own (reps ++ more) l own i := ⟨h.1, fun j h1 h2 => by
  obtain ⟨m, a, b, b', c⟩ := h.2 j h1 h2
  refine ⟨m, a, b, b', ?_⟩
  rw [List.getElem?_append_left, c]
  rcases Nat.lt_or_ge m.toNat reps.length with q | q
  · exact q
  · rw [List.getElem?_eq_none q, List.getElem?_eq_getElem h2] at c; cases c⟩
theorem l209_t (x : Tree) (h : Short x) : T (fun a _ => F24_l209 a x a [] 0) (· = codeH [itoaB x.kind, x.text, x.trail]) := by
  have k1 := itoaB_size x.kind
  have s1 := h.1
  have s2 := h.2
  have hall : ∀ s ∈ [itoaB x.kind, x.text, x.trail], s.size ≤ 50000 := by
    intro s hs
    simp only [List.mem_cons, List.not_mem_nil, or_false] at hs
    rcases hs with rfl | rfl | rfl <;> omega
  refine T.diag (f := fun a n => F24_l209 a x n [] 0) ?_
  refine T.loop (L := fun a n (s : List UInt8 × Int) => F24_l209 a x n s.1 s.2) (fun s => 0 ≤ s.2 ∧ s.2 ≤ 3 ∧ s.1 = codeH ([itoaB x.kind, x.text, x.trail].take s.2.toNat) ∧ s.1.length ≤ 51000 * s.2.toNat) (fun s => 3 - s.2.toNat) ?_ ([], 0) ⟨by simp, by simp, by simp [codeH], by simp⟩
  rintro ⟨y, i⟩ ⟨i0, i1, e, hl⟩ rec
  simp only at i0 i1 e hl rec ⊢
  simp only [F24_l209]
  have hlen : (([itoaB x.kind, x.text, x.trail].length : Nat) : Int) = 3 := rfl
  rw [hlen]
  refine T.dec (fun q => T.idx' (by omega) fun z hz => ?_) fun q => T.ret ?_
  · have hz1 := hall z (mem_of_get hz)
    have hz2 := itoaB_size (z.size : Int)
    have hc : (⟨#[58]⟩ : ByteArray).size = 1 := rfl
    refine T.ck (by omega) (T.req (by rw [hc]; omega) (T.req (by rw [ByteArray.size_append, hc]; omega) (T.req (by simp only [ByteArray.size_append, hc]; omega) (T.ck (by omega) (rec (_, _) ⟨by simp only; omega, by simp only; omega, ?_, ?_⟩ (by simp only; omega))))))
    · simp only
      rw [take_succ' i0 hz, codeH_append, e]
      congr 1
      simp only [codeH, List.append_nil, txt, ByteArray.toList_data_append]
      unfold itoaB
      simp
    · simp only [List.length_append, data_len, ByteArray.size_append, hc]; omega
  · rw [List.take_of_length_le (by simp; omega)] at e; exact e
theorem l229_t {l : List Tree} {reps : List Tree} {own : List Int} {i : Int} {u : Tree} (ho : Own reps l own i) (row : List Int) (hrl : row.length = u.kids.length) (hr : ∀ (j : Nat) (x : Int), row[j]? = some x → i < x ∧ x < l.length ∧ l[x.toNat]? = u.kids[j]?) (h0 : -1 ≤ i) (hlen : row.length ≤ 100000) (y0 : List UInt8) (hy : y0.length ≤ 200000) : T (fun a _ => F24_l229 a row own a y0 0) (fun r => ∃ ms, r = y0 ++ codeK ms ∧ Mk reps u.kids ms) := by
  refine T.diag (f := fun a n => F24_l229 a row own n y0 0) ?_
  refine T.loop (L := fun a n (s : List UInt8 × Int) => F24_l229 a row own n s.1 s.2) (fun s => 0 ≤ s.2 ∧ s.2 ≤ row.length ∧ ∃ ms, s.1 = y0 ++ codeK ms ∧ (ms.length : Int) = s.2 ∧ ∀ (j : Nat) (k : Tree), (j : Int) < s.2 → u.kids[j]? = some k → ∃ m, ms[j]? = some m ∧ inI m ∧ reps[m.toNat]? = some k) (fun s => row.length - s.2.toNat) ?_ (y0, 0) ⟨by simp, by simp, [], by simp [codeK], rfl, fun j k hj _ => absurd hj (by simp only; omega)⟩
  rintro ⟨y, c⟩ ⟨c0, c1, ms, e, hms, hmk⟩ rec
  simp only at c0 c1 e hms hmk rec ⊢
  simp only [F24_l229]
  refine T.dec (fun q => T.idx' (by omega) fun x hx => ?_) fun q => T.ret ⟨ms, e, by omega, fun j k hk => hmk j k ?_ hk⟩
  · obtain ⟨x0, x1, hxu⟩ := hr _ x hx
    obtain ⟨m, hm, m0, m1, hmr⟩ := ho.2 x.toNat (by omega) (by omega)
    have hck := codeK_len ms
    have hz2 := itoaB_size m
    have hc : (⟨#[44]⟩ : ByteArray).size = 1 := rfl
    have hyl : y.length ≤ 200000 + 22 * ms.length := by rw [e, List.length_append]; omega
    refine T.idx (by omega) hm (T.ck (by omega) (T.req (by rw [hc]; omega) (T.req (by rw [ByteArray.size_append, hc]; omega) (T.ck (by omega) (rec (_, _) ⟨by simp only; omega, by simp only; omega, ms ++ [m], ?_, ?_, ?_⟩ (by simp only; omega))))))
    · simp only
      rw [codeK_append, ← List.append_assoc, ← e]
      congr 1
      simp only [codeK, List.append_nil, ByteArray.toList_data_append]
      unfold itoaB
      simp
    · simp only [List.length_append, one_len]; omega
    · simp only
      intro j k hj hk
      by_cases hjc : (j : Int) < c
      · obtain ⟨m', a, b, d⟩ := hmk j k hjc hk
        exact ⟨m', by rw [List.getElem?_append_left (by omega)]; exact a, b, d⟩
      · refine ⟨m, by rw [List.getElem?_append_right (by omega), show j - ms.length = 0 by omega]; rfl, ⟨by omega, by omega⟩, ?_⟩
        rw [hmr, hxu, show c.toNat = j by omega]; exact hk
  · have := lt_of_some hk
    omega
end Go.Proofs.YtabojfgmbfnoiaaGreatDoor
end
section
/- Marks: like marks, like trees (the loops). -/
set_option linter.unusedVariables false
set_option linter.unusedSimpArgs false
namespace Go.Proofs.YtabojfgmbfnoiaaGreatDoor
/-- All of a tree's marks stand for its nodes. -/
theorem l145_t (t : Tree) (hf : ∀ u ∈ t.nodes, Fine u) (hc : t.card ≤ 20001) (r : List Tree × List Int × List Int × List (List Int)) (hr : PlanOf t r) (nums : List (ByteArray × Int)) (reps : List Tree) (hn : Nums nums reps) (hb : nums.length ≤ 100000) : T (fun a _ => F24_l145 a r a nums (List.replicate r.1.length 0) ((r.1.length : Int) - 1)) (fun q => ∃ more, Nums q.1 (reps ++ more) ∧ q.1.length ≤ nums.length + t.card ∧ Own (reps ++ more) t.nodes q.2 (-1)) := by
  obtain ⟨h1, h2, h3, h4⟩ := hr
  have hl : r.1.length = t.card := by rw [h1]; rfl
  refine T.diag (f := fun a n => F24_l145 a r n nums (List.replicate r.1.length 0) ((r.1.length : Int) - 1)) ?_
  refine T.loop (L := fun a n (s : List (ByteArray × Int) × List Int × Int) => F24_l145 a r n s.1 s.2.1 s.2.2) (fun s => -1 ≤ s.2.2 ∧ s.2.2 < t.card ∧ ∃ more, Nums s.1 (reps ++ more) ∧ (s.1.length : Int) + s.2.2 + 1 ≤ nums.length + t.card ∧ Own (reps ++ more) t.nodes s.2.1 s.2.2) (fun s => (s.2.2 + 1).toNat) ?_ (_, _, _) ⟨by simp only; omega, by simp only; omega, [], by rw [List.append_nil]; exact hn, by simp only; omega, ⟨by simp only [List.length_replicate]; exact hl, fun j q1 q2 => by simp only at q1; have : t.nodes.length = t.card := rfl; omega⟩⟩
  rintro ⟨nm, own, i⟩ ⟨i0, i1, more, hnm, hlen, hown⟩ rec
  simp only at i0 i1 hnm hlen hown rec ⊢
  simp only [F24_l145]
  have hcard : t.nodes.length = t.card := rfl
  refine T.dec (fun q => ?_) fun q => T.ret ⟨more, hnm, by simp only; omega, (show i = -1 by omega) ▸ hown⟩
  obtain ⟨u, hu, hum⟩ := get_of_lt (l := t.nodes) (i := i.toNat) (by omega)
  obtain ⟨g1, g2, g3⟩ := node_at t 0 i.toNat u hu
  have hfu := hf u hum
  have huk := length_le_nodesL u.kids
  have hcu := card_eq u
  have hcm := card_mem hum
  refine T.bind (P := fun (p : List (ByteArray × Int) × List Int) => ∃ more, Nums p.1 (reps ++ more) ∧ (p.1.length : Int) + i ≤ nums.length + t.card ∧ Own (reps ++ more) t.nodes p.2 (i - 1)) ?_ ?_
  · refine T.idx q (by rw [h1]; exact hu) (T.use (codeH [itoaB u.kind, u.text, u.trail]) ?_ ?_)
    · exact T.ck hfu.1 (l209_t u hfu.2)
    refine T.bind (P := fun y => ∃ ms, y = code u ms ∧ Mk (reps ++ more) u.kids ms) ?_ fun y hy => ?_
    · refine T.idx q (by rw [h4]; exact g2) (T.mono (l229_t hown (posL (0 + i.toNat + 1) u.kids) (posL_length _ _) ?_ i0 (by rw [posL_length]; omega) _ ?_) ?_)
      · intro j x hx
        rw [Nat.zero_add] at hx
        obtain ⟨k, a1, a2, a3, a4, a5⟩ := kid_at hu hx
        have := card_pos k
        exact ⟨by omega, by omega, by rw [a3, a1]⟩
      · have k1 := itoaB_size u.kind
        have s1 := hfu.2.1
        have s2 := hfu.2.2
        have a1 := txt_len (itoaB u.kind)
        have a2 := txt_len u.text
        have a3 := txt_len u.trail
        simp only [codeH, List.length_append, List.length_nil]; omega
      · rintro y ⟨ms, e, hm⟩
        exact ⟨ms, e, hm⟩
    obtain ⟨ms, hy, hm⟩ := hy
    have hne : y ≠ [] := by
      rw [hy]; unfold code codeH txt
      have := itoaL_len ((itoaB u.kind).size : Int)
      intro e
      have := congrArg List.length e
      simp only [List.length_append, List.length_nil] at this
      omega
    have hs : (⟨y.toArray⟩ : ByteArray).data.toList = code u ms := by rw [← hy]
    generalize (⟨y.toArray⟩ : ByteArray) = s at hs
    refine T.req hne ?_
    refine T.bind (P := fun (p : List (ByteArray × Int) × Int) => ∃ more, Nums p.1 (reps ++ more) ∧ (p.1.length : Int) + i ≤ nums.length + t.card ∧ Own (reps ++ more) t.nodes own i ∧ 0 ≤ p.2 ∧ p.2 < 1000000 ∧ (reps ++ more)[p.2.toNat]? = some u) ?_ ?_
    · cases hg : mget nm s with
      | none =>
        refine T.bt (by rfl) (T.ret ⟨more ++ [u], ?_, ?_, ?_, ?_, ?_, ?_⟩)
        · rw [← List.append_assoc]; exact hnm.new hg hs hm hfu
        · simp only; rw [mput_new _ _ _ hg]; omega
        · rw [← List.append_assoc]; exact hown.grow
        · simp only; omega
        · simp only; omega
        · simp only
          rw [← List.append_assoc, List.getElem?_append_right (by have := hnm.1; omega)]
          have := hnm.1
          rw [show ((nm.length : Nat) : Int).toNat - (reps ++ more).length = 0 by omega]; rfl
      | some k =>
        obtain ⟨k0, k1, k2⟩ := hnm.hit hg hs hm hfu
        have := hnm.1
        refine T.bf (by rfl) (T.ret ⟨more, hnm, by simp only; omega, hown, by simpa using k0, ?_, by simpa using k2⟩)
        simp only [Option.getD_some]; omega
    · rintro ⟨nm2, m⟩ ⟨more2, b1, b2, b3, b4, b5, b6⟩
      simp only at b1 b2 b3 b4 b5 b6 ⊢
      refine T.idx' ⟨q, by have := hown.1; omega⟩ fun _ _ => T.ret ⟨more2, b1, b2, ⟨by simp only [List.length_set]; exact b3.1, fun j q1 q2 => ?_⟩⟩
      simp only
      by_cases hj : j = i.toNat
      · subst hj
        exact ⟨m, List.getElem?_set_self (by have := hown.1; omega), b4, b5, by rw [b6, hu]⟩
      · rw [List.getElem?_set_ne (by omega)]; exact b3.2 j (by omega) q2
  · rintro ⟨p1, p2⟩ ⟨more, a1, a2, a3⟩
    simp only at a1 a2 a3 ⊢
    exact T.ck (by omega) (rec (_, _, _) ⟨by simp only; omega, by simp only; omega, more, a1, by simp only; omega, a3⟩ (by simp only; omega))
theorem l290_t (orig : List (List Int)) (ks : List Int) (i : Int) (hi : 0 ≤ i) (row : List Int) (rows : List (List Int)) (first : List (Int × Int)) (hrow : rows[i.toNat]? = some row) (hlen : row.length ≤ 100000) (hF : first.length = ks.length ∧ ∀ k n, mget first k = some n → 0 ≤ n ∧ n < ks.length ∧ ks[n.toNat]? = some k) : T (fun a _ => F24_l290 a row i a rows first 0) (fun r => ∃ more row', r.1 = rows.set i.toNat row' ∧ row'.length = row.length ∧ (r.2.length = (ks ++ more).length ∧ ∀ k n, mget r.2 k = some n → 0 ≤ n ∧ n < (ks ++ more).length ∧ (ks ++ more)[n.toNat]? = some k) ∧ ∀ (j : Nat) (n : Int), row'[j]? = some n → (ks ++ more)[n.toNat]? = row[j]? ∧ 0 ≤ n) := by
  refine T.diag (f := fun a n => F24_l290 a row i n rows first 0) ?_
  refine T.loop (L := fun a n (s : List (List Int) × List (Int × Int) × Int) => F24_l290 a row i n s.1 s.2.1 s.2.2) (fun s => 0 ≤ s.2.2 ∧ s.2.2 ≤ row.length ∧ ∃ more row', s.1 = rows.set i.toNat row' ∧ row'.length = row.length ∧ (s.2.1.length = (ks ++ more).length ∧ ∀ k n, mget s.2.1 k = some n → 0 ≤ n ∧ n < (ks ++ more).length ∧ (ks ++ more)[n.toNat]? = some k) ∧ ∀ (j : Nat) (n : Int), row'[j]? = some n → ((j : Int) < s.2.2 → (ks ++ more)[n.toNat]? = row[j]? ∧ 0 ≤ n) ∧ (s.2.2 ≤ (j : Int) → row[j]? = some n)) (fun s => row.length - s.2.2.toNat) ?_ (_, _, 0) ⟨by simp, by simp, [], row, ?_, rfl, by rw [List.append_nil]; exact hF, fun j n hn => ⟨fun h => absurd h (by simp only; omega), fun _ => hn⟩⟩
  · rintro ⟨rs, fi, c⟩ ⟨c0, c1, more, row', e, hl, hfi, hj⟩ rec
    simp only at c0 c1 e hl hfi hj rec ⊢
    simp only [F24_l290]
    have hil : i.toNat < rows.length := lt_of_some hrow
    refine T.dec (fun q => ?_) fun q => T.ret ⟨more, row', e, hl, hfi, fun j n hn => (hj j n hn).1 (by have := lt_of_some hn; omega)⟩
    refine T.idx hi (by rw [e]; exact List.getElem?_set_self hil) (T.idx' (by omega) fun x hx => ?_)
    have hxr := (hj _ _ hx).2 (by omega)
    refine T.bind (P := fun (p : List (Int × Int) × Int) => ∃ more2, (p.1.length = (ks ++ (more ++ more2)).length ∧ ∀ k n, mget p.1 k = some n → 0 ≤ n ∧ n < (ks ++ (more ++ more2)).length ∧ (ks ++ (more ++ more2))[n.toNat]? = some k) ∧ 0 ≤ p.2 ∧ (ks ++ (more ++ more2))[p.2.toNat]? = some x) ?_ ?_
    · cases hg : mget fi x with
      | none =>
        refine T.bt (by rfl) (T.ret ⟨[x], ⟨?_, fun k n hk => ?_⟩, ?_, ?_⟩)
        · simp only; rw [mput_new _ _ _ hg, hfi.1]; simp only [List.length_append, one_len]; omega
        · simp only at hk
          rw [mget_mput] at hk
          have hf1 := hfi.1
          split at hk
          · rename_i ex
            subst ex
            simp only [Option.some.injEq] at hk
            subst hk
            refine ⟨by omega, by rw [← List.append_assoc, List.length_append, one_len]; omega, ?_⟩
            rw [← List.append_assoc, List.getElem?_append_right (by omega), show ((fi.length : Nat) : Int).toNat - (ks ++ more).length = 0 by omega]; rfl
          · obtain ⟨n0, n1, n2⟩ := hfi.2 k n hk
            refine ⟨n0, by rw [← List.append_assoc, List.length_append, one_len]; omega, ?_⟩
            rw [← List.append_assoc, List.getElem?_append_left (by omega)]; exact n2
        · simp only; omega
        · simp only
          have hf1 := hfi.1
          rw [← List.append_assoc, List.getElem?_append_right (by omega), show ((fi.length : Nat) : Int).toNat - (ks ++ more).length = 0 by omega]; rfl
      | some n =>
        obtain ⟨n0, n1, n2⟩ := hfi.2 x n hg
        refine T.bf (by rfl) (T.ret ⟨[], by rw [List.append_nil]; exact hfi, by simpa using n0, ?_⟩)
        rw [List.append_nil]
        simpa using n2
    · rintro ⟨fi2, m⟩ ⟨more2, d1, d2, d3⟩
      simp only at d1 d2 d3 ⊢
      refine T.ck (by omega) (rec (_, _, _) ⟨by simp only; omega, by simp only; omega, more ++ more2, row'.set c.toNat m, ?_, by simp only [List.length_set]; exact hl, d1, ?_⟩ (by simp only; omega))
      · simp only
        rw [e, List.set_set]
      · simp only
        intro j n hn
        by_cases hjc : j = c.toNat
        · subst hjc
          rw [List.getElem?_set_self (by omega), Option.some.injEq] at hn
          subst hn
          refine ⟨fun _ => ⟨by rw [d3, hxr], d2⟩, fun h => absurd h (by omega)⟩
        · rw [List.getElem?_set_ne (by omega)] at hn
          have := hj j n hn
          refine ⟨fun h => ?_, fun h => this.2 (by omega)⟩
          obtain ⟨w1, w2⟩ := this.1 (by omega)
          refine ⟨?_, w2⟩
          have hlt : n.toNat < (ks ++ more).length := by
            rcases Nat.lt_or_ge n.toNat (ks ++ more).length with q | q
            · exact q
            · rw [List.getElem?_eq_none q] at w1
              have := lt_of_some hn
              rw [List.getElem?_eq_getElem (by omega)] at w1; cases w1
          rw [← List.append_assoc, List.getElem?_append_left hlt, w1]
  · simp only
    refine (List.ext_getElem? fun j => ?_)
    by_cases hj : j = i.toNat
    · subst hj; rw [List.getElem?_set_self (lt_of_some hrow), hrow]
    · rw [List.getElem?_set_ne (by omega)]
end Go.Proofs.YtabojfgmbfnoiaaGreatDoor
end
section
/- Marks: like marks, like trees (the whole). -/
set_option linter.unusedVariables false
set_option linter.unusedSimpArgs false
namespace Go.Proofs.YtabojfgmbfnoiaaGreatDoor
theorem some_grow {α : Type} {ks more : List α} {n : Nat} {z : Option α} (h : ks[n]? = z) (hz : z ≠ none) : (ks ++ more)[n]? = z := by
  cases z with
  | none => exact absurd rfl hz
  | some z => rw [List.getElem?_append_left (lt_of_some h)]; exact h
/-- Marks that tell the trees. -/
def Marked (g : Int → Option Tree) (t : Tree) (ms : List Int) : Prop := ms.length = t.card ∧ ∀ (i : Nat) (m : Int), ms[i]? = some m → g m = t.nodes[i]?
theorem l5_t (l : List Tree) (hl : l.length ≤ 2) (hf : ∀ t ∈ l, t.card ≤ 20001 ∧ ∀ u ∈ t.nodes, Fine u) : T (fun a _ => F24_l5 a l a [] [] 0) (fun r => r.length = l.length ∧ ∃ reps, ∀ (j : Nat) (t : Tree) (own : List Int), l[j]? = some t → r[j]? = some own → Own reps t.nodes own (-1)) := by
  refine T.diag (f := fun a n => F24_l5 a l n [] [] 0) ?_
  refine T.loop (L := fun a n (s : List (ByteArray × Int) × List (List Int) × Int) => F24_l5 a l n s.1 s.2.1 s.2.2) (fun s => 0 ≤ s.2.2 ∧ s.2.2 ≤ l.length ∧ s.2.1.length = s.2.2 ∧ (s.1.length : Int) ≤ 20001 * s.2.2 ∧ ∃ reps, Nums s.1 reps ∧ ∀ (j : Nat) (t : Tree) (own : List Int), l[j]? = some t → s.2.1[j]? = some own → Own reps t.nodes own (-1)) (fun s => l.length - s.2.2.toNat) ?_ (_, _, 0) ⟨by simp, by simp, by simp, by simp, [], Nums.nil, fun j t own _ h => by cases h⟩
  rintro ⟨nm, rough, i⟩ ⟨i0, i1, e1, e2, reps, hn, ho⟩ rec
  simp only at i0 i1 e1 e2 hn ho rec ⊢
  simp only [F24_l5]
  refine T.dec (fun q => ?_) fun q => T.ret ⟨by omega, reps, ho⟩
  refine T.bind (P := fun (p : List (ByteArray × Int) × List (List Int)) => p.2.length = i + 1 ∧ (p.1.length : Int) ≤ 20001 * (i + 1) ∧ ∃ reps, Nums p.1 reps ∧ ∀ (j : Nat) (t : Tree) (own : List Int), l[j]? = some t → p.2[j]? = some own → Own reps t.nodes own (-1)) ?_ ?_
  · refine T.idx' (by omega) fun t ht => ?_
    obtain ⟨hc, hft⟩ := hf t (mem_of_get ht)
    refine T.bind (F23_t t (by omega)) fun r hr => ?_
    have hrl : r.1.length = t.card := by rw [hr.1]; rfl
    refine T.req (by omega) ?_
    refine T.bind (P := fun (q : List (ByteArray × Int) × List Int) => ∃ more, Nums q.1 (reps ++ more) ∧ q.1.length ≤ nm.length + t.card ∧ Own (reps ++ more) t.nodes q.2 (-1)) ?_ ?_
    · rw [List.length_replicate]
      exact T.ck (by omega) (l145_t t hft hc r hr nm reps hn (by omega))
    · rintro ⟨nm2, own⟩ ⟨more, a1, a2, a3⟩
      simp only at a1 a2 a3 ⊢
      refine T.req (by omega) (T.ret ⟨?_, ?_, reps ++ more, a1, ?_⟩)
      · simp only [List.length_append, one_len]; omega
      · simp only; omega
      · simp only
        intro j u own2 hj hown
        by_cases hji : j < rough.length
        · rw [List.getElem?_append_left hji] at hown
          exact (ho j u own2 hj hown).grow
        · have := lt_of_some hown
          rw [List.length_append, one_len] at this
          have e : j = i.toNat := by omega
          subst e
          rw [List.getElem?_append_right (by omega), show i.toNat - rough.length = 0 by omega] at hown
          simp only [List.getElem?_cons_zero, Option.some.injEq] at hown
          rw [ht, Option.some.injEq] at hj
          subst hj; subst hown
          exact a3
  · rintro ⟨p1, p2⟩ ⟨a1, a2, a3⟩
    simp only at a1 a2 a3 ⊢
    exact T.ck (by omega) (rec (_, _, _) ⟨by simp only; omega, by simp only; omega, a1, a2, a3⟩ (by simp only; omega))
theorem l262_t (l : List (List Int)) (hl : l.length ≤ 2) (hr : ∀ row ∈ l, row.length ≤ 100000) : T (fun a _ => F24_l262 a l a l [] 0) (fun r => r.length = l.length ∧ ∃ ks : List Int, ∀ (j : Nat) (orig row : List Int), l[j]? = some orig → r[j]? = some row → row.length = orig.length ∧ ∀ (c : Nat) (n : Int), row[c]? = some n → ks[n.toNat]? = orig[c]? ∧ 0 ≤ n) := by
  refine T.diag (f := fun a n => F24_l262 a l n l [] 0) ?_
  refine T.loop (L := fun a n (s : List (List Int) × List (Int × Int) × Int) => F24_l262 a l n s.1 s.2.1 s.2.2) (fun s => 0 ≤ s.2.2 ∧ s.2.2 ≤ l.length ∧ s.1.length = l.length ∧ ∃ ks : List Int, (s.2.1.length = ks.length ∧ ∀ k n, mget s.2.1 k = some n → 0 ≤ n ∧ n < ks.length ∧ ks[n.toNat]? = some k) ∧ ∀ (j : Nat), (s.2.2 ≤ j → s.1[j]? = l[j]?) ∧ (j < s.2.2 → ∀ (orig row : List Int), l[j]? = some orig → s.1[j]? = some row → row.length = orig.length ∧ ∀ (c : Nat) (n : Int), row[c]? = some n → ks[n.toNat]? = orig[c]? ∧ 0 ≤ n)) (fun s => l.length - s.2.2.toNat) ?_ (_, _, 0) ⟨by simp, by simp, rfl, [], ⟨rfl, fun k n h => by cases h⟩, fun j => ⟨fun _ => rfl, fun h => absurd h (by simp only; omega)⟩⟩
  rintro ⟨rows, fi, i⟩ ⟨i0, i1, e1, ks, hk, hj⟩ rec
  simp only at i0 i1 e1 hk hj rec ⊢
  simp only [F24_l262]
  refine T.dec (fun q => ?_) fun q => T.ret ⟨e1, ks, fun j orig row h1 h2 => (hj j).2 (by have := lt_of_some h1; omega) orig row h1 h2⟩
  refine T.bas (T.idx' (by omega) fun row hrow => ?_)
  have h2 := (hj i.toNat).1 (by omega)
  have hro : l[i.toNat]? = some row := by rw [← h2]; exact hrow
  have hrl := hr row (mem_of_get hro)
  refine T.bind (l290_t l ks i i0 row rows fi hrow hrl hk) ?_
  rintro ⟨rs, fi2⟩ ⟨more, row', a1, a2, a3, a4⟩
  simp only at a1 a2 a3 a4 ⊢
  refine T.ck (by omega) (rec (_, _, _) ⟨by simp only; omega, by simp only; omega, ?_, ks ++ more, a3, fun j => ⟨fun h => ?_, fun h orig row2 h3 h4 => ?_⟩⟩ (by simp only; omega))
  · simp only; rw [a1, List.length_set]; exact e1
  · simp only at h ⊢
    rw [a1, List.getElem?_set_ne (by omega)]; exact (hj j).1 (by omega)
  · simp only at h h4
    rw [a1] at h4
    by_cases hji : j = i.toNat
    · subst hji
      rw [List.getElem?_set_self (by omega), Option.some.injEq] at h4
      rw [hro, Option.some.injEq] at h3
      subst h3; subst h4
      exact ⟨a2, a4⟩
    · rw [List.getElem?_set_ne (by omega)] at h4
      obtain ⟨w1, w2⟩ := (hj j).2 (by omega) orig row2 h3 h4
      refine ⟨w1, fun c n hc => ?_⟩
      obtain ⟨w3, w4⟩ := w2 c n hc
      refine ⟨some_grow w3 ?_, w4⟩
      have := lt_of_some hc
      rw [List.getElem?_eq_getElem (by omega)]
      exact fun e => by cases e
theorem F24_t (a b : Tree) (ha : a.card ≤ 20001) (hb : b.card ≤ 20001) (hfa : ∀ u ∈ a.nodes, Fine u) (hfb : ∀ u ∈ b.nodes, Fine u) : T (fun f _ => F24 f [a, b]) (fun r => ∃ ma mb g, r = [ma, mb] ∧ Marked g a ma ∧ Marked g b mb) := by
  simp only [F24]
  refine T.bind (l5_t [a, b] (Nat.le_refl _) ?_) fun r hr => ?_
  · intro t ht
    simp only [List.mem_cons, List.not_mem_nil, or_false] at ht
    rcases ht with rfl | rfl
    · exact ⟨ha, hfa⟩
    · exact ⟨hb, hfb⟩
  obtain ⟨r1, reps, ho⟩ := hr
  match r, r1 with
  | [oa, ob], _ =>
    have o1 := ho 0 a oa rfl rfl
    have o2 := ho 1 b ob rfl rfl
    have l1 : oa.length = a.card := o1.1
    have l2 : ob.length = b.card := o2.1
    refine T.bind (P := fun r => ∃ ma mb g, r = [ma, mb] ∧ Marked g a ma ∧ Marked g b mb) (T.mono (l262_t [oa, ob] (Nat.le_refl _) ?_) ?_) fun _ h => T.ret h
    · intro row hrow
      simp only [List.mem_cons, List.not_mem_nil, or_false] at hrow
      rcases hrow with rfl | rfl <;> omega
    · rintro r ⟨e, ks, hks⟩
      match r, e with
      | [ma, mb], _ =>
        obtain ⟨q1, q2⟩ := hks 0 oa ma rfl rfl
        obtain ⟨p1, p2⟩ := hks 1 ob mb rfl rfl
        refine ⟨ma, mb, fun m => (ks[m.toNat]?).bind fun k => reps[k.toNat]?, rfl, ⟨by omega, fun i m hm => ?_⟩, ⟨by omega, fun i m hm => ?_⟩⟩
        · have hi := lt_of_some hm
          obtain ⟨x, x1, x2, x3, x4⟩ := o1.2 i (by omega) (by show i < a.card; omega)
          simp only
          rw [(q2 i m hm).1, x1]; exact x4
        · have hi := lt_of_some hm
          obtain ⟨x, x1, x2, x3, x4⟩ := o2.2 i (by omega) (by show i < b.card; omega)
          simp only
          rw [(p2 i m hm).1, x1]; exact x4
end Go.Proofs.YtabojfgmbfnoiaaGreatDoor
end
section
/- A match on its way: pairs are kept. -/
set_option linter.unusedVariables false
set_option linter.unusedSimpArgs false
namespace Go.Proofs.YtabojfgmbfnoiaaGreatDoor
/-- Two rows of partners that agree. -/
structure J (A B : Tree) (to of : List Int) : Prop where
  lt : to.length = A.card
  lo : of.length = B.card
  to_ : ∀ (i : Nat) (x : Int), to[i]? = some x → x = -1 ∨ (0 ≤ x ∧ of[x.toNat]? = some (i : Int) ∧ ∃ u v, A.nodes[i]? = some u ∧ B.nodes[x.toNat]? = some v ∧ u.kind = v.kind)
  of_ : ∀ (k : Nat) (y : Int), of[k]? = some y → y = -1 ∨ (0 ≤ y ∧ to[y.toNat]? = some (k : Int))
theorem J.pair {A B : Tree} {to of : List Int} (h : J A B to of) {i k : Nat} (hi : to[i]? = some (-1)) (hk : of[k]? = some (-1)) {u v : Tree} (hu : A.nodes[i]? = some u) (hv : B.nodes[k]? = some v) (e : u.kind = v.kind) : J A B (to.set i (k : Int)) (of.set k (i : Int)) := by
  have li := lt_of_some hi
  have lk := lt_of_some hk
  refine ⟨by rw [List.length_set]; exact h.lt, by rw [List.length_set]; exact h.lo, fun j x hx => ?_, fun j y hy => ?_⟩
  · by_cases hj : j = i
    · subst hj
      rw [List.getElem?_set_self li, Option.some.injEq] at hx
      subst hx
      exact .inr ⟨by omega, List.getElem?_set_self lk, u, v, hu, hv, e⟩
    · rw [List.getElem?_set_ne (by omega)] at hx
      rcases h.to_ j x hx with q | ⟨x0, x1, x2⟩
      · exact .inl q
      · refine .inr ⟨x0, ?_, x2⟩
        by_cases hxk : x.toNat = k
        · rw [hxk, hk, Option.some.injEq] at x1; omega
        · rw [List.getElem?_set_ne (by omega)]; exact x1
  · by_cases hj : j = k
    · subst hj
      rw [List.getElem?_set_self lk, Option.some.injEq] at hy
      subst hy
      exact .inr ⟨by omega, List.getElem?_set_self li⟩
    · rw [List.getElem?_set_ne (by omega)] at hy
      rcases h.of_ j y hy with q | ⟨x0, x1⟩
      · exact .inl q
      · refine .inr ⟨x0, ?_⟩
        by_cases hxk : y.toNat = i
        · rw [hxk, hi, Option.some.injEq] at x1; omega
        · rw [List.getElem?_set_ne (by omega)]; exact x1
theorem J.neg {A B : Tree} {to of : List Int} (h : J A B to of) {i : Nat} {x : Int} (hx : to[i]? = some x) (hn : x < 0) : to[i]? = some (-1) := by
  rcases h.to_ i x hx with q | q
  · rw [← q]; exact hx
  · omega
theorem J.neg' {A B : Tree} {to of : List Int} (h : J A B to of) {i : Nat} {x : Int} (hx : of[i]? = some x) (hn : x < 0) : of[i]? = some (-1) := by
  rcases h.of_ i x hx with q | q
  · rw [← q]; exact hx
  · omega
/-- What is paired stays. -/
def Keep (to to' : List Int) : Prop := ∀ (j : Nat) (x : Int), to[j]? = some x → 0 ≤ x → to'[j]? = some x
theorem Keep.rfl {to : List Int} : Keep to to := fun _ _ h _ => h
theorem Keep.trans {a b c : List Int} (h : Keep a b) (k : Keep b c) : Keep a c := fun j x hx h0 => k j x (h j x hx h0) h0
theorem Keep.set {to to' : List Int} (h : Keep to to') {i : Nat} {v : Int} (hi : to'[i]? = some (-1)) : Keep to (to'.set i v) := fun j x hx h0 => by
  have := h j x hx h0
  by_cases hj : j = i
  · subst hj
    rw [hi, Option.some.injEq] at this; omega
  · rw [List.getElem?_set_ne (by omega)]; exact this
/-- Only places of a part are touched. -/
def Out (to to' : List Int) (i n : Nat) : Prop := ∀ j : Nat, (j < i ∨ i + n ≤ j) → to'[j]? = to[j]?
theorem Out.rfl {to : List Int} {i n : Nat} : Out to to i n := fun _ _ => by rfl
theorem Out.set {to to' : List Int} {i n : Nat} (h : Out to to' i n) {j : Nat} {v : Int} (h1 : i ≤ j) (h2 : j < i + n) : Out to (to'.set j v) i n := fun q hq => by
  rw [List.getElem?_set_ne (by omega)]; exact h q hq
/-- Nodes below a node. -/
theorem below_get {A u : Tree} {i n : Nat} (hu : A.nodes[i]? = some u) (hn : n < u.card) : A.nodes[i + n]? = u.nodes[n]? := by
  obtain ⟨g1, g2, g3⟩ := node_at A 0 i u hu
  rw [← g1, List.getElem?_take, if_pos hn, List.getElem?_drop]
section
variable {A B : Tree} {pa pb ma mb : List Int}
theorem F27_t {to of : List Int} {i k : Int} (hi : 0 ≤ i ∧ i < to.length) (hk : 0 ≤ k ∧ k < of.length) : T (fun f _ => F27 f A.nodes pa (cards A.nodes) (A.plan 0) B.nodes pb (cards B.nodes) (B.plan 0) ma mb to of i k) (fun _ => True) := by
  simp only [F27]
  exact T.idx' hi fun _ _ => T.idx' hk fun _ _ => T.ret trivial
/-- Two trees that are the same, place by place. -/
theorem F26_t (hA : A.card ≤ 20001) (hB : B.card ≤ 20001) {to of : List Int} (hJ : J A B to of) {i k : Int} (i0 : 0 ≤ i) (k0 : 0 ≤ k) {u : Tree} (hu : A.nodes[i.toNat]? = some u) (hv : B.nodes[k.toNat]? = some u) : T (fun f _ => F26 f A.nodes pa (cards A.nodes) (A.plan 0) B.nodes pb (cards B.nodes) (B.plan 0) ma mb to of i k) (fun r => J A B r.1 r.2 ∧ Keep to r.1 ∧ Out to r.1 i.toNat u.card ∧ Out of r.2 k.toNat u.card ∧ (to[i.toNat]? = some (-1) → of[k.toNat]? = some (-1) → r.1[i.toNat]? = some k)) := by
  simp only [F26]
  have c1 : (cards A.nodes)[i.toNat]? = some (u.card : Int) := by rw [List.getElem?_map, hu]; rfl
  obtain ⟨_, _, g3⟩ := node_at A 0 i.toNat u hu
  obtain ⟨_, _, g4⟩ := node_at B 0 k.toNat u hv
  have hp := card_pos u
  refine T.idx i0 c1 (T.diag (f := fun f n => F26_l19 f A.nodes pa (cards A.nodes) (A.plan 0) B.nodes pb (cards B.nodes) (B.plan 0) ma mb i k (u.card : Int) n to of 0) ?_)
  refine T.loop (L := fun f n (s : List Int × List Int × Int) => F26_l19 f A.nodes pa (cards A.nodes) (A.plan 0) B.nodes pb (cards B.nodes) (B.plan 0) ma mb i k (u.card : Int) n s.1 s.2.1 s.2.2) (fun s => 0 ≤ s.2.2 ∧ s.2.2 ≤ u.card ∧ J A B s.1 s.2.1 ∧ Keep to s.1 ∧ Out to s.1 i.toNat u.card ∧ Out of s.2.1 k.toNat u.card ∧ (s.2.2 = 0 → s.1 = to ∧ s.2.1 = of) ∧ (1 ≤ s.2.2 → to[i.toNat]? = some (-1) → of[k.toNat]? = some (-1) → s.1[i.toNat]? = some k)) (fun s => u.card - s.2.2.toNat) ?_ (_, _, 0) ⟨by simp, by simp, hJ, Keep.rfl, Out.rfl, Out.rfl, fun _ => ⟨rfl, rfl⟩, fun h => absurd h (by simp only; omega)⟩
  rintro ⟨t, o, n⟩ ⟨n0, n1, j, kp, o1, o2, st, fs⟩ rec
  simp only at n0 n1 j kp o1 o2 st fs rec ⊢
  simp only [F26_l19]
  have hlt := j.lt
  have hlo := j.lo
  refine T.dec (fun q => ?_) fun q => T.ret ⟨j, kp, o1, o2, fs (by omega)⟩
  have ein : (i + n).toNat = i.toNat + n.toNat := by omega
  have ekn : (k + n).toNat = k.toNat + n.toNat := by omega
  refine T.bind (P := fun (p : List Int × List Int) => J A B p.1 p.2 ∧ Keep to p.1 ∧ Out to p.1 i.toNat u.card ∧ Out of p.2 k.toNat u.card ∧ (to[i.toNat]? = some (-1) → of[k.toNat]? = some (-1) → p.1[i.toNat]? = some k)) ?_ ?_
  · refine T.bas (T.ck (by omega) (T.bas (T.idx' ⟨by omega, by omega⟩ fun x hx => T.bbi (T.dec (fun hxn => T.bas (T.ck (by omega) (T.bas (T.idx' ⟨by omega, by omega⟩ fun y hy => T.bso (T.dec (fun hyn => ?_) fun hyn => T.ret ?_))))) fun hxn => T.bso (T.bf (by rfl) (T.ret ?_))))))
    · rw [ein] at hx
      rw [ekn] at hy
      have hx1 := j.neg hx hxn
      have hy1 := j.neg' hy hyn
      obtain ⟨w, hw, _⟩ := get_of_lt (l := u.nodes) (i := n.toNat) (by show n.toNat < u.card; omega)
      have ha : A.nodes[i.toNat + n.toNat]? = some w := by rw [below_get hu (by omega)]; exact hw
      have hb : B.nodes[k.toNat + n.toNat]? = some w := by rw [below_get hv (by omega)]; exact hw
      refine T.ck (by omega) (T.ck (by omega) (T.bind (F27_t ⟨by omega, by omega⟩ ⟨by omega, by omega⟩) fun _ _ => T.ret ?_))
      have e1 : k + n = ((k.toNat + n.toNat : Nat) : Int) := by omega
      have e2 : i + n = ((i.toNat + n.toNat : Nat) : Int) := by omega
      simp only [ein, ekn]
      refine ⟨by rw [e1, e2]; exact j.pair hx1 hy1 ha hb rfl, kp.set hx1, o1.set (by omega) (by omega), o2.set (by omega) (by omega), fun h1 h2 => ?_⟩
      by_cases hn : n = 0
      · subst hn
        rw [show i.toNat + (0 : Int).toNat = i.toNat by omega, List.getElem?_set_self (by omega)]; congr 1; omega
      · rw [List.getElem?_set_ne (by omega)]; exact fs (by omega) h1 h2
    · refine ⟨j, kp, o1, o2, fun h1 h2 => ?_⟩
      by_cases hn : n = 0
      · subst hn
        obtain ⟨s1, s2⟩ := st rfl
        rw [ekn, s2, show k.toNat + (0 : Int).toNat = k.toNat by omega, h2, Option.some.injEq] at hy
        omega
      · exact fs (by omega) h1 h2
    · refine ⟨j, kp, o1, o2, fun h1 h2 => ?_⟩
      by_cases hn : n = 0
      · subst hn
        obtain ⟨s1, s2⟩ := st rfl
        rw [ein, s1, show i.toNat + (0 : Int).toNat = i.toNat by omega, h1, Option.some.injEq] at hx
        omega
      · exact fs (by omega) h1 h2
  · rintro ⟨t2, o3⟩ ⟨a1, a2, a3, a4, a5⟩
    simp only at a1 a2 a3 a4 a5 ⊢
    exact T.ck (by omega) (rec (_, _, _) ⟨by simp only; omega, by simp only; omega, a1, a2, a3, a4, fun h => absurd h (by simp only; omega), fun _ => a5⟩ (by simp only; omega))
/-- Those that aren't paired yet. -/
theorem F46_t {row ps : List Int} (hl : row.length ≤ 100000) (hr : ∀ x ∈ row, 0 ≤ x ∧ x < ps.length) : T (fun f _ => F46 f row ps) (fun r => r.Sublist row ∧ ∀ x ∈ r, ∃ y, ps[x.toNat]? = some y ∧ y < 0) := by
  simp only [F46]
  refine T.bind (P := fun (r : List Int) => r.Sublist row ∧ ∀ x ∈ r, ∃ y, ps[x.toNat]? = some y ∧ y < 0) (T.diag (f := fun f n => F46_l5 f row ps n [] 0) ?_) fun _ h => T.ret h
  refine T.loop (L := fun f n (s : List Int × Int) => F46_l5 f row ps n s.1 s.2) (fun s => 0 ≤ s.2 ∧ s.2 ≤ row.length ∧ s.1.Sublist (row.take s.2.toNat) ∧ ∀ x ∈ s.1, ∃ y, ps[x.toNat]? = some y ∧ y < 0) (fun s => row.length - s.2.toNat) ?_ (_, 0) ⟨by simp, by simp, by simp, by simp⟩
  rintro ⟨l, i⟩ ⟨i0, i1, h1, h2⟩ rec
  simp only at i0 i1 h1 h2 rec ⊢
  simp only [F46_l5]
  have hll := h1.length_le
  rw [List.length_take] at hll
  refine T.dec (fun q => ?_) fun q => T.ret ⟨by rw [List.take_of_length_le (by omega)] at h1; exact h1, h2⟩
  refine T.bas (T.idx' (by omega) fun x hx => T.bas (T.idx' (hr x (mem_of_get hx)) fun y hy => T.bbi (T.dec (fun yn => T.bit (by rw [one_len]; omega) (T.bso (T.ck (by omega) (rec (_, _) ⟨by simp only; omega, by simp only; omega, ?_, ?_⟩ (by simp only; omega))))) fun yn => T.bso (T.ck (by omega) (rec (_, _) ⟨by simp only; omega, by simp only; omega, ?_, h2⟩ (by simp only; omega))))))
  · simp only
    rw [take_succ' i0 hx]
    exact h1.append (List.Sublist.refl _)
  · simp only
    intro z hz
    rcases List.mem_append.1 hz with h | h
    · exact h2 z h
    · rw [List.mem_singleton] at h; subst h; exact ⟨y, hy, yn⟩
  · simp only
    rw [take_succ' i0 hx]
    exact h1.trans (List.sublist_append_left _ _)
/-! Which are the same. -/
variable {g : Int → Option Tree}
/-- Places of two nodes of one kind. -/
def Alike (A B : Tree) (x y : Int) : Prop := ∃ u v, A.nodes[x.toNat]? = some u ∧ B.nodes[y.toNat]? = some v ∧ u.kind = v.kind
theorem same_of_mark (hma : Marked g A ma) (hmb : Marked g B mb) {x y : Nat} {m : Int} (h1 : ma[x]? = some m) (h2 : mb[y]? = some m) : ∃ u, A.nodes[x]? = some u ∧ B.nodes[y]? = some u := by
  have e1 := hma.2 x m h1
  have e2 := hmb.2 y m h2
  have hx : x < A.nodes.length := by have := lt_of_some h1; have := hma.1; show x < A.card; omega
  refine ⟨A.nodes[x], List.getElem?_eq_getElem hx, ?_⟩
  rw [← e2, e1, List.getElem?_eq_getElem hx]
theorem F43_t (hma : Marked g A ma) (hmb : Marked g B mb) {to of : List Int} {x y : Int} (hx : 0 ≤ x ∧ x < A.card) (hy : 0 ≤ y ∧ y < B.card) : T (fun f _ => F43 f x y A.nodes pa (cards A.nodes) (A.plan 0) B.nodes pb (cards B.nodes) (B.plan 0) ma mb to of) (fun r => r = true → Alike A B x y) := by
  have l1 := hma.1
  have l2 := hmb.1
  simp only [F43]
  refine T.idx' (by omega) fun m h1 => T.idx' (by omega) fun m' h2 => T.ret fun e => ?_
  simp only [beq_iff_eq] at e
  subst e
  obtain ⟨u, a, b⟩ := same_of_mark hma hmb h1 h2
  exact ⟨u, u, a, b, rfl⟩
theorem F44_t (hma : Marked g A ma) (hmb : Marked g B mb) {to of : List Int} {x y : Int} (hx : 0 ≤ x ∧ x < A.card) (hy : 0 ≤ y ∧ y < B.card) : T (fun f _ => F44 f x y A.nodes pa (cards A.nodes) (A.plan 0) B.nodes pb (cards B.nodes) (B.plan 0) ma mb to of) (fun r => r = true → Alike A B x y) := by
  simp only [F44]
  refine T.bind (P := fun r => r = true → Alike A B x y) ?_ fun _ h => T.ret h
  exact T.idx' hx fun u h1 => T.idx' hy fun v h2 => T.beq (fun e => T.ret fun _ => ⟨u, v, h1, h2, e⟩) fun _ => T.ret fun q => by cases q
theorem F45_t (hma : Marked g A ma) (hmb : Marked g B mb) {to of : List Int} {x y : Int} (hx : 0 ≤ x ∧ x < A.card) (hy : 0 ≤ y ∧ y < B.card) : T (fun f _ => F45 f x y A.nodes pa (cards A.nodes) (A.plan 0) B.nodes pb (cards B.nodes) (B.plan 0) ma mb to of) (fun r => r = true → Alike A B x y) := by
  simp only [F45]
  exact T.idx' hx fun u h1 => T.idx' hy fun v h2 => T.ret fun e => ⟨u, v, h1, h2, by simpa using e⟩
end
end Go.Proofs.YtabojfgmbfnoiaaGreatDoor
end
section
/- The longest common row; Kids that are paired. GENERATED (gen/matchb.py). -/
set_option linter.unusedVariables false
set_option linter.unusedSimpArgs false
namespace Go.Proofs.YtabojfgmbfnoiaaGreatDoor
/-- A table of small numbers. -/
def Tab (t : List (List Int)) (n m : Nat) : Prop := t.length = n + 1 ∧ ∀ (i : Nat) (row : List Int), t[i]? = some row → row.length = m + 1 ∧ ∀ c ∈ row, 0 ≤ c ∧ c ≤ (n : Int) - i
theorem Tab.get {t : List (List Int)} {n m : Nat} (h : Tab t n m) {i : Int} {row : List Int} (hr : t[i.toNat]? = some row) (i0 : 0 ≤ i) {k : Int} {c : Int} (hc : row[k.toNat]? = some c) : 0 ≤ c ∧ c ≤ n - i := by
  have := (h.2 _ _ hr).2 c (mem_of_get hc); omega
theorem Tab.set {t : List (List Int)} {n m : Nat} (h : Tab t n m) {i : Int} {row : List Int} (hr : t[i.toNat]? = some row) (i0 : 0 ≤ i) {k : Nat} {v : Int} (hv : 0 ≤ v ∧ v ≤ n - i) : Tab (t.set i.toNat (row.set k v)) n m := by
  refine ⟨by rw [List.length_set]; exact h.1, fun j r hj => ?_⟩
  by_cases hji : j = i.toNat
  · subst hji
    rw [List.getElem?_set_self (lt_of_some hr), Option.some.injEq] at hj
    subst hj
    obtain ⟨h1, h2⟩ := h.2 _ _ hr
    refine ⟨by rw [List.length_set]; exact h1, fun c hc => ?_⟩
    rcases List.mem_or_eq_of_mem_set hc with q | q
    · exact h2 c q
    · omega
  · rw [List.getElem?_set_ne (by omega)] at hj
    exact h.2 j r hj
section
variable {A B : Tree} {pa pb ma mb : List Int} {g : Int → Option Tree}
def Pairs (A B : Tree) (xs ys : List Int) (r : List (Int × Int)) : Prop := (r.map Prod.fst).Sublist xs ∧ (r.map Prod.snd).Sublist ys ∧ ∀ p ∈ r, Alike A B p.1 p.2
theorem F47_t (hma : Marked g A ma) (hmb : Marked g B mb) {to of xs ys : List Int} (hxl : xs.length ≤ 20001) (hyl : ys.length ≤ 20001) (hx : ∀ x ∈ xs, 0 ≤ x ∧ x < A.card) (hy : ∀ y ∈ ys, 0 ≤ y ∧ y < B.card) : T (fun f _ => F47 f xs ys A.nodes pa (cards A.nodes) (A.plan 0) B.nodes pb (cards B.nodes) (B.plan 0) ma mb to of) (Pairs A B xs ys) := by
  simp only [F47]
  have e1 : ((xs.length : Int) + 1).toNat = xs.length + 1 := by omega
  have e2 : ((ys.length : Int) + 1).toNat = ys.length + 1 := by omega
  refine T.ck (by omega) (T.req (by omega) ?_)
  refine T.bind (P := fun t => Tab t xs.length ys.length) (T.diag (f := fun f n => F47_l23 f ys ((xs.length : Int) + 1) n (List.replicate ((xs.length : Int) + 1).toNat ([] : List Int)) 0) ?_) fun t0 ht0 => ?_
  · refine T.loop (L := fun f n (s : List (List Int) × Int) => F47_l23 f ys ((xs.length : Int) + 1) n s.1 s.2) (fun s => 0 ≤ s.2 ∧ s.2 ≤ xs.length + 1 ∧ s.1.length = xs.length + 1 ∧ ∀ (j : Nat) (row : List Int), j < s.2 → s.1[j]? = some row → row = List.replicate (ys.length + 1) 0) (fun s => xs.length + 1 - s.2.toNat) ?_ (_, 0) ⟨by simp, by simp only; omega, by show (List.replicate ((xs.length : Int) + 1).toNat ([] : List Int)).length = _; rw [List.length_replicate]; exact e1, fun j row h => absurd h (by simp only; omega)⟩
    rintro ⟨t, i⟩ ⟨i0, i1, h1, h2⟩ rec
    simp only at i0 i1 h1 h2 rec ⊢
    simp only [F47_l23]
    have e3 : (((List.replicate ((xs.length : Int) + 1).toNat ([] : List Int)).length : Nat) : Int) = xs.length + 1 := by rw [List.length_replicate]; omega
    rw [e3]
    refine T.dec (fun q => T.ck (by omega) (T.req (by omega) (T.idx' (by omega) fun z hz => T.ck (by omega) (rec (_, _) ⟨by simp only; omega, by simp only; omega, by simp only [List.length_set]; exact h1, ?_⟩ (by simp only; omega))))) fun q => T.ret ⟨h1, fun i row hr => ?_⟩
    · simp only
      intro j row hj hr
      by_cases hji : j = i.toNat
      · subst hji
        rw [List.getElem?_set_self (by omega), Option.some.injEq, e2] at hr
        exact hr.symm
      · rw [List.getElem?_set_ne (by omega)] at hr
        exact h2 j row (by omega) hr
    · have hi := lt_of_some hr
      have := h2 i row (by omega) hr
      subst this
      refine ⟨List.length_replicate .., fun c hc => ?_⟩
      rw [List.eq_of_mem_replicate hc]; omega
  refine T.bind (P := fun t => Tab t xs.length ys.length) ?_ fun t1 ht1 => ?_
  · refine T.ck (by omega) (T.diag (f := fun f n => F47_l44 f xs ys A.nodes pa (cards A.nodes) (A.plan 0) B.nodes pb (cards B.nodes) (B.plan 0) ma mb to of n t0 ((xs.length : Int) - 1)) ?_)
    refine T.loop (L := fun f n (s : List (List Int) × Int) => F47_l44 f xs ys A.nodes pa (cards A.nodes) (A.plan 0) B.nodes pb (cards B.nodes) (B.plan 0) ma mb to of n s.1 s.2) (fun s => -1 ≤ s.2 ∧ s.2 < xs.length ∧ Tab s.1 xs.length ys.length) (fun s => (s.2 + 1).toNat) ?_ (_, _) ⟨by simp only; omega, by simp only; omega, ht0⟩
    rintro ⟨t, i⟩ ⟨i0, i1, ht⟩ rec
    simp only at i0 i1 ht rec ⊢
    simp only [F47_l44]
    refine T.dec (fun q => ?_) fun q => T.ret ht
    refine T.bind (P := fun t => Tab t xs.length ys.length) ?_ (fun t' ht' => T.ck (by omega) (rec (_, _) ⟨by simp only; omega, by simp only; omega, ht'⟩ (by simp only; omega)))
    refine T.ck (by omega) (T.diag (f := fun f n => F47_l101 f xs ys A.nodes pa (cards A.nodes) (A.plan 0) B.nodes pb (cards B.nodes) (B.plan 0) ma mb to of i n t ((ys.length : Int) - 1)) ?_)
    refine T.loop (L := fun f n (s : List (List Int) × Int) => F47_l101 f xs ys A.nodes pa (cards A.nodes) (A.plan 0) B.nodes pb (cards B.nodes) (B.plan 0) ma mb to of i n s.1 s.2) (fun s => -1 ≤ s.2 ∧ s.2 < ys.length ∧ Tab s.1 xs.length ys.length) (fun s => (s.2 + 1).toNat) ?_ (_, _) ⟨by simp only; omega, by simp only; omega, ht⟩
    rintro ⟨t, k⟩ ⟨k0, k1, ht⟩ rec2
    simp only at k0 k1 ht rec2 ⊢
    simp only [F47_l101]
    refine T.dec (fun q2 => ?_) fun q2 => T.ret ht
    refine T.bind (P := fun t => Tab t xs.length ys.length) ?_ (fun t' ht' => T.ck (by omega) (rec2 (_, _) ⟨by simp only; omega, by simp only; omega, ht'⟩ (by simp only; omega)))
    have tl := ht.1
    refine T.idx' (by omega) fun x hxx => T.idx' (by omega) fun y hyy => T.bind (F43_t hma hmb (hx _ (mem_of_get hxx)) (hy _ (mem_of_get hyy))) fun c _ => T.bif (fun _ => ?_) fun _ => ?_
    · refine T.idx' (by omega) fun r1 h1 => T.ck (by omega) (T.idx' (by omega) fun r2 h2 => ?_)
      have w1 := (ht.2 _ _ h1).1
      have w2 := (ht.2 _ _ h2).1
      refine T.ck (by omega) (T.idx' (by omega) fun v hv => ?_)
      have := ht.get h2 (by omega) hv
      exact T.ck (by omega) (T.idx' (by omega) fun _ _ => T.ret (ht.set h1 (by omega) (by omega)))
    · refine T.idx' (by omega) fun r1 h1 => T.ck (by omega) (T.idx' (by omega) fun r2 h2 => ?_)
      have w1 := (ht.2 _ _ h1).1
      have w2 := (ht.2 _ _ h2).1
      refine T.idx' (by omega) fun v hv => T.ck (by omega) (T.idx' (by omega) fun v2 hv2 => T.idx' (by omega) fun _ _ => T.ret (ht.set h1 (by omega) ?_))
      have := ht.get h2 (by omega) hv
      have := ht.get h1 (by omega) hv2
      split <;> omega
  refine T.bind (P := Pairs A B xs ys) (T.diag (f := fun f n => F47_l149 f xs ys A.nodes pa (cards A.nodes) (A.plan 0) B.nodes pb (cards B.nodes) (B.plan 0) ma mb to of t1 n [] 0 0) ?_) fun _ h => T.ret h
  refine T.loop (L := fun f n (s : List (Int × Int) × Int × Int) => F47_l149 f xs ys A.nodes pa (cards A.nodes) (A.plan 0) B.nodes pb (cards B.nodes) (B.plan 0) ma mb to of t1 n s.1 s.2.1 s.2.2) (fun s => 0 ≤ s.2.1 ∧ s.2.1 ≤ xs.length ∧ 0 ≤ s.2.2 ∧ s.2.2 ≤ ys.length ∧ Pairs A B (xs.take s.2.1.toNat) (ys.take s.2.2.toNat) s.1) (fun s => (xs.length - s.2.1.toNat) + (ys.length - s.2.2.toNat)) ?_ (_, 0, 0) ⟨by simp, by simp, by simp, by simp, by simp, by simp, fun p hp => by cases hp⟩
  rintro ⟨l, i, k⟩ ⟨i0, i1, k0, k1, h1, h2, h3⟩ rec
  simp only at i0 i1 k0 k1 h1 h2 h3 rec ⊢
  simp only [F47_l149]
  have hll := h1.length_le
  rw [List.length_map, List.length_take] at hll
  have hexit : Pairs A B xs ys l := ⟨h1.trans (List.take_sublist _ _), h2.trans (List.take_sublist _ _), h3⟩
  refine T.bbi (T.dec (fun qi => T.bso (T.dec (fun qk => ?_) fun _ => T.ret hexit)) fun _ => T.bso (T.bf (by rfl) (T.ret hexit)))
  have tl := ht1.1
  refine T.bind (P := fun c => c = true → ∀ x y, xs[i.toNat]? = some x → ys[k.toNat]? = some y → Alike A B x y) ?_ fun c hc => T.bif (fun cq => ?_) fun _ => ?_
  · refine T.idx' (by omega) fun x hxx => T.idx' (by omega) fun y hyy => T.bind (F43_t hma hmb (hx _ (mem_of_get hxx)) (hy _ (mem_of_get hyy))) fun c hc => T.bif (fun cq => ?_) fun _ => T.ret (by simp)
    have hal := hc cq
    refine T.mono (P := fun _ => True) ?_ (fun _ _ _ x' y' e e' => by rw [hxx, Option.some.injEq] at e; rw [hyy, Option.some.injEq] at e'; rw [← e, ← e']; exact hal)
    refine T.idx' (by omega) fun r1 w1 => ?_
    have z1 := (ht1.2 _ _ w1).1
    refine T.idx' (by omega) fun v hv => T.ck (by omega) (T.idx' (by omega) fun r2 w2 => ?_)
    have z2 := (ht1.2 _ _ w2).1
    refine T.ck (by omega) (T.idx' (by omega) fun v2 hv2 => ?_)
    have := ht1.get w2 (by omega) hv2
    exact T.ck (by omega) (T.ret trivial)
  · refine T.idx' (by omega) fun x hxx => T.idx' (by omega) fun y hyy => T.req (by rw [one_len]; omega) (T.ck (by omega) (T.ck (by omega) (rec (_, _, _) ⟨by simp only; omega, by simp only; omega, by simp only; omega, by simp only; omega, ?_, ?_, ?_⟩ (by simp only; omega))))
    · simp only
      rw [take_succ' i0 hxx, List.map_append]
      exact h1.append (List.Sublist.refl _)
    · simp only
      rw [take_succ' k0 hyy, List.map_append]
      exact h2.append (List.Sublist.refl _)
    · simp only
      intro p hp
      rcases List.mem_append.1 hp with h | h
      · exact h3 p h
      · rw [List.mem_singleton] at h; subst h
        exact hc cq x y hxx hyy
  · refine T.ck (by omega) (T.idx' (by omega) fun r1 w1 => ?_)
    have z1 := (ht1.2 _ _ w1).1
    refine T.idx' (by omega) fun v hv => T.idx' (by omega) fun r2 w2 => ?_
    have z2 := (ht1.2 _ _ w2).1
    refine T.ck (by omega) (T.idx' (by omega) fun v2 hv2 => T.dec (fun _ => rec (_, _, _) ⟨by simp only; omega, by simp only; omega, k0, k1, ?_, h2, h3⟩ (by simp only; omega)) fun _ => rec (_, _, _) ⟨i0, i1, by simp only; omega, by simp only; omega, h1, ?_, h3⟩ (by simp only; omega))
    · simp only
      exact h1.trans (by rw [show (i + 1).toNat = i.toNat + 1 by omega]; exact List.take_sublist_take_left (by omega))
    · simp only
      exact h2.trans (by rw [show (k + 1).toNat = k.toNat + 1 by omega]; exact List.take_sublist_take_left (by omega))
theorem F47v1_t (hma : Marked g A ma) (hmb : Marked g B mb) {to of xs ys : List Int} (hxl : xs.length ≤ 20001) (hyl : ys.length ≤ 20001) (hx : ∀ x ∈ xs, 0 ≤ x ∧ x < A.card) (hy : ∀ y ∈ ys, 0 ≤ y ∧ y < B.card) : T (fun f _ => F47v1 f xs ys A.nodes pa (cards A.nodes) (A.plan 0) B.nodes pb (cards B.nodes) (B.plan 0) ma mb to of) (Pairs A B xs ys) := by
  simp only [F47v1]
  have e1 : ((xs.length : Int) + 1).toNat = xs.length + 1 := by omega
  have e2 : ((ys.length : Int) + 1).toNat = ys.length + 1 := by omega
  refine T.ck (by omega) (T.req (by omega) ?_)
  refine T.bind (P := fun t => Tab t xs.length ys.length) (T.diag (f := fun f n => F47v1_l23 f ys ((xs.length : Int) + 1) n (List.replicate ((xs.length : Int) + 1).toNat ([] : List Int)) 0) ?_) fun t0 ht0 => ?_
  · refine T.loop (L := fun f n (s : List (List Int) × Int) => F47v1_l23 f ys ((xs.length : Int) + 1) n s.1 s.2) (fun s => 0 ≤ s.2 ∧ s.2 ≤ xs.length + 1 ∧ s.1.length = xs.length + 1 ∧ ∀ (j : Nat) (row : List Int), j < s.2 → s.1[j]? = some row → row = List.replicate (ys.length + 1) 0) (fun s => xs.length + 1 - s.2.toNat) ?_ (_, 0) ⟨by simp, by simp only; omega, by show (List.replicate ((xs.length : Int) + 1).toNat ([] : List Int)).length = _; rw [List.length_replicate]; exact e1, fun j row h => absurd h (by simp only; omega)⟩
    rintro ⟨t, i⟩ ⟨i0, i1, h1, h2⟩ rec
    simp only at i0 i1 h1 h2 rec ⊢
    simp only [F47v1_l23]
    have e3 : (((List.replicate ((xs.length : Int) + 1).toNat ([] : List Int)).length : Nat) : Int) = xs.length + 1 := by rw [List.length_replicate]; omega
    rw [e3]
    refine T.dec (fun q => T.ck (by omega) (T.req (by omega) (T.idx' (by omega) fun z hz => T.ck (by omega) (rec (_, _) ⟨by simp only; omega, by simp only; omega, by simp only [List.length_set]; exact h1, ?_⟩ (by simp only; omega))))) fun q => T.ret ⟨h1, fun i row hr => ?_⟩
    · simp only
      intro j row hj hr
      by_cases hji : j = i.toNat
      · subst hji
        rw [List.getElem?_set_self (by omega), Option.some.injEq, e2] at hr
        exact hr.symm
      · rw [List.getElem?_set_ne (by omega)] at hr
        exact h2 j row (by omega) hr
    · have hi := lt_of_some hr
      have := h2 i row (by omega) hr
      subst this
      refine ⟨List.length_replicate .., fun c hc => ?_⟩
      rw [List.eq_of_mem_replicate hc]; omega
  refine T.bind (P := fun t => Tab t xs.length ys.length) ?_ fun t1 ht1 => ?_
  · refine T.ck (by omega) (T.diag (f := fun f n => F47v1_l44 f xs ys A.nodes pa (cards A.nodes) (A.plan 0) B.nodes pb (cards B.nodes) (B.plan 0) ma mb to of n t0 ((xs.length : Int) - 1)) ?_)
    refine T.loop (L := fun f n (s : List (List Int) × Int) => F47v1_l44 f xs ys A.nodes pa (cards A.nodes) (A.plan 0) B.nodes pb (cards B.nodes) (B.plan 0) ma mb to of n s.1 s.2) (fun s => -1 ≤ s.2 ∧ s.2 < xs.length ∧ Tab s.1 xs.length ys.length) (fun s => (s.2 + 1).toNat) ?_ (_, _) ⟨by simp only; omega, by simp only; omega, ht0⟩
    rintro ⟨t, i⟩ ⟨i0, i1, ht⟩ rec
    simp only at i0 i1 ht rec ⊢
    simp only [F47v1_l44]
    refine T.dec (fun q => ?_) fun q => T.ret ht
    refine T.bind (P := fun t => Tab t xs.length ys.length) ?_ (fun t' ht' => T.ck (by omega) (rec (_, _) ⟨by simp only; omega, by simp only; omega, ht'⟩ (by simp only; omega)))
    refine T.ck (by omega) (T.diag (f := fun f n => F47v1_l101 f xs ys A.nodes pa (cards A.nodes) (A.plan 0) B.nodes pb (cards B.nodes) (B.plan 0) ma mb to of i n t ((ys.length : Int) - 1)) ?_)
    refine T.loop (L := fun f n (s : List (List Int) × Int) => F47v1_l101 f xs ys A.nodes pa (cards A.nodes) (A.plan 0) B.nodes pb (cards B.nodes) (B.plan 0) ma mb to of i n s.1 s.2) (fun s => -1 ≤ s.2 ∧ s.2 < ys.length ∧ Tab s.1 xs.length ys.length) (fun s => (s.2 + 1).toNat) ?_ (_, _) ⟨by simp only; omega, by simp only; omega, ht⟩
    rintro ⟨t, k⟩ ⟨k0, k1, ht⟩ rec2
    simp only at k0 k1 ht rec2 ⊢
    simp only [F47v1_l101]
    refine T.dec (fun q2 => ?_) fun q2 => T.ret ht
    refine T.bind (P := fun t => Tab t xs.length ys.length) ?_ (fun t' ht' => T.ck (by omega) (rec2 (_, _) ⟨by simp only; omega, by simp only; omega, ht'⟩ (by simp only; omega)))
    have tl := ht.1
    refine T.idx' (by omega) fun x hxx => T.idx' (by omega) fun y hyy => T.bind (F44_t hma hmb (hx _ (mem_of_get hxx)) (hy _ (mem_of_get hyy))) fun c _ => T.bif (fun _ => ?_) fun _ => ?_
    · refine T.idx' (by omega) fun r1 h1 => T.ck (by omega) (T.idx' (by omega) fun r2 h2 => ?_)
      have w1 := (ht.2 _ _ h1).1
      have w2 := (ht.2 _ _ h2).1
      refine T.ck (by omega) (T.idx' (by omega) fun v hv => ?_)
      have := ht.get h2 (by omega) hv
      exact T.ck (by omega) (T.idx' (by omega) fun _ _ => T.ret (ht.set h1 (by omega) (by omega)))
    · refine T.idx' (by omega) fun r1 h1 => T.ck (by omega) (T.idx' (by omega) fun r2 h2 => ?_)
      have w1 := (ht.2 _ _ h1).1
      have w2 := (ht.2 _ _ h2).1
      refine T.idx' (by omega) fun v hv => T.ck (by omega) (T.idx' (by omega) fun v2 hv2 => T.idx' (by omega) fun _ _ => T.ret (ht.set h1 (by omega) ?_))
      have := ht.get h2 (by omega) hv
      have := ht.get h1 (by omega) hv2
      split <;> omega
  refine T.bind (P := Pairs A B xs ys) (T.diag (f := fun f n => F47v1_l149 f xs ys A.nodes pa (cards A.nodes) (A.plan 0) B.nodes pb (cards B.nodes) (B.plan 0) ma mb to of t1 n [] 0 0) ?_) fun _ h => T.ret h
  refine T.loop (L := fun f n (s : List (Int × Int) × Int × Int) => F47v1_l149 f xs ys A.nodes pa (cards A.nodes) (A.plan 0) B.nodes pb (cards B.nodes) (B.plan 0) ma mb to of t1 n s.1 s.2.1 s.2.2) (fun s => 0 ≤ s.2.1 ∧ s.2.1 ≤ xs.length ∧ 0 ≤ s.2.2 ∧ s.2.2 ≤ ys.length ∧ Pairs A B (xs.take s.2.1.toNat) (ys.take s.2.2.toNat) s.1) (fun s => (xs.length - s.2.1.toNat) + (ys.length - s.2.2.toNat)) ?_ (_, 0, 0) ⟨by simp, by simp, by simp, by simp, by simp, by simp, fun p hp => by cases hp⟩
  rintro ⟨l, i, k⟩ ⟨i0, i1, k0, k1, h1, h2, h3⟩ rec
  simp only at i0 i1 k0 k1 h1 h2 h3 rec ⊢
  simp only [F47v1_l149]
  have hll := h1.length_le
  rw [List.length_map, List.length_take] at hll
  have hexit : Pairs A B xs ys l := ⟨h1.trans (List.take_sublist _ _), h2.trans (List.take_sublist _ _), h3⟩
  refine T.bbi (T.dec (fun qi => T.bso (T.dec (fun qk => ?_) fun _ => T.ret hexit)) fun _ => T.bso (T.bf (by rfl) (T.ret hexit)))
  have tl := ht1.1
  refine T.bind (P := fun c => c = true → ∀ x y, xs[i.toNat]? = some x → ys[k.toNat]? = some y → Alike A B x y) ?_ fun c hc => T.bif (fun cq => ?_) fun _ => ?_
  · refine T.idx' (by omega) fun x hxx => T.idx' (by omega) fun y hyy => T.bind (F44_t hma hmb (hx _ (mem_of_get hxx)) (hy _ (mem_of_get hyy))) fun c hc => T.bif (fun cq => ?_) fun _ => T.ret (by simp)
    have hal := hc cq
    refine T.mono (P := fun _ => True) ?_ (fun _ _ _ x' y' e e' => by rw [hxx, Option.some.injEq] at e; rw [hyy, Option.some.injEq] at e'; rw [← e, ← e']; exact hal)
    refine T.idx' (by omega) fun r1 w1 => ?_
    have z1 := (ht1.2 _ _ w1).1
    refine T.idx' (by omega) fun v hv => T.ck (by omega) (T.idx' (by omega) fun r2 w2 => ?_)
    have z2 := (ht1.2 _ _ w2).1
    refine T.ck (by omega) (T.idx' (by omega) fun v2 hv2 => ?_)
    have := ht1.get w2 (by omega) hv2
    exact T.ck (by omega) (T.ret trivial)
  · refine T.idx' (by omega) fun x hxx => T.idx' (by omega) fun y hyy => T.req (by rw [one_len]; omega) (T.ck (by omega) (T.ck (by omega) (rec (_, _, _) ⟨by simp only; omega, by simp only; omega, by simp only; omega, by simp only; omega, ?_, ?_, ?_⟩ (by simp only; omega))))
    · simp only
      rw [take_succ' i0 hxx, List.map_append]
      exact h1.append (List.Sublist.refl _)
    · simp only
      rw [take_succ' k0 hyy, List.map_append]
      exact h2.append (List.Sublist.refl _)
    · simp only
      intro p hp
      rcases List.mem_append.1 hp with h | h
      · exact h3 p h
      · rw [List.mem_singleton] at h; subst h
        exact hc cq x y hxx hyy
  · refine T.ck (by omega) (T.idx' (by omega) fun r1 w1 => ?_)
    have z1 := (ht1.2 _ _ w1).1
    refine T.idx' (by omega) fun v hv => T.idx' (by omega) fun r2 w2 => ?_
    have z2 := (ht1.2 _ _ w2).1
    refine T.ck (by omega) (T.idx' (by omega) fun v2 hv2 => T.dec (fun _ => rec (_, _, _) ⟨by simp only; omega, by simp only; omega, k0, k1, ?_, h2, h3⟩ (by simp only; omega)) fun _ => rec (_, _, _) ⟨i0, i1, by simp only; omega, by simp only; omega, h1, ?_, h3⟩ (by simp only; omega))
    · simp only
      exact h1.trans (by rw [show (i + 1).toNat = i.toNat + 1 by omega]; exact List.take_sublist_take_left (by omega))
    · simp only
      exact h2.trans (by rw [show (k + 1).toNat = k.toNat + 1 by omega]; exact List.take_sublist_take_left (by omega))
theorem F47v2_t (hma : Marked g A ma) (hmb : Marked g B mb) {to of xs ys : List Int} (hxl : xs.length ≤ 20001) (hyl : ys.length ≤ 20001) (hx : ∀ x ∈ xs, 0 ≤ x ∧ x < A.card) (hy : ∀ y ∈ ys, 0 ≤ y ∧ y < B.card) : T (fun f _ => F47v2 f xs ys A.nodes pa (cards A.nodes) (A.plan 0) B.nodes pb (cards B.nodes) (B.plan 0) ma mb to of) (Pairs A B xs ys) := by
  simp only [F47v2]
  have e1 : ((xs.length : Int) + 1).toNat = xs.length + 1 := by omega
  have e2 : ((ys.length : Int) + 1).toNat = ys.length + 1 := by omega
  refine T.ck (by omega) (T.req (by omega) ?_)
  refine T.bind (P := fun t => Tab t xs.length ys.length) (T.diag (f := fun f n => F47v2_l23 f ys ((xs.length : Int) + 1) n (List.replicate ((xs.length : Int) + 1).toNat ([] : List Int)) 0) ?_) fun t0 ht0 => ?_
  · refine T.loop (L := fun f n (s : List (List Int) × Int) => F47v2_l23 f ys ((xs.length : Int) + 1) n s.1 s.2) (fun s => 0 ≤ s.2 ∧ s.2 ≤ xs.length + 1 ∧ s.1.length = xs.length + 1 ∧ ∀ (j : Nat) (row : List Int), j < s.2 → s.1[j]? = some row → row = List.replicate (ys.length + 1) 0) (fun s => xs.length + 1 - s.2.toNat) ?_ (_, 0) ⟨by simp, by simp only; omega, by show (List.replicate ((xs.length : Int) + 1).toNat ([] : List Int)).length = _; rw [List.length_replicate]; exact e1, fun j row h => absurd h (by simp only; omega)⟩
    rintro ⟨t, i⟩ ⟨i0, i1, h1, h2⟩ rec
    simp only at i0 i1 h1 h2 rec ⊢
    simp only [F47v2_l23]
    have e3 : (((List.replicate ((xs.length : Int) + 1).toNat ([] : List Int)).length : Nat) : Int) = xs.length + 1 := by rw [List.length_replicate]; omega
    rw [e3]
    refine T.dec (fun q => T.ck (by omega) (T.req (by omega) (T.idx' (by omega) fun z hz => T.ck (by omega) (rec (_, _) ⟨by simp only; omega, by simp only; omega, by simp only [List.length_set]; exact h1, ?_⟩ (by simp only; omega))))) fun q => T.ret ⟨h1, fun i row hr => ?_⟩
    · simp only
      intro j row hj hr
      by_cases hji : j = i.toNat
      · subst hji
        rw [List.getElem?_set_self (by omega), Option.some.injEq, e2] at hr
        exact hr.symm
      · rw [List.getElem?_set_ne (by omega)] at hr
        exact h2 j row (by omega) hr
    · have hi := lt_of_some hr
      have := h2 i row (by omega) hr
      subst this
      refine ⟨List.length_replicate .., fun c hc => ?_⟩
      rw [List.eq_of_mem_replicate hc]; omega
  refine T.bind (P := fun t => Tab t xs.length ys.length) ?_ fun t1 ht1 => ?_
  · refine T.ck (by omega) (T.diag (f := fun f n => F47v2_l44 f xs ys A.nodes pa (cards A.nodes) (A.plan 0) B.nodes pb (cards B.nodes) (B.plan 0) ma mb to of n t0 ((xs.length : Int) - 1)) ?_)
    refine T.loop (L := fun f n (s : List (List Int) × Int) => F47v2_l44 f xs ys A.nodes pa (cards A.nodes) (A.plan 0) B.nodes pb (cards B.nodes) (B.plan 0) ma mb to of n s.1 s.2) (fun s => -1 ≤ s.2 ∧ s.2 < xs.length ∧ Tab s.1 xs.length ys.length) (fun s => (s.2 + 1).toNat) ?_ (_, _) ⟨by simp only; omega, by simp only; omega, ht0⟩
    rintro ⟨t, i⟩ ⟨i0, i1, ht⟩ rec
    simp only at i0 i1 ht rec ⊢
    simp only [F47v2_l44]
    refine T.dec (fun q => ?_) fun q => T.ret ht
    refine T.bind (P := fun t => Tab t xs.length ys.length) ?_ (fun t' ht' => T.ck (by omega) (rec (_, _) ⟨by simp only; omega, by simp only; omega, ht'⟩ (by simp only; omega)))
    refine T.ck (by omega) (T.diag (f := fun f n => F47v2_l101 f xs ys A.nodes pa (cards A.nodes) (A.plan 0) B.nodes pb (cards B.nodes) (B.plan 0) ma mb to of i n t ((ys.length : Int) - 1)) ?_)
    refine T.loop (L := fun f n (s : List (List Int) × Int) => F47v2_l101 f xs ys A.nodes pa (cards A.nodes) (A.plan 0) B.nodes pb (cards B.nodes) (B.plan 0) ma mb to of i n s.1 s.2) (fun s => -1 ≤ s.2 ∧ s.2 < ys.length ∧ Tab s.1 xs.length ys.length) (fun s => (s.2 + 1).toNat) ?_ (_, _) ⟨by simp only; omega, by simp only; omega, ht⟩
    rintro ⟨t, k⟩ ⟨k0, k1, ht⟩ rec2
    simp only at k0 k1 ht rec2 ⊢
    simp only [F47v2_l101]
    refine T.dec (fun q2 => ?_) fun q2 => T.ret ht
    refine T.bind (P := fun t => Tab t xs.length ys.length) ?_ (fun t' ht' => T.ck (by omega) (rec2 (_, _) ⟨by simp only; omega, by simp only; omega, ht'⟩ (by simp only; omega)))
    have tl := ht.1
    refine T.idx' (by omega) fun x hxx => T.idx' (by omega) fun y hyy => T.bind (F45_t hma hmb (hx _ (mem_of_get hxx)) (hy _ (mem_of_get hyy))) fun c _ => T.bif (fun _ => ?_) fun _ => ?_
    · refine T.idx' (by omega) fun r1 h1 => T.ck (by omega) (T.idx' (by omega) fun r2 h2 => ?_)
      have w1 := (ht.2 _ _ h1).1
      have w2 := (ht.2 _ _ h2).1
      refine T.ck (by omega) (T.idx' (by omega) fun v hv => ?_)
      have := ht.get h2 (by omega) hv
      exact T.ck (by omega) (T.idx' (by omega) fun _ _ => T.ret (ht.set h1 (by omega) (by omega)))
    · refine T.idx' (by omega) fun r1 h1 => T.ck (by omega) (T.idx' (by omega) fun r2 h2 => ?_)
      have w1 := (ht.2 _ _ h1).1
      have w2 := (ht.2 _ _ h2).1
      refine T.idx' (by omega) fun v hv => T.ck (by omega) (T.idx' (by omega) fun v2 hv2 => T.idx' (by omega) fun _ _ => T.ret (ht.set h1 (by omega) ?_))
      have := ht.get h2 (by omega) hv
      have := ht.get h1 (by omega) hv2
      split <;> omega
  refine T.bind (P := Pairs A B xs ys) (T.diag (f := fun f n => F47v2_l149 f xs ys A.nodes pa (cards A.nodes) (A.plan 0) B.nodes pb (cards B.nodes) (B.plan 0) ma mb to of t1 n [] 0 0) ?_) fun _ h => T.ret h
  refine T.loop (L := fun f n (s : List (Int × Int) × Int × Int) => F47v2_l149 f xs ys A.nodes pa (cards A.nodes) (A.plan 0) B.nodes pb (cards B.nodes) (B.plan 0) ma mb to of t1 n s.1 s.2.1 s.2.2) (fun s => 0 ≤ s.2.1 ∧ s.2.1 ≤ xs.length ∧ 0 ≤ s.2.2 ∧ s.2.2 ≤ ys.length ∧ Pairs A B (xs.take s.2.1.toNat) (ys.take s.2.2.toNat) s.1) (fun s => (xs.length - s.2.1.toNat) + (ys.length - s.2.2.toNat)) ?_ (_, 0, 0) ⟨by simp, by simp, by simp, by simp, by simp, by simp, fun p hp => by cases hp⟩
  rintro ⟨l, i, k⟩ ⟨i0, i1, k0, k1, h1, h2, h3⟩ rec
  simp only at i0 i1 k0 k1 h1 h2 h3 rec ⊢
  simp only [F47v2_l149]
  have hll := h1.length_le
  rw [List.length_map, List.length_take] at hll
  have hexit : Pairs A B xs ys l := ⟨h1.trans (List.take_sublist _ _), h2.trans (List.take_sublist _ _), h3⟩
  refine T.bbi (T.dec (fun qi => T.bso (T.dec (fun qk => ?_) fun _ => T.ret hexit)) fun _ => T.bso (T.bf (by rfl) (T.ret hexit)))
  have tl := ht1.1
  refine T.bind (P := fun c => c = true → ∀ x y, xs[i.toNat]? = some x → ys[k.toNat]? = some y → Alike A B x y) ?_ fun c hc => T.bif (fun cq => ?_) fun _ => ?_
  · refine T.idx' (by omega) fun x hxx => T.idx' (by omega) fun y hyy => T.bind (F45_t hma hmb (hx _ (mem_of_get hxx)) (hy _ (mem_of_get hyy))) fun c hc => T.bif (fun cq => ?_) fun _ => T.ret (by simp)
    have hal := hc cq
    refine T.mono (P := fun _ => True) ?_ (fun _ _ _ x' y' e e' => by rw [hxx, Option.some.injEq] at e; rw [hyy, Option.some.injEq] at e'; rw [← e, ← e']; exact hal)
    refine T.idx' (by omega) fun r1 w1 => ?_
    have z1 := (ht1.2 _ _ w1).1
    refine T.idx' (by omega) fun v hv => T.ck (by omega) (T.idx' (by omega) fun r2 w2 => ?_)
    have z2 := (ht1.2 _ _ w2).1
    refine T.ck (by omega) (T.idx' (by omega) fun v2 hv2 => ?_)
    have := ht1.get w2 (by omega) hv2
    exact T.ck (by omega) (T.ret trivial)
  · refine T.idx' (by omega) fun x hxx => T.idx' (by omega) fun y hyy => T.req (by rw [one_len]; omega) (T.ck (by omega) (T.ck (by omega) (rec (_, _, _) ⟨by simp only; omega, by simp only; omega, by simp only; omega, by simp only; omega, ?_, ?_, ?_⟩ (by simp only; omega))))
    · simp only
      rw [take_succ' i0 hxx, List.map_append]
      exact h1.append (List.Sublist.refl _)
    · simp only
      rw [take_succ' k0 hyy, List.map_append]
      exact h2.append (List.Sublist.refl _)
    · simp only
      intro p hp
      rcases List.mem_append.1 hp with h | h
      · exact h3 p h
      · rw [List.mem_singleton] at h; subst h
        exact hc cq x y hxx hyy
  · refine T.ck (by omega) (T.idx' (by omega) fun r1 w1 => ?_)
    have z1 := (ht1.2 _ _ w1).1
    refine T.idx' (by omega) fun v hv => T.idx' (by omega) fun r2 w2 => ?_
    have z2 := (ht1.2 _ _ w2).1
    refine T.ck (by omega) (T.idx' (by omega) fun v2 hv2 => T.dec (fun _ => rec (_, _, _) ⟨by simp only; omega, by simp only; omega, k0, k1, ?_, h2, h3⟩ (by simp only; omega)) fun _ => rec (_, _, _) ⟨i0, i1, by simp only; omega, by simp only; omega, h1, ?_, h3⟩ (by simp only; omega))
    · simp only
      exact h1.trans (by rw [show (i + 1).toNat = i.toNat + 1 by omega]; exact List.take_sublist_take_left (by omega))
    · simp only
      exact h2.trans (by rw [show (k + 1).toNat = k.toNat + 1 by omega]; exact List.take_sublist_take_left (by omega))
end
end Go.Proofs.YtabojfgmbfnoiaaGreatDoor
end
