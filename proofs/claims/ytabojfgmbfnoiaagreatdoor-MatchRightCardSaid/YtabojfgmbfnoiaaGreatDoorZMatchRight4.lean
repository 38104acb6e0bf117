/- Proof of MatchRight, part 4 of 6: what the functions compute, and that it answers. -/
import Derived.Test.YtabojfgmbfnoiaaGreatDoorZMatchRight3
section
/- What the functions compute, and that they do (2). GENERATED. -/
set_option linter.unusedVariables false
set_option maxRecDepth 100000
set_option maxHeartbeats 4000000
namespace Go.Proofs.YtabojfgmbfnoiaaGreatDoor
open Go.Proofs.Tryz
theorem F74v5_ok {w0 : World} (hG : Globs w0) (fuel : Nat) : ∀ (a1 : List Tree) (a5 : List Int) (a8 : List Int) (b2 : Hnd) (b3 : Nat) (q4 : Hnd) (b6 : Nat) (q7 : Hnd) {r : Bool} (e0 : F74v5 fuel a1 a5 a8 = some r), Fn w0 prog 74 [.isl .node a1, .val (sl b2)] [ownA (sl b2) 26 .val [(.func (.func 75) #[] #[]), (.func (.func 83) #[] #[.pointer (some ⟨b3, 0, none⟩)]), (.func (.func 83) #[] #[.pointer (some ⟨b6, 0, none⟩)])], boxA b3 28 [.val (sl q4)], ownA (sl q4) 3 .int a5, boxA b6 28 [.val (sl q7)], ownA (sl q7) 3 .int a8] (fun s H => s = sB r ∧ H = [ownA (sl b2) 26 .val [(.func (.func 75) #[] #[]), (.func (.func 83) #[] #[.pointer (some ⟨b3, 0, none⟩)]), (.func (.func 83) #[] #[.pointer (some ⟨b6, 0, none⟩)])], boxA b3 28 [.val (sl q4)], ownA (sl q4) 3 .int a5, boxA b6 28 [.val (sl q7)], ownA (sl q7) 3 .int a8]) := by
 intro a1 a5 a8 b2 b3 q4 b6 q7 r e0
 rw [F74v5] at e0
 refine fn_intro2 27 [.tmp 4] func74 rfl rfl rfl rfl fun X hX F => ?_
 refine C_turn (T_start [(0, .isl .node a1), (1, .val (sl b2))] rfl (ownA (sl b2) 26 .val [(.func (.func 75) #[] #[]), (.func (.func 83) #[] #[.pointer (some ⟨b3, 0, none⟩)]), (.func (.func 83) #[] #[.pointer (some ⟨b6, 0, none⟩)])] :: boxA b3 28 [.val (sl q4)] :: ownA (sl q4) 3 .int a5 :: boxA b6 28 [.val (sl q7)] :: ownA (sl q7) 3 .int a8 :: F) rfl) ?_
 refine gs ?_
 refine C_seq ?_
 refine gs ?_
 refine W rfl (O_len_own (k := .val) tyl_138 rfl ?_)
 refine go ?_
 refine C_cd rfl e0 (fun e0 => ?_) (fun e0 => ?_)
 refine gs ?_
 obtain rfl := so e0
 refine go ?_
 exact rt [0, 0, 0, 0, 0] 0 ⟨rfl, rfl⟩ rfl rfl
 refine go ?_
 obtain ⟨o10,e1,e0⟩:=be e0
 refine C_cut (ι := Unit) (fun i => []) (fun i => ownA (sl b2) 26 .val [(.func (.func 75) #[] #[]), (.func (.func 83) #[] #[.pointer (some ⟨b3, 0, none⟩)]), (.func (.func 83) #[] #[.pointer (some ⟨b6, 0, none⟩)])] :: boxA b3 28 [.val (sl q4)] :: ownA (sl q4) 3 .int a5 :: boxA b6 28 [.val (sl q7)] :: ownA (sl q7) 3 .int a8 :: F) (fun i => o10 = .inl ()) ?_ ?_
 refine gs ?_
 refine W rfl (O_len_own (k := .val) tyl_138 rfl ?_)
 refine go ?_
 refine C_loopF (κ := Int) (fun d => [(0, .isl .node a1), (12, .val (sl b2)), (13, sI (3 : Int)), (14, sI d)]) (fun d => ownA (sl b2) 26 .val [(.func (.func 75) #[] #[]), (.func (.func 83) #[] #[.pointer (some ⟨b3, 0, none⟩)]), (.func (.func 83) #[] #[.pointer (some ⟨b6, 0, none⟩)])] :: boxA b3 28 [.val (sl q4)] :: ownA (sl q4) 3 .int a5 :: boxA b6 28 [.val (sl q7)] :: ownA (sl q7) 3 .int a8 :: F) (fun n d => F74v5_l11 fuel a1 a5 a8 n d) o10 fuel (0 : Int) e1 (tl [0, 0, 0, 0, 0] 0 rfl rfl) (fun _ => rfl) ?_
 rintro n y12 hF
 have e1 : F74v5_l11 fuel a1 a5 a8 (n + 1) y12 = some o10 := hF
 rw [F74v5_l11] at e1
 clear hF
 refine gs ?_
 refine C_seq ?_
 refine C_cd rfl e1 (fun e1 => ?_) (fun e1 => ?_)
 refine go ?_
 refine gs ?_
 refine gs ?_
 obtain ⟨h14, e1⟩ := req_e e1
 refine W rfl (O_indexAddr_own (k := .val) tyL_138 rfl rfl h14.1 (by exact vlt rfl h14.2) ?_)
 obtain ⟨hg15, e1⟩ | ⟨hg15, e1⟩ := bc e1
 refine W rfl (O_load_opt (k := .val) (i := 0) (j := 0) ty1_26 rfl (vix hg15) rfl rfl ?_)
 refine go ?_
 refine gs ?_
 obtain ⟨x16,w16,e1⟩:=be e1
 refine W rfl (O_indexAddr (k := .node) (z := x16) tyL_22 rfl rfl (idx_e w16).1 (idx_e w16).2 ?_)
 refine W rfl (O_load_ipt_all (k := .node) tyA_24 rfl ?_)
 obtain ⟨r17,hr17,e1⟩:=be e1
 refine W rfl (O_callV0 (ss := [.agg [sI x16.kind, sS x16.text, sS x16.trail, .isl .node x16.kids]]) (F := ownA (sl b2) 26 .val [(.func (.func 75) #[] #[]), (.func (.func 83) #[] #[.pointer (some ⟨b3, 0, none⟩)]), (.func (.func 83) #[] #[.pointer (some ⟨b6, 0, none⟩)])] :: boxA b3 28 [.val (sl q4)] :: ownA (sl q4) 3 .int a5 :: boxA b6 28 [.val (sl q7)] :: ownA (sl q7) 3 .int a8 :: F) rfl fn_75 rfl (F75_ok hG fuel x16 hr17) (sel_perm [] _) ?_)
 refine go ?_
 refine C_cd rfl e1 (fun e1 => ?_) (fun e1 => ?_)
 refine gs ?_
 obtain rfl := so e1
 obtain rfl := so e0
 refine go ?_
 exact rt [0, 0, 0, 0, 0] 0 ⟨rfl, rfl⟩ rfl rfl
 refine go ?_
 obtain ⟨x19,w19,e1⟩:=be e1
 refine W rfl (O_arI rfl rfl rfl (ck_e w19).2 (W_re (congrArg sI (ck_e w19).1) ?_))
 refine go ?_
 exact jmpL x19 e1 (tl [0, 0, 0, 0, 0] 0 rfl rfl)
 obtain ⟨hg20, e1⟩ | ⟨hg20, e1⟩ := bc e1
 refine W rfl (O_load_opt (k := .val) (i := 1) (j := 0) ty1_26 rfl (vix hg20) rfl rfl ?_)
 refine go ?_
 refine gs ?_
 obtain ⟨x21,w21,e1⟩:=be e1
 refine W rfl (O_indexAddr (k := .node) (z := x21) tyL_22 rfl rfl (idx_e w21).1 (idx_e w21).2 ?_)
 refine W rfl (O_load_ipt_all (k := .node) tyA_24 rfl ?_)
 obtain ⟨r22,hr22,e1⟩:=be e1
 refine W rfl (O_callV0 (ss := [.agg [sI x21.kind, sS x21.text, sS x21.trail, .isl .node x21.kids]]) (F := ownA (sl b2) 26 .val [(.func (.func 75) #[] #[]), (.func (.func 83) #[] #[.pointer (some ⟨b3, 0, none⟩)]), (.func (.func 83) #[] #[.pointer (some ⟨b6, 0, none⟩)])] :: boxA b6 28 [.val (sl q7)] :: ownA (sl q7) 3 .int a8 :: F) rfl fn_83 rfl (F83_ok hG fuel x21 a5 b3 q4 hr22) (sel_perm [1, 1] _) ?_)
 refine go ?_
 refine C_cd rfl e1 (fun e1 => ?_) (fun e1 => ?_)
 refine gs ?_
 obtain rfl := so e1
 obtain rfl := so e0
 refine go ?_
 exact rt [2, 0, 0, 0, 0] 0 ⟨rfl, rfl⟩ rfl rfl
 refine go ?_
 obtain ⟨x24,w24,e1⟩:=be e1
 refine W rfl (O_arI rfl rfl rfl (ck_e w24).2 (W_re (congrArg sI (ck_e w24).1) ?_))
 refine go ?_
 exact jmpL x24 e1 (tl [2, 0, 0, 0, 0] 0 rfl rfl)
 obtain ⟨hg25, e1⟩ | ⟨hg25, e1⟩ := bc e1
 refine W rfl (O_load_opt (k := .val) (i := 2) (j := 0) ty1_26 rfl (vix hg25) rfl rfl ?_)
 refine go ?_
 refine gs ?_
 obtain ⟨x26,w26,e1⟩:=be e1
 refine W rfl (O_indexAddr (k := .node) (z := x26) tyL_22 rfl rfl (idx_e w26).1 (idx_e w26).2 ?_)
 refine W rfl (O_load_ipt_all (k := .node) tyA_24 rfl ?_)
 obtain ⟨r27,hr27,e1⟩:=be e1
 refine W rfl (O_callV0 (ss := [.agg [sI x26.kind, sS x26.text, sS x26.trail, .isl .node x26.kids]]) (F := ownA (sl b2) 26 .val [(.func (.func 75) #[] #[]), (.func (.func 83) #[] #[.pointer (some ⟨b3, 0, none⟩)]), (.func (.func 83) #[] #[.pointer (some ⟨b6, 0, none⟩)])] :: boxA b3 28 [.val (sl q4)] :: ownA (sl q4) 3 .int a5 :: F) rfl fn_83 rfl (F83_ok hG fuel x26 a8 b6 q7 hr27) (sel_perm [3, 3] _) ?_)
 refine go ?_
 refine C_cd rfl e1 (fun e1 => ?_) (fun e1 => ?_)
 refine gs ?_
 obtain rfl := so e1
 obtain rfl := so e0
 refine go ?_
 exact rt [2, 2, 2, 0, 0] 0 ⟨rfl, rfl⟩ rfl rfl
 refine go ?_
 obtain ⟨x29,w29,e1⟩:=be e1
 refine W rfl (O_arI rfl rfl rfl (ck_e w29).2 (W_re (congrArg sI (ck_e w29).1) ?_))
 refine go ?_
 exact jmpL x29 e1 (tl [2, 2, 2, 0, 0] 0 rfl rfl)
 cases e1
 refine go ?_
 obtain rfl := so e1
 exact jmp () rfl (tl [0, 0, 0, 0, 0] 0 rfl rfl)
 rintro ⟨⟩ hi
 subst hi
 have e0 := elim_l e0
 refine gs ?_
 obtain rfl := so e0
 refine go ?_
 exact rt [0, 0, 0, 0, 0] 0 ⟨rfl, rfl⟩ rfl rfl
def F74v6_l10 (fuel : Nat) (a1 : List Tree) (a7 : List Int) : Nat → Int → Option ((Unit ⊕ Bool))
 | 0, _ => none
 | n + 1, y11 =>
 bif (decide (y11 < (2 : Int))) then (
 if 0 ≤ y11 ∧ y11 < ((2 : Nat) : Int) then (
 bif (y11 == (0 : Int)) then (
 (idx a1 y11).bind fun x15 =>
 (F106v1 fuel x15).bind fun r16 =>
 bif (!r16) then (
 some (.inr false)) else (
 (ck (y11 + (1 : Int))).bind fun x18 =>
 F74v6_l10 fuel a1 a7 n x18)) else (
 bif (y11 == (1 : Int)) then (
 (idx a1 y11).bind fun x20 =>
 (F83 fuel x20 a7).bind fun r21 =>
 bif (!r21) then (
 some (.inr false)) else (
 (ck (y11 + (1 : Int))).bind fun x23 =>
 F74v6_l10 fuel a1 a7 n x23)) else (
 none))) else none) else (
 some (.inl ()))
def F74v6 (fuel : Nat) (a1 : List Tree) (a7 : List Int) : Option (Bool) :=
 bif ((a1.length : Int) != (2 : Int)) then (
 some false) else (
 Option.bind (α := (Unit ⊕ Bool)) (
 F74v6_l10 fuel a1 a7 fuel (0 : Int)) (Sum.elim (fun i9 =>
 some true) (fun z => some z)))
theorem F74v6_ok {w0 : World} (hG : Globs w0) (fuel : Nat) : ∀ (a1 : List Tree) (a7 : List Int) (b2 : Hnd) (b3 : Nat) (b4 : Hnd) (b5 : Nat) (q6 : Hnd) {r : Bool} (e0 : F74v6 fuel a1 a7 = some r), Fn w0 prog 74 [.isl .node a1, .val (sl b2)] [ownA (sl b2) 26 .val [(.func (.func 106) #[] #[.pointer (some ⟨b3, 0, none⟩)]), (.func (.func 83) #[] #[.pointer (some ⟨b5, 0, none⟩)])], boxA b3 138 [.val (sl b4)], ownA (sl b4) 26 .val [(.func (.func 75) #[] #[]), (.func (.func 78) #[] #[])], boxA b5 28 [.val (sl q6)], ownA (sl q6) 3 .int a7] (fun s H => s = sB r ∧ H = [ownA (sl b2) 26 .val [(.func (.func 106) #[] #[.pointer (some ⟨b3, 0, none⟩)]), (.func (.func 83) #[] #[.pointer (some ⟨b5, 0, none⟩)])], boxA b3 138 [.val (sl b4)], ownA (sl b4) 26 .val [(.func (.func 75) #[] #[]), (.func (.func 78) #[] #[])], boxA b5 28 [.val (sl q6)], ownA (sl q6) 3 .int a7]) := by
 intro a1 a7 b2 b3 b4 b5 q6 r e0
 rw [F74v6] at e0
 refine fn_intro2 27 [.tmp 4] func74 rfl rfl rfl rfl fun X hX F => ?_
 refine C_turn (T_start [(0, .isl .node a1), (1, .val (sl b2))] rfl (ownA (sl b2) 26 .val [(.func (.func 106) #[] #[.pointer (some ⟨b3, 0, none⟩)]), (.func (.func 83) #[] #[.pointer (some ⟨b5, 0, none⟩)])] :: boxA b3 138 [.val (sl b4)] :: ownA (sl b4) 26 .val [(.func (.func 75) #[] #[]), (.func (.func 78) #[] #[])] :: boxA b5 28 [.val (sl q6)] :: ownA (sl q6) 3 .int a7 :: F) rfl) ?_
 refine gs ?_
 refine C_seq ?_
 refine gs ?_
 refine W rfl (O_len_own (k := .val) tyl_138 rfl ?_)
 refine go ?_
 refine C_cd rfl e0 (fun e0 => ?_) (fun e0 => ?_)
 refine gs ?_
 obtain rfl := so e0
 refine go ?_
 exact rt [0, 0, 0, 0, 0] 0 ⟨rfl, rfl⟩ rfl rfl
 refine go ?_
 obtain ⟨o9,e1,e0⟩:=be e0
 refine C_cut (ι := Unit) (fun i => []) (fun i => ownA (sl b2) 26 .val [(.func (.func 106) #[] #[.pointer (some ⟨b3, 0, none⟩)]), (.func (.func 83) #[] #[.pointer (some ⟨b5, 0, none⟩)])] :: boxA b3 138 [.val (sl b4)] :: ownA (sl b4) 26 .val [(.func (.func 75) #[] #[]), (.func (.func 78) #[] #[])] :: boxA b5 28 [.val (sl q6)] :: ownA (sl q6) 3 .int a7 :: F) (fun i => o9 = .inl ()) ?_ ?_
 refine gs ?_
 refine W rfl (O_len_own (k := .val) tyl_138 rfl ?_)
 refine go ?_
 refine C_loopF (κ := Int) (fun d => [(0, .isl .node a1), (12, .val (sl b2)), (13, sI (2 : Int)), (14, sI d)]) (fun d => ownA (sl b2) 26 .val [(.func (.func 106) #[] #[.pointer (some ⟨b3, 0, none⟩)]), (.func (.func 83) #[] #[.pointer (some ⟨b5, 0, none⟩)])] :: boxA b3 138 [.val (sl b4)] :: ownA (sl b4) 26 .val [(.func (.func 75) #[] #[]), (.func (.func 78) #[] #[])] :: boxA b5 28 [.val (sl q6)] :: ownA (sl q6) 3 .int a7 :: F) (fun n d => F74v6_l10 fuel a1 a7 n d) o9 fuel (0 : Int) e1 (tl [0, 0, 0, 0, 0] 0 rfl rfl) (fun _ => rfl) ?_
 rintro n y11 hF
 have e1 : F74v6_l10 fuel a1 a7 (n + 1) y11 = some o9 := hF
 rw [F74v6_l10] at e1
 clear hF
 refine gs ?_
 refine C_seq ?_
 refine C_cd rfl e1 (fun e1 => ?_) (fun e1 => ?_)
 refine go ?_
 refine gs ?_
 refine gs ?_
 obtain ⟨h13, e1⟩ := req_e e1
 refine W rfl (O_indexAddr_own (k := .val) tyL_138 rfl rfl h13.1 (by exact vlt rfl h13.2) ?_)
 obtain ⟨hg14, e1⟩ | ⟨hg14, e1⟩ := bc e1
 refine W rfl (O_load_opt (k := .val) (i := 0) (j := 0) ty1_26 rfl (vix hg14) rfl rfl ?_)
 refine go ?_
 refine gs ?_
 obtain ⟨x15,w15,e1⟩:=be e1
 refine W rfl (O_indexAddr (k := .node) (z := x15) tyL_22 rfl rfl (idx_e w15).1 (idx_e w15).2 ?_)
 refine W rfl (O_load_ipt_all (k := .node) tyA_24 rfl ?_)
 obtain ⟨r16,hr16,e1⟩:=be e1
 refine W rfl (O_callV0 (ss := [.agg [sI x15.kind, sS x15.text, sS x15.trail, .isl .node x15.kids]]) (F := ownA (sl b2) 26 .val [(.func (.func 106) #[] #[.pointer (some ⟨b3, 0, none⟩)]), (.func (.func 83) #[] #[.pointer (some ⟨b5, 0, none⟩)])] :: boxA b5 28 [.val (sl q6)] :: ownA (sl q6) 3 .int a7 :: F) rfl fn_106 rfl (F106v1_ok hG fuel x15 b3 b4 hr16) (sel_perm [1, 1] _) ?_)
 refine go ?_
 refine C_cd rfl e1 (fun e1 => ?_) (fun e1 => ?_)
 refine gs ?_
 obtain rfl := so e1
 obtain rfl := so e0
 refine go ?_
 exact rt [2, 0, 0, 0, 0] 0 ⟨rfl, rfl⟩ rfl rfl
 refine go ?_
 obtain ⟨x18,w18,e1⟩:=be e1
 refine W rfl (O_arI rfl rfl rfl (ck_e w18).2 (W_re (congrArg sI (ck_e w18).1) ?_))
 refine go ?_
 exact jmpL x18 e1 (tl [2, 0, 0, 0, 0] 0 rfl rfl)
 obtain ⟨hg19, e1⟩ | ⟨hg19, e1⟩ := bc e1
 refine W rfl (O_load_opt (k := .val) (i := 1) (j := 0) ty1_26 rfl (vix hg19) rfl rfl ?_)
 refine go ?_
 refine gs ?_
 obtain ⟨x20,w20,e1⟩:=be e1
 refine W rfl (O_indexAddr (k := .node) (z := x20) tyL_22 rfl rfl (idx_e w20).1 (idx_e w20).2 ?_)
 refine W rfl (O_load_ipt_all (k := .node) tyA_24 rfl ?_)
 obtain ⟨r21,hr21,e1⟩:=be e1
 refine W rfl (O_callV0 (ss := [.agg [sI x20.kind, sS x20.text, sS x20.trail, .isl .node x20.kids]]) (F := ownA (sl b2) 26 .val [(.func (.func 106) #[] #[.pointer (some ⟨b3, 0, none⟩)]), (.func (.func 83) #[] #[.pointer (some ⟨b5, 0, none⟩)])] :: boxA b3 138 [.val (sl b4)] :: ownA (sl b4) 26 .val [(.func (.func 75) #[] #[]), (.func (.func 78) #[] #[])] :: F) rfl fn_83 rfl (F83_ok hG fuel x20 a7 b5 q6 hr21) (sel_perm [3, 3] _) ?_)
 refine go ?_
 refine C_cd rfl e1 (fun e1 => ?_) (fun e1 => ?_)
 refine gs ?_
 obtain rfl := so e1
 obtain rfl := so e0
 refine go ?_
 exact rt [2, 2, 2, 0, 0] 0 ⟨rfl, rfl⟩ rfl rfl
 refine go ?_
 obtain ⟨x23,w23,e1⟩:=be e1
 refine W rfl (O_arI rfl rfl rfl (ck_e w23).2 (W_re (congrArg sI (ck_e w23).1) ?_))
 refine go ?_
 exact jmpL x23 e1 (tl [2, 2, 2, 0, 0] 0 rfl rfl)
 cases e1
 refine go ?_
 obtain rfl := so e1
 exact jmp () rfl (tl [0, 0, 0, 0, 0] 0 rfl rfl)
 rintro ⟨⟩ hi
 subst hi
 have e0 := elim_l e0
 refine gs ?_
 obtain rfl := so e0
 refine go ?_
 exact rt [0, 0, 0, 0, 0] 0 ⟨rfl, rfl⟩ rfl rfl
def F110v2 (fuel : Nat) (a1 : Tree) : Option (Bool) :=
 (F75 fuel a1).bind fun r4 =>
 some (!r4)
theorem F110v2_ok {w0 : World} (hG : Globs w0) (fuel : Nat) : ∀ (a1 : Tree) (b2 : Nat) {r : Bool} (e0 : F110v2 fuel a1 = some r), Fn w0 prog 110 [.agg [sI a1.kind, sS a1.text, sS a1.trail, .isl .node a1.kids], sP b2 0] [boxA b2 26 [.val (.func (.func 75) #[] #[])]] (fun s H => s = sB r ∧ H = [boxA b2 26 [.val (.func (.func 75) #[] #[])]]) := by
 intro a1 b2 r e0
 rw [F110v2] at e0
 refine fn_intro2 8 [.tmp 3] func110 rfl rfl rfl rfl fun X hX F => ?_
 refine C_turn (T_start [(0, .agg [sI a1.kind, sS a1.text, sS a1.trail, .isl .node a1.kids]), (1, sP b2 0)] rfl (boxA b2 26 [.val (.func (.func 75) #[] #[])] :: F) rfl) ?_
 refine gs ?_
 refine W rfl (O_box rfl rfl fun b3 => ?_)
 refine go ?_
 refine gs ?_
 obtain ⟨r4,hr4,e0⟩:=be e0
 refine W rfl (O_callV0 (ss := [.agg [sI a1.kind, sS a1.text, sS a1.trail, .isl .node a1.kids]]) (F := bx1 b3 a1.kind a1.text a1.trail a1.kids :: boxA b2 26 [.val (.func (.func 75) #[] #[])] :: F) rfl fn_75 rfl (F75_ok hG fuel a1 hr4) (sel_perm [] _) ?_)
 refine go ?_
 obtain rfl := so e0
 refine go ?_
 exact rt [1] 1 ⟨rfl, rfl⟩ rfl rfl
def F130v2_l4 (fuel : Nat) (a1 : List Tree) : Nat → Int → Option ((Unit ⊕ Int))
 | 0, _ => none
 | n + 1, y5 =>
 bif (decide (y5 < (a1.length : Int))) then (
 (idx a1 y5).bind fun x7 =>
 (F110v2 fuel x7).bind fun r8 =>
 bif r8 then (
 some (.inr y5)) else (
 (ck (y5 + (1 : Int))).bind fun x10 =>
 F130v2_l4 fuel a1 n x10)) else (
 some (.inl ()))
def F130v2 (fuel : Nat) (a1 : List Tree) : Option (Int) :=
 Option.bind (α := (Unit ⊕ Int)) (
 F130v2_l4 fuel a1 fuel (0 : Int)) (Sum.elim (fun i3 =>
 some (-1 : Int)) (fun z => some z))
theorem F130v2_ok {w0 : World} (hG : Globs w0) (fuel : Nat) : ∀ (a1 : List Tree) (b2 : Nat) {r : Int} (e0 : F130v2 fuel a1 = some r), Fn w0 prog 130 [.isl .node a1, .val (.func (.func 110) #[] #[.pointer (some ⟨b2, 0, none⟩)])] [boxA b2 26 [.val (.func (.func 75) #[] #[])]] (fun s H => s = sI r ∧ H = [boxA b2 26 [.val (.func (.func 75) #[] #[])]]) := by
 intro a1 b2 r e0
 rw [F130v2] at e0
 refine fn_intro2 19 [.tmp 4] func130 rfl rfl rfl rfl fun X hX F => ?_
 refine C_turn (T_start [(0, .isl .node a1), (1, .val (.func (.func 110) #[] #[.pointer (some ⟨b2, 0, none⟩)]))] rfl (boxA b2 26 [.val (.func (.func 75) #[] #[])] :: F) rfl) ?_
 refine gs ?_
 obtain ⟨o3,e1,e0⟩:=be e0
 refine C_cut (ι := Unit) (fun i => []) (fun i => boxA b2 26 [.val (.func (.func 75) #[] #[])] :: F) (fun i => o3 = .inl ()) ?_ ?_
 refine gs ?_
 refine C_loopF (κ := Int) (fun d => [(0, .isl .node a1), (1, .val (.func (.func 110) #[] #[.pointer (some ⟨b2, 0, none⟩)])), (7, sI (a1.length : Int)), (8, sI d)]) (fun d => boxA b2 26 [.val (.func (.func 75) #[] #[])] :: F) (fun n d => F130v2_l4 fuel a1 n d) o3 fuel (0 : Int) e1 (tl [0] 0 rfl rfl) (fun _ => rfl) ?_
 rintro n y5 hF
 have e1 : F130v2_l4 fuel a1 (n + 1) y5 = some o3 := hF
 rw [F130v2_l4] at e1
 clear hF
 refine gs ?_
 refine C_seq ?_
 refine C_cd rfl e1 (fun e1 => ?_) (fun e1 => ?_)
 refine go ?_
 refine gs ?_
 refine gs ?_
 refine gs ?_
 obtain ⟨x7,w7,e1⟩:=be e1
 refine W rfl (O_indexAddr (k := .node) (z := x7) tyL_22 rfl rfl (idx_e w7).1 (idx_e w7).2 ?_)
 refine W rfl (O_load_ipt_all (k := .node) tyA_24 rfl ?_)
 obtain ⟨r8,hr8,e1⟩:=be e1
 refine W rfl (O_callV0 (ss := [.agg [sI x7.kind, sS x7.text, sS x7.trail, .isl .node x7.kids]]) (F := F) rfl fn_110 rfl (F110v2_ok hG fuel x7 b2 hr8) (sel_perm [0] _) ?_)
 refine go ?_
 refine C_cd rfl e1 (fun e1 => ?_) (fun e1 => ?_)
 refine gs ?_
 obtain rfl := so e1
 obtain rfl := so e0
 refine go ?_
 exact rt [0] 0 ⟨rfl, rfl⟩ rfl rfl
 refine go ?_
 obtain ⟨x10,w10,e1⟩:=be e1
 refine W rfl (O_arI rfl rfl rfl (ck_e w10).2 (W_re (congrArg sI (ck_e w10).1) ?_))
 refine go ?_
 exact jmpL x10 e1 (tl [0] 0 rfl rfl)
 refine go ?_
 obtain rfl := so e1
 exact jmp () rfl (tl [0] 0 rfl rfl)
 rintro ⟨⟩ hi
 subst hi
 have e0 := elim_l e0
 refine gs ?_
 obtain rfl := so e0
 refine go ?_
 exact rt [0] 0 ⟨rfl, rfl⟩ rfl rfl
def F109v2 (fuel : Nat) (a1 : List Tree) : Option (Bool) :=
 (F130v2 fuel a1).bind fun r3 =>
 some (decide (r3 ≥ (0 : Int)))
theorem F109v2_ok {w0 : World} (hG : Globs w0) (fuel : Nat) : ∀ (a1 : List Tree) (b2 : Nat) {r : Bool} (e0 : F109v2 fuel a1 = some r), Fn w0 prog 109 [.isl .node a1, .val (.func (.func 110) #[] #[.pointer (some ⟨b2, 0, none⟩)])] [boxA b2 26 [.val (.func (.func 75) #[] #[])]] (fun s H => s = sB r ∧ H = [boxA b2 26 [.val (.func (.func 75) #[] #[])]]) := by
 intro a1 b2 r e0
 rw [F109v2] at e0
 refine fn_intro2 9 [.tmp 4] func109 rfl rfl rfl rfl fun X hX F => ?_
 refine C_turn (T_start [(0, .isl .node a1), (1, .val (.func (.func 110) #[] #[.pointer (some ⟨b2, 0, none⟩)]))] rfl (boxA b2 26 [.val (.func (.func 75) #[] #[])] :: F) rfl) ?_
 refine gs ?_
 refine gs ?_
 obtain ⟨r3,hr3,e0⟩:=be e0
 refine W rfl (O_call0 (F := F) fn_130 rfl (F130v2_ok hG fuel a1 b2 hr3) (sel_perm [0] _) ?_)
 refine go ?_
 obtain rfl := so e0
 refine go ?_
 exact rt [0] 0 ⟨rfl, rfl⟩ rfl rfl
def F79v2 (fuel : Nat) (a1 : List Tree) : Option (Bool) :=
 (F109v2 fuel a1).bind fun r3 =>
 some (!r3)
theorem F79v2_ok {w0 : World} (hG : Globs w0) (fuel : Nat) : ∀ (a1 : List Tree) {r : Bool} (e0 : F79v2 fuel a1 = some r), Fn w0 prog 79 [.isl .node a1, .val (.func (.func 75) #[] #[])] [] (fun s H => s = sB r ∧ H = []) := by
 intro a1 r e0
 rw [F79v2] at e0
 refine fn_intro2 9 [.tmp 4] func79 rfl rfl rfl rfl fun X hX F => ?_
 refine C_turn (T_start [(0, .isl .node a1), (1, .val (.func (.func 75) #[] #[]))] rfl (F) rfl) ?_
 refine gs ?_
 refine W rfl (O_box rfl rfl fun b2 => ?_)
 refine go ?_
 refine gs ?_
 refine W rfl (O_makeFunc (vs := []) (us := [.pointer (some ⟨b2, 0, none⟩)]) rfl rfl ?_)
 obtain ⟨r3,hr3,e0⟩:=be e0
 refine W rfl (O_call0 (F := F) fn_109 rfl (F109v2_ok hG fuel a1 b2 hr3) (sel_perm [0] _) ?_)
 refine go ?_
 obtain rfl := so e0
 refine go ?_
 exact rt [] 1 ⟨rfl, rfl⟩ rfl rfl
def F81 (fuel : Nat) (a1 : Tree) : Option (Bool) :=
 Option.bind (α := Bool) (
 bif (a1.kind == (9 : Int)) then (
 some (a1.kind == (9 : Int))) else (
 bif (a1.kind == (31 : Int)) then (
 some (a1.kind == (31 : Int))) else (
 some (a1.kind == (32 : Int))))) fun i3 =>
 bif i3 then (
 some true) else (
 Option.bind (α := Bool) (
 bif (a1.kind == (28 : Int)) then (
 some (decide (a1.text = (⟨#[42]⟩ : ByteArray)))) else (
 some false)) fun i7 =>
 some i7)
theorem F81_ok {w0 : World} (hG : Globs w0) (fuel : Nat) : ∀ (a1 : Tree) {r : Bool} (e0 : F81 fuel a1 = some r), Fn w0 prog 81 [.agg [sI a1.kind, sS a1.text, sS a1.trail, .isl .node a1.kids]] [] (fun s H => s = sB r ∧ H = []) := by
 intro a1 r e0
 rw [F81] at e0
 refine fn_intro2 17 [.tmp 2] func81 rfl rfl rfl rfl fun X hX F => ?_
 refine C_turn (T_start [(0, .agg [sI a1.kind, sS a1.text, sS a1.trail, .isl .node a1.kids])] rfl (F) rfl) ?_
 refine gs ?_
 refine W rfl (O_box rfl rfl fun b2 => ?_)
 refine go ?_
 refine C_seq ?_
 refine gs ?_
 obtain ⟨i3,e1,e0⟩:=be e0
 refine C_cut (ι := Bool) (fun i => [(1, sP b2 0), (5, sB i)]) (fun i => bx1 b2 a1.kind a1.text a1.trail a1.kids :: F) (fun i => i3 = i) ?_ ?_
 refine gs ?_
 refine C_cd rfl e1 (fun e1 => ?_) (fun e1 => ?_)
 refine go ?_
 exact jm e1 (tl [0] 0 rfl rfl)
 refine gs ?_
 refine C_cd rfl e1 (fun e1 => ?_) (fun e1 => ?_)
 refine go ?_
 exact jm e1 (tl [0] 0 rfl rfl)
 refine go ?_
 exact jm e1 (tl [0] 0 rfl rfl)
 rintro z hi
 subst hi
 refine C_cd rfl e0 (fun e0 => ?_) (fun e0 => ?_)
 refine gs ?_
 obtain rfl := so e0
 refine go ?_
 exact rt [] 1 ⟨rfl, rfl⟩ rfl rfl
 refine go ?_
 obtain ⟨i7,e1,e0⟩:=be e0
 refine C_cut (ι := Bool) (fun i => [(2, sB i)]) (fun i => F) (fun i => i7 = i) ?_ ?_
 refine go ?_
 obtain ⟨hg8, e1⟩ | ⟨hg8, e1⟩ := bc e1
 refine Wt rfl rfl rfl hg8 rfl rfl (O_fieldAddr tyF_24_1 rfl ?_)
 refine Wt rfl rfl rfl hg8 rfl rfl (O_load ty1_9 rfl rfl ?_)
 refine Wt rfl rfl rfl hg8 rfl rfl (O_seq rfl rfl ?_)
 refine go ?_
 exact jm e1 (tl [] 1 rfl rfl)
 refine go ?_
 exact jm e1 (tl [] 1 rfl rfl)
 rintro z hi
 subst hi
 refine go ?_
 obtain rfl := so e0
 refine go ?_
 exact rt [] 0 ⟨rfl, rfl⟩ rfl rfl
def F74v7_l5 (fuel : Nat) (a1 : List Tree) : Nat → Int → Option ((Unit ⊕ Bool))
 | 0, _ => none
 | n + 1, y6 =>
 bif (decide (y6 < (2 : Int))) then (
 if 0 ≤ y6 ∧ y6 < ((2 : Nat) : Int) then (
 bif (y6 == (0 : Int)) then (
 (idx a1 y6).bind fun x10 =>
 (F81 fuel x10).bind fun r11 =>
 bif (!r11) then (
 some (.inr false)) else (
 (ck (y6 + (1 : Int))).bind fun x13 =>
 F74v7_l5 fuel a1 n x13)) else (
 bif (y6 == (1 : Int)) then (
 (idx a1 y6).bind fun x15 =>
 (F75 fuel x15).bind fun r16 =>
 bif (!r16) then (
 some (.inr false)) else (
 (ck (y6 + (1 : Int))).bind fun x18 =>
 F74v7_l5 fuel a1 n x18)) else (
 none))) else none) else (
 some (.inl ()))
def F74v7 (fuel : Nat) (a1 : List Tree) : Option (Bool) :=
 bif ((a1.length : Int) != (2 : Int)) then (
 some false) else (
 Option.bind (α := (Unit ⊕ Bool)) (
 F74v7_l5 fuel a1 fuel (0 : Int)) (Sum.elim (fun i4 =>
 some true) (fun z => some z)))
theorem F74v7_ok {w0 : World} (hG : Globs w0) (fuel : Nat) : ∀ (a1 : List Tree) (b2 : Hnd) {r : Bool} (e0 : F74v7 fuel a1 = some r), Fn w0 prog 74 [.isl .node a1, .val (sl b2)] [ownA (sl b2) 26 .val [(.func (.func 81) #[] #[]), (.func (.func 75) #[] #[])]] (fun s H => s = sB r ∧ H = [ownA (sl b2) 26 .val [(.func (.func 81) #[] #[]), (.func (.func 75) #[] #[])]]) := by
 intro a1 b2 r e0
 rw [F74v7] at e0
 refine fn_intro2 27 [.tmp 4] func74 rfl rfl rfl rfl fun X hX F => ?_
 refine C_turn (T_start [(0, .isl .node a1), (1, .val (sl b2))] rfl (ownA (sl b2) 26 .val [(.func (.func 81) #[] #[]), (.func (.func 75) #[] #[])] :: F) rfl) ?_
 refine gs ?_
 refine C_seq ?_
 refine gs ?_
 refine W rfl (O_len_own (k := .val) tyl_138 rfl ?_)
 refine go ?_
 refine C_cd rfl e0 (fun e0 => ?_) (fun e0 => ?_)
 refine gs ?_
 obtain rfl := so e0
 refine go ?_
 exact rt [0] 0 ⟨rfl, rfl⟩ rfl rfl
 refine go ?_
 obtain ⟨o4,e1,e0⟩:=be e0
 refine C_cut (ι := Unit) (fun i => []) (fun i => ownA (sl b2) 26 .val [(.func (.func 81) #[] #[]), (.func (.func 75) #[] #[])] :: F) (fun i => o4 = .inl ()) ?_ ?_
 refine gs ?_
 refine W rfl (O_len_own (k := .val) tyl_138 rfl ?_)
 refine go ?_
 refine C_loopF (κ := Int) (fun d => [(0, .isl .node a1), (12, .val (sl b2)), (13, sI (2 : Int)), (14, sI d)]) (fun d => ownA (sl b2) 26 .val [(.func (.func 81) #[] #[]), (.func (.func 75) #[] #[])] :: F) (fun n d => F74v7_l5 fuel a1 n d) o4 fuel (0 : Int) e1 (tl [0] 0 rfl rfl) (fun _ => rfl) ?_
 rintro n y6 hF
 have e1 : F74v7_l5 fuel a1 (n + 1) y6 = some o4 := hF
 rw [F74v7_l5] at e1
 clear hF
 refine gs ?_
 refine C_seq ?_
 refine C_cd rfl e1 (fun e1 => ?_) (fun e1 => ?_)
 refine go ?_
 refine gs ?_
 refine gs ?_
 obtain ⟨h8, e1⟩ := req_e e1
 refine W rfl (O_indexAddr_own (k := .val) tyL_138 rfl rfl h8.1 (by exact vlt rfl h8.2) ?_)
 obtain ⟨hg9, e1⟩ | ⟨hg9, e1⟩ := bc e1
 refine W rfl (O_load_opt (k := .val) (i := 0) (j := 0) ty1_26 rfl (vix hg9) rfl rfl ?_)
 refine go ?_
 refine gs ?_
 obtain ⟨x10,w10,e1⟩:=be e1
 refine W rfl (O_indexAddr (k := .node) (z := x10) tyL_22 rfl rfl (idx_e w10).1 (idx_e w10).2 ?_)
 refine W rfl (O_load_ipt_all (k := .node) tyA_24 rfl ?_)
 obtain ⟨r11,hr11,e1⟩:=be e1
 refine W rfl (O_callV0 (ss := [.agg [sI x10.kind, sS x10.text, sS x10.trail, .isl .node x10.kids]]) (F := ownA (sl b2) 26 .val [(.func (.func 81) #[] #[]), (.func (.func 75) #[] #[])] :: F) rfl fn_81 rfl (F81_ok hG fuel x10 hr11) (sel_perm [] _) ?_)
 refine go ?_
 refine C_cd rfl e1 (fun e1 => ?_) (fun e1 => ?_)
 refine gs ?_
 obtain rfl := so e1
 obtain rfl := so e0
 refine go ?_
 exact rt [0] 0 ⟨rfl, rfl⟩ rfl rfl
 refine go ?_
 obtain ⟨x13,w13,e1⟩:=be e1
 refine W rfl (O_arI rfl rfl rfl (ck_e w13).2 (W_re (congrArg sI (ck_e w13).1) ?_))
 refine go ?_
 exact jmpL x13 e1 (tl [0] 0 rfl rfl)
 obtain ⟨hg14, e1⟩ | ⟨hg14, e1⟩ := bc e1
 refine W rfl (O_load_opt (k := .val) (i := 1) (j := 0) ty1_26 rfl (vix hg14) rfl rfl ?_)
 refine go ?_
 refine gs ?_
 obtain ⟨x15,w15,e1⟩:=be e1
 refine W rfl (O_indexAddr (k := .node) (z := x15) tyL_22 rfl rfl (idx_e w15).1 (idx_e w15).2 ?_)
 refine W rfl (O_load_ipt_all (k := .node) tyA_24 rfl ?_)
 obtain ⟨r16,hr16,e1⟩:=be e1
 refine W rfl (O_callV0 (ss := [.agg [sI x15.kind, sS x15.text, sS x15.trail, .isl .node x15.kids]]) (F := ownA (sl b2) 26 .val [(.func (.func 81) #[] #[]), (.func (.func 75) #[] #[])] :: F) rfl fn_75 rfl (F75_ok hG fuel x15 hr16) (sel_perm [] _) ?_)
 refine go ?_
 refine C_cd rfl e1 (fun e1 => ?_) (fun e1 => ?_)
 refine gs ?_
 obtain rfl := so e1
 obtain rfl := so e0
 refine go ?_
 exact rt [0] 0 ⟨rfl, rfl⟩ rfl rfl
 refine go ?_
 obtain ⟨x18,w18,e1⟩:=be e1
 refine W rfl (O_arI rfl rfl rfl (ck_e w18).2 (W_re (congrArg sI (ck_e w18).1) ?_))
 refine go ?_
 exact jmpL x18 e1 (tl [0] 0 rfl rfl)
 cases e1
 refine go ?_
 obtain rfl := so e1
 exact jmp () rfl (tl [0] 0 rfl rfl)
 rintro ⟨⟩ hi
 subst hi
 have e0 := elim_l e0
 refine gs ?_
 obtain rfl := so e0
 refine go ?_
 exact rt [0] 0 ⟨rfl, rfl⟩ rfl rfl
def F74v8_l5 (fuel : Nat) (a1 : List Tree) : Nat → Int → Option ((Unit ⊕ Bool))
 | 0, _ => none
 | n + 1, y6 =>
 bif (decide (y6 < (1 : Int))) then (
 if 0 ≤ y6 ∧ y6 < ((1 : Nat) : Int) then (
 bif (y6 == (0 : Int)) then (
 (idx a1 y6).bind fun x10 =>
 (F81 fuel x10).bind fun r11 =>
 bif (!r11) then (
 some (.inr false)) else (
 (ck (y6 + (1 : Int))).bind fun x13 =>
 F74v8_l5 fuel a1 n x13)) else (
 none)) else none) else (
 some (.inl ()))
def F74v8 (fuel : Nat) (a1 : List Tree) : Option (Bool) :=
 bif ((a1.length : Int) != (1 : Int)) then (
 some false) else (
 Option.bind (α := (Unit ⊕ Bool)) (
 F74v8_l5 fuel a1 fuel (0 : Int)) (Sum.elim (fun i4 =>
 some true) (fun z => some z)))
theorem F74v8_ok {w0 : World} (hG : Globs w0) (fuel : Nat) : ∀ (a1 : List Tree) (b2 : Hnd) {r : Bool} (e0 : F74v8 fuel a1 = some r), Fn w0 prog 74 [.isl .node a1, .val (sl b2)] [ownA (sl b2) 26 .val [(.func (.func 81) #[] #[])]] (fun s H => s = sB r ∧ H = [ownA (sl b2) 26 .val [(.func (.func 81) #[] #[])]]) := by
 intro a1 b2 r e0
 rw [F74v8] at e0
 refine fn_intro2 27 [.tmp 4] func74 rfl rfl rfl rfl fun X hX F => ?_
 refine C_turn (T_start [(0, .isl .node a1), (1, .val (sl b2))] rfl (ownA (sl b2) 26 .val [(.func (.func 81) #[] #[])] :: F) rfl) ?_
 refine gs ?_
 refine C_seq ?_
 refine gs ?_
 refine W rfl (O_len_own (k := .val) tyl_138 rfl ?_)
 refine go ?_
 refine C_cd rfl e0 (fun e0 => ?_) (fun e0 => ?_)
 refine gs ?_
 obtain rfl := so e0
 refine go ?_
 exact rt [0] 0 ⟨rfl, rfl⟩ rfl rfl
 refine go ?_
 obtain ⟨o4,e1,e0⟩:=be e0
 refine C_cut (ι := Unit) (fun i => []) (fun i => ownA (sl b2) 26 .val [(.func (.func 81) #[] #[])] :: F) (fun i => o4 = .inl ()) ?_ ?_
 refine gs ?_
 refine W rfl (O_len_own (k := .val) tyl_138 rfl ?_)
 refine go ?_
 refine C_loopF (κ := Int) (fun d => [(0, .isl .node a1), (12, .val (sl b2)), (13, sI (1 : Int)), (14, sI d)]) (fun d => ownA (sl b2) 26 .val [(.func (.func 81) #[] #[])] :: F) (fun n d => F74v8_l5 fuel a1 n d) o4 fuel (0 : Int) e1 (tl [0] 0 rfl rfl) (fun _ => rfl) ?_
 rintro n y6 hF
 have e1 : F74v8_l5 fuel a1 (n + 1) y6 = some o4 := hF
 rw [F74v8_l5] at e1
 clear hF
 refine gs ?_
 refine C_seq ?_
 refine C_cd rfl e1 (fun e1 => ?_) (fun e1 => ?_)
 refine go ?_
 refine gs ?_
 refine gs ?_
 obtain ⟨h8, e1⟩ := req_e e1
 refine W rfl (O_indexAddr_own (k := .val) tyL_138 rfl rfl h8.1 (by exact vlt rfl h8.2) ?_)
 obtain ⟨hg9, e1⟩ | ⟨hg9, e1⟩ := bc e1
 refine W rfl (O_load_opt (k := .val) (i := 0) (j := 0) ty1_26 rfl (vix hg9) rfl rfl ?_)
 refine go ?_
 refine gs ?_
 obtain ⟨x10,w10,e1⟩:=be e1
 refine W rfl (O_indexAddr (k := .node) (z := x10) tyL_22 rfl rfl (idx_e w10).1 (idx_e w10).2 ?_)
 refine W rfl (O_load_ipt_all (k := .node) tyA_24 rfl ?_)
 obtain ⟨r11,hr11,e1⟩:=be e1
 refine W rfl (O_callV0 (ss := [.agg [sI x10.kind, sS x10.text, sS x10.trail, .isl .node x10.kids]]) (F := ownA (sl b2) 26 .val [(.func (.func 81) #[] #[])] :: F) rfl fn_81 rfl (F81_ok hG fuel x10 hr11) (sel_perm [] _) ?_)
 refine go ?_
 refine C_cd rfl e1 (fun e1 => ?_) (fun e1 => ?_)
 refine gs ?_
 obtain rfl := so e1
 obtain rfl := so e0
 refine go ?_
 exact rt [0] 0 ⟨rfl, rfl⟩ rfl rfl
 refine go ?_
 obtain ⟨x13,w13,e1⟩:=be e1
 refine W rfl (O_arI rfl rfl rfl (ck_e w13).2 (W_re (congrArg sI (ck_e w13).1) ?_))
 refine go ?_
 exact jmpL x13 e1 (tl [0] 0 rfl rfl)
 cases e1
 refine go ?_
 obtain rfl := so e1
 exact jmp () rfl (tl [0] 0 rfl rfl)
 rintro ⟨⟩ hi
 subst hi
 have e0 := elim_l e0
 refine gs ?_
 obtain rfl := so e0
 refine go ?_
 exact rt [0] 0 ⟨rfl, rfl⟩ rfl rfl
def F74v9_l8 (fuel : Nat) (a1 : List Tree) (a5 : List Int) : Nat → Int → Option ((Unit ⊕ Bool))
 | 0, _ => none
 | n + 1, y9 =>
 bif (decide (y9 < (1 : Int))) then (
 if 0 ≤ y9 ∧ y9 < ((1 : Nat) : Int) then (
 bif (y9 == (0 : Int)) then (
 (idx a1 y9).bind fun x13 =>
 (F83 fuel x13 a5).bind fun r14 =>
 bif (!r14) then (
 some (.inr false)) else (
 (ck (y9 + (1 : Int))).bind fun x16 =>
 F74v9_l8 fuel a1 a5 n x16)) else (
 none)) else none) else (
 some (.inl ()))
def F74v9 (fuel : Nat) (a1 : List Tree) (a5 : List Int) : Option (Bool) :=
 bif ((a1.length : Int) != (1 : Int)) then (
 some false) else (
 Option.bind (α := (Unit ⊕ Bool)) (
 F74v9_l8 fuel a1 a5 fuel (0 : Int)) (Sum.elim (fun i7 =>
 some true) (fun z => some z)))
theorem F74v9_ok {w0 : World} (hG : Globs w0) (fuel : Nat) : ∀ (a1 : List Tree) (a5 : List Int) (b2 : Hnd) (b3 : Nat) (q4 : Hnd) {r : Bool} (e0 : F74v9 fuel a1 a5 = some r), Fn w0 prog 74 [.isl .node a1, .val (sl b2)] [ownA (sl b2) 26 .val [(.func (.func 83) #[] #[.pointer (some ⟨b3, 0, none⟩)])], boxA b3 28 [.val (sl q4)], ownA (sl q4) 3 .int a5] (fun s H => s = sB r ∧ H = [ownA (sl b2) 26 .val [(.func (.func 83) #[] #[.pointer (some ⟨b3, 0, none⟩)])], boxA b3 28 [.val (sl q4)], ownA (sl q4) 3 .int a5]) := by
 intro a1 a5 b2 b3 q4 r e0
 rw [F74v9] at e0
 refine fn_intro2 27 [.tmp 4] func74 rfl rfl rfl rfl fun X hX F => ?_
 refine C_turn (T_start [(0, .isl .node a1), (1, .val (sl b2))] rfl (ownA (sl b2) 26 .val [(.func (.func 83) #[] #[.pointer (some ⟨b3, 0, none⟩)])] :: boxA b3 28 [.val (sl q4)] :: ownA (sl q4) 3 .int a5 :: F) rfl) ?_
 refine gs ?_
 refine C_seq ?_
 refine gs ?_
 refine W rfl (O_len_own (k := .val) tyl_138 rfl ?_)
 refine go ?_
 refine C_cd rfl e0 (fun e0 => ?_) (fun e0 => ?_)
 refine gs ?_
 obtain rfl := so e0
 refine go ?_
 exact rt [0, 0, 0] 0 ⟨rfl, rfl⟩ rfl rfl
 refine go ?_
 obtain ⟨o7,e1,e0⟩:=be e0
 refine C_cut (ι := Unit) (fun i => []) (fun i => ownA (sl b2) 26 .val [(.func (.func 83) #[] #[.pointer (some ⟨b3, 0, none⟩)])] :: boxA b3 28 [.val (sl q4)] :: ownA (sl q4) 3 .int a5 :: F) (fun i => o7 = .inl ()) ?_ ?_
 refine gs ?_
 refine W rfl (O_len_own (k := .val) tyl_138 rfl ?_)
 refine go ?_
 refine C_loopF (κ := Int) (fun d => [(0, .isl .node a1), (12, .val (sl b2)), (13, sI (1 : Int)), (14, sI d)]) (fun d => ownA (sl b2) 26 .val [(.func (.func 83) #[] #[.pointer (some ⟨b3, 0, none⟩)])] :: boxA b3 28 [.val (sl q4)] :: ownA (sl q4) 3 .int a5 :: F) (fun n d => F74v9_l8 fuel a1 a5 n d) o7 fuel (0 : Int) e1 (tl [0, 0, 0] 0 rfl rfl) (fun _ => rfl) ?_
 rintro n y9 hF
 have e1 : F74v9_l8 fuel a1 a5 (n + 1) y9 = some o7 := hF
 rw [F74v9_l8] at e1
 clear hF
 refine gs ?_
 refine C_seq ?_
 refine C_cd rfl e1 (fun e1 => ?_) (fun e1 => ?_)
 refine go ?_
 refine gs ?_
 refine gs ?_
 obtain ⟨h11, e1⟩ := req_e e1
 refine W rfl (O_indexAddr_own (k := .val) tyL_138 rfl rfl h11.1 (by exact vlt rfl h11.2) ?_)
 obtain ⟨hg12, e1⟩ | ⟨hg12, e1⟩ := bc e1
 refine W rfl (O_load_opt (k := .val) (i := 0) (j := 0) ty1_26 rfl (vix hg12) rfl rfl ?_)
 refine go ?_
 refine gs ?_
 obtain ⟨x13,w13,e1⟩:=be e1
 refine W rfl (O_indexAddr (k := .node) (z := x13) tyL_22 rfl rfl (idx_e w13).1 (idx_e w13).2 ?_)
 refine W rfl (O_load_ipt_all (k := .node) tyA_24 rfl ?_)
 obtain ⟨r14,hr14,e1⟩:=be e1
 refine W rfl (O_callV0 (ss := [.agg [sI x13.kind, sS x13.text, sS x13.trail, .isl .node x13.kids]]) (F := ownA (sl b2) 26 .val [(.func (.func 83) #[] #[.pointer (some ⟨b3, 0, none⟩)])] :: F) rfl fn_83 rfl (F83_ok hG fuel x13 a5 b3 q4 hr14) (sel_perm [1, 1] _) ?_)
 refine go ?_
 refine C_cd rfl e1 (fun e1 => ?_) (fun e1 => ?_)
 refine gs ?_
 obtain rfl := so e1
 obtain rfl := so e0
 refine go ?_
 exact rt [2, 0, 0] 0 ⟨rfl, rfl⟩ rfl rfl
 refine go ?_
 obtain ⟨x16,w16,e1⟩:=be e1
 refine W rfl (O_arI rfl rfl rfl (ck_e w16).2 (W_re (congrArg sI (ck_e w16).1) ?_))
 refine go ?_
 exact jmpL x16 e1 (tl [2, 0, 0] 0 rfl rfl)
 cases e1
 refine go ?_
 obtain rfl := so e1
 exact jmp () rfl (tl [0, 0, 0] 0 rfl rfl)
 rintro ⟨⟩ hi
 subst hi
 have e0 := elim_l e0
 refine gs ?_
 obtain rfl := so e0
 refine go ?_
 exact rt [0, 0, 0] 0 ⟨rfl, rfl⟩ rfl rfl
def F74v10_l5 (fuel : Nat) (a1 : List Tree) : Nat → Int → Option ((Unit ⊕ Bool))
 | 0, _ => none
 | n + 1, y6 =>
 bif (decide (y6 < (2 : Int))) then (
 if 0 ≤ y6 ∧ y6 < ((2 : Nat) : Int) then (
 bif (y6 == (0 : Int)) then (
 (idx a1 y6).bind fun x10 =>
 (F75 fuel x10).bind fun r11 =>
 bif (!r11) then (
 some (.inr false)) else (
 (ck (y6 + (1 : Int))).bind fun x13 =>
 F74v10_l5 fuel a1 n x13)) else (
 bif (y6 == (1 : Int)) then (
 (idx a1 y6).bind fun x15 =>
 (F75 fuel x15).bind fun r16 =>
 bif (!r16) then (
 some (.inr false)) else (
 (ck (y6 + (1 : Int))).bind fun x18 =>
 F74v10_l5 fuel a1 n x18)) else (
 none))) else none) else (
 some (.inl ()))
def F74v10 (fuel : Nat) (a1 : List Tree) : Option (Bool) :=
 bif ((a1.length : Int) != (2 : Int)) then (
 some false) else (
 Option.bind (α := (Unit ⊕ Bool)) (
 F74v10_l5 fuel a1 fuel (0 : Int)) (Sum.elim (fun i4 =>
 some true) (fun z => some z)))
theorem F74v10_ok {w0 : World} (hG : Globs w0) (fuel : Nat) : ∀ (a1 : List Tree) (b2 : Hnd) {r : Bool} (e0 : F74v10 fuel a1 = some r), Fn w0 prog 74 [.isl .node a1, .val (sl b2)] [ownA (sl b2) 26 .val [(.func (.func 75) #[] #[]), (.func (.func 75) #[] #[])]] (fun s H => s = sB r ∧ H = [ownA (sl b2) 26 .val [(.func (.func 75) #[] #[]), (.func (.func 75) #[] #[])]]) := by
 intro a1 b2 r e0
 rw [F74v10] at e0
 refine fn_intro2 27 [.tmp 4] func74 rfl rfl rfl rfl fun X hX F => ?_
 refine C_turn (T_start [(0, .isl .node a1), (1, .val (sl b2))] rfl (ownA (sl b2) 26 .val [(.func (.func 75) #[] #[]), (.func (.func 75) #[] #[])] :: F) rfl) ?_
 refine gs ?_
 refine C_seq ?_
 refine gs ?_
 refine W rfl (O_len_own (k := .val) tyl_138 rfl ?_)
 refine go ?_
 refine C_cd rfl e0 (fun e0 => ?_) (fun e0 => ?_)
 refine gs ?_
 obtain rfl := so e0
 refine go ?_
 exact rt [0] 0 ⟨rfl, rfl⟩ rfl rfl
 refine go ?_
 obtain ⟨o4,e1,e0⟩:=be e0
 refine C_cut (ι := Unit) (fun i => []) (fun i => ownA (sl b2) 26 .val [(.func (.func 75) #[] #[]), (.func (.func 75) #[] #[])] :: F) (fun i => o4 = .inl ()) ?_ ?_
 refine gs ?_
 refine W rfl (O_len_own (k := .val) tyl_138 rfl ?_)
 refine go ?_
 refine C_loopF (κ := Int) (fun d => [(0, .isl .node a1), (12, .val (sl b2)), (13, sI (2 : Int)), (14, sI d)]) (fun d => ownA (sl b2) 26 .val [(.func (.func 75) #[] #[]), (.func (.func 75) #[] #[])] :: F) (fun n d => F74v10_l5 fuel a1 n d) o4 fuel (0 : Int) e1 (tl [0] 0 rfl rfl) (fun _ => rfl) ?_
 rintro n y6 hF
 have e1 : F74v10_l5 fuel a1 (n + 1) y6 = some o4 := hF
 rw [F74v10_l5] at e1
 clear hF
 refine gs ?_
 refine C_seq ?_
 refine C_cd rfl e1 (fun e1 => ?_) (fun e1 => ?_)
 refine go ?_
 refine gs ?_
 refine gs ?_
 obtain ⟨h8, e1⟩ := req_e e1
 refine W rfl (O_indexAddr_own (k := .val) tyL_138 rfl rfl h8.1 (by exact vlt rfl h8.2) ?_)
 obtain ⟨hg9, e1⟩ | ⟨hg9, e1⟩ := bc e1
 refine W rfl (O_load_opt (k := .val) (i := 0) (j := 0) ty1_26 rfl (vix hg9) rfl rfl ?_)
 refine go ?_
 refine gs ?_
 obtain ⟨x10,w10,e1⟩:=be e1
 refine W rfl (O_indexAddr (k := .node) (z := x10) tyL_22 rfl rfl (idx_e w10).1 (idx_e w10).2 ?_)
 refine W rfl (O_load_ipt_all (k := .node) tyA_24 rfl ?_)
 obtain ⟨r11,hr11,e1⟩:=be e1
 refine W rfl (O_callV0 (ss := [.agg [sI x10.kind, sS x10.text, sS x10.trail, .isl .node x10.kids]]) (F := ownA (sl b2) 26 .val [(.func (.func 75) #[] #[]), (.func (.func 75) #[] #[])] :: F) rfl fn_75 rfl (F75_ok hG fuel x10 hr11) (sel_perm [] _) ?_)
 refine go ?_
 refine C_cd rfl e1 (fun e1 => ?_) (fun e1 => ?_)
 refine gs ?_
 obtain rfl := so e1
 obtain rfl := so e0
 refine go ?_
 exact rt [0] 0 ⟨rfl, rfl⟩ rfl rfl
 refine go ?_
 obtain ⟨x13,w13,e1⟩:=be e1
 refine W rfl (O_arI rfl rfl rfl (ck_e w13).2 (W_re (congrArg sI (ck_e w13).1) ?_))
 refine go ?_
 exact jmpL x13 e1 (tl [0] 0 rfl rfl)
 obtain ⟨hg14, e1⟩ | ⟨hg14, e1⟩ := bc e1
 refine W rfl (O_load_opt (k := .val) (i := 1) (j := 0) ty1_26 rfl (vix hg14) rfl rfl ?_)
 refine go ?_
 refine gs ?_
 obtain ⟨x15,w15,e1⟩:=be e1
 refine W rfl (O_indexAddr (k := .node) (z := x15) tyL_22 rfl rfl (idx_e w15).1 (idx_e w15).2 ?_)
 refine W rfl (O_load_ipt_all (k := .node) tyA_24 rfl ?_)
 obtain ⟨r16,hr16,e1⟩:=be e1
 refine W rfl (O_callV0 (ss := [.agg [sI x15.kind, sS x15.text, sS x15.trail, .isl .node x15.kids]]) (F := ownA (sl b2) 26 .val [(.func (.func 75) #[] #[]), (.func (.func 75) #[] #[])] :: F) rfl fn_75 rfl (F75_ok hG fuel x15 hr16) (sel_perm [] _) ?_)
 refine go ?_
 refine C_cd rfl e1 (fun e1 => ?_) (fun e1 => ?_)
 refine gs ?_
 obtain rfl := so e1
 obtain rfl := so e0
 refine go ?_
 exact rt [0] 0 ⟨rfl, rfl⟩ rfl rfl
 refine go ?_
 obtain ⟨x18,w18,e1⟩:=be e1
 refine W rfl (O_arI rfl rfl rfl (ck_e w18).2 (W_re (congrArg sI (ck_e w18).1) ?_))
 refine go ?_
 exact jmpL x18 e1 (tl [0] 0 rfl rfl)
 cases e1
 refine go ?_
 obtain rfl := so e1
 exact jmp () rfl (tl [0] 0 rfl rfl)
 rintro ⟨⟩ hi
 subst hi
 have e0 := elim_l e0
 refine gs ?_
 obtain rfl := so e0
 refine go ?_
 exact rt [0] 0 ⟨rfl, rfl⟩ rfl rfl
def F58 (fuel : Nat) (a1 : Tree) : Option (Bool) :=
 bif (a1.kind == (1 : Int)) then (
 (F73 fuel a1.kids).bind fun r4 =>
 some r4) else (
 Option.bind (α := Bool) (
 bif (a1.kind == (4 : Int)) then (
 some (a1.kind == (4 : Int))) else (
 bif (a1.kind == (28 : Int)) then (
 some (a1.kind == (28 : Int))) else (
 some (a1.kind == (32 : Int))))) fun i5 =>
 bif i5 then (
 (F74 fuel a1.kids).bind fun r10 =>
 some r10) else (
 bif (a1.kind == (5 : Int)) then (
 Option.bind (α := Bool) (
 (F76 fuel).bind fun r14 =>
 (F76v1 fuel).bind fun r17 =>
 (F74v1 fuel a1.kids).bind fun r20 =>
 bif r20 then (
 (idx a1.kids (0 : Int)).bind fun x22 =>
 (F78 fuel x22).bind fun r23 =>
 bif (x22.kind == (33 : Int)) then (
 (idx a1.kids (1 : Int)).bind fun x25 =>
 (F78 fuel x25).bind fun r26 =>
 some (!(x25.kind == (33 : Int)))) else (
 some (!false))) else (
 some false)) fun i12 =>
 some i12) else (
 Option.bind (α := Bool) (
 bif (a1.kind == (6 : Int)) then (
 some (a1.kind == (6 : Int))) else (
 bif (a1.kind == (10 : Int)) then (
 some (a1.kind == (10 : Int))) else (
 bif (a1.kind == (11 : Int)) then (
 some (a1.kind == (11 : Int))) else (
 bif (a1.kind == (14 : Int)) then (
 some (a1.kind == (14 : Int))) else (
 some (a1.kind == (16 : Int))))))) fun i27 =>
 bif i27 then (
 (F74v2 fuel a1.kids).bind fun r34 =>
 some r34) else (
 bif (a1.kind == (7 : Int)) then (
 (F60 fuel [(16 : Int), (33 : Int)]).bind fun r37 =>
 (F60 fuel [(15 : Int)]).bind fun r40 =>
 (F76 fuel).bind fun r43 =>
 (F60 fuel [(17 : Int)]).bind fun r46 =>
 (F74v3 fuel a1.kids [(16 : Int), (33 : Int)] [(15 : Int)] [(17 : Int)]).bind fun r49 =>
 some r49) else (
 bif (a1.kind == (12 : Int)) then (
 (F74v4 fuel a1.kids).bind fun r52 =>
 some r52) else (
 bif (a1.kind == (13 : Int)) then (
 (F60 fuel [(14 : Int), (8 : Int)]).bind fun r55 =>
 (F79 fuel a1.kids [(14 : Int), (8 : Int)]).bind fun r57 =>
 some r57) else (
 bif (a1.kind == (15 : Int)) then (
 (F60 fuel [(16 : Int)]).bind fun r60 =>
 (F79 fuel a1.kids [(16 : Int)]).bind fun r62 =>
 some r62) else (
 bif (a1.kind == (17 : Int)) then (
 (F79v1 fuel a1.kids).bind fun r64 =>
 some r64) else (
 bif (a1.kind == (18 : Int)) then (
 (F60 fuel [(17 : Int)]).bind fun r67 =>
 (F60 fuel [(17 : Int), (18 : Int), (33 : Int)]).bind fun r70 =>
 (F74v5 fuel a1.kids [(17 : Int)] [(17 : Int), (18 : Int), (33 : Int)]).bind fun r73 =>
 some r73) else (
 bif (a1.kind == (19 : Int)) then (
 (F76v1 fuel).bind fun r76 =>
 (F60 fuel [(17 : Int)]).bind fun r79 =>
 (F74v6 fuel a1.kids [(17 : Int)]).bind fun r82 =>
 some r82) else (
 bif (a1.kind == (20 : Int)) then (
 (F79v2 fuel a1.kids).bind fun r84 =>
 some r84) else (
 bif (a1.kind == (21 : Int)) then (
 Option.bind (α := Bool) (
 (F74v7 fuel a1.kids).bind fun r88 =>
 bif r88 then (
 bif (!decide (a1.text = (⟨#[58, 61]⟩ : ByteArray))) then (
 some true) else (
 (idx a1.kids (0 : Int)).bind fun x91 =>
 some (x91.kind == (9 : Int)))) else (
 some false)) fun i86 =>
 some i86) else (
 bif (a1.kind == (22 : Int)) then (
 (F74v8 fuel a1.kids).bind fun r94 =>
 some r94) else (
 bif (a1.kind == (23 : Int)) then (
 (F60 fuel [(30 : Int)]).bind fun r97 =>
 (F74v9 fuel a1.kids [(30 : Int)]).bind fun r100 =>
 some r100) else (
 Option.bind (α := Bool) (
 bif (a1.kind == (29 : Int)) then (
 some (a1.kind == (29 : Int))) else (
 some (a1.kind == (31 : Int)))) fun i101 =>
 bif i101 then (
 (F74v10 fuel a1.kids).bind fun r105 =>
 some r105) else (
 bif (a1.kind == (30 : Int)) then (
 Option.bind (α := Bool) (
 bif (decide ((a1.kids.length : Int) > (0 : Int))) then (
 (F79v2 fuel a1.kids).bind fun r109 =>
 some r109) else (
 some false)) fun i107 =>
 some i107) else (
 some ((a1.kids.length : Int) == (0 : Int)))))))))))))))))))
theorem F58_ok {w0 : World} (hG : Globs w0) (fuel : Nat) : ∀ (a1 : Tree) {r : Bool} (e0 : F58 fuel a1 = some r), Fn w0 prog 58 [.agg [sI a1.kind, sS a1.text, sS a1.trail, .isl .node a1.kids]] [] (fun s H => s = sB r ∧ H = []) := by
 intro a1 r e0
 rw [F58] at e0
 refine fn_intro2 153 [.tmp 2] func58 rfl rfl rfl rfl fun X hX F => ?_
 refine C_turn (T_start [(0, .agg [sI a1.kind, sS a1.text, sS a1.trail, .isl .node a1.kids])] rfl (F) rfl) ?_
 refine gs ?_
 refine W rfl (O_box rfl rfl fun b2 => ?_)
 refine go ?_
 refine gs ?_
 refine C_seq ?_
 refine gs ?_
 refine gs ?_
 refine C_cd rfl e0 (fun e0 => ?_) (fun e0 => ?_)
 refine gs ?_
 obtain ⟨r4,hr4,e0⟩:=be e0
 refine W rfl (O_callP fn_73 rfl (F73_ok hG fuel a1.kids hr4) ?_)
 refine go ?_
 obtain rfl := so e0
 refine go ?_
 exact rt [] 1 ⟨rfl, rfl⟩ rfl rfl
 obtain ⟨i5,e1,e0⟩:=be e0
 refine C_cut (ι := Bool) (fun i => [(1, sP b2 0), (3, .isl .node a1.kids), (7, sI a1.kind), (12, sB i)]) (fun i => bx1 b2 a1.kind a1.text a1.trail a1.kids :: F) (fun i => i5 = i) ?_ ?_
 refine gs ?_
 refine C_cd rfl e1 (fun e1 => ?_) (fun e1 => ?_)
 refine go ?_
 exact jm e1 (tl [0] 0 rfl rfl)
 refine gs ?_
 refine C_cd rfl e1 (fun e1 => ?_) (fun e1 => ?_)
 refine go ?_
 exact jm e1 (tl [0] 0 rfl rfl)
 refine go ?_
 exact jm e1 (tl [0] 0 rfl rfl)
 rintro z hi
 subst hi
 refine C_cd rfl e0 (fun e0 => ?_) (fun e0 => ?_)
 refine gs ?_
 refine W rfl (A_build 26 8 .val [(.func (.func 75) #[] #[])] (ss := [(0, .val ((.func (.func 75) #[] #[])))]) tyE_138 tyZ_26 rfl rfl rfl rfl rfl rfl fun q9 => ?_)
 obtain ⟨r10,hr10,e0⟩:=be e0
 refine W rfl (O_call0 (F := bx1 b2 a1.kind a1.text a1.trail a1.kids :: F) fn_74 rfl (F74_ok hG fuel a1.kids q9 hr10) (sel_perm [0] _) ?_)
 refine go ?_
 obtain rfl := so e0
 refine go ?_
 exact rt [] 2 ⟨rfl, rfl⟩ rfl rfl
 refine gs ?_
 refine C_cd rfl e0 (fun e0 => ?_) (fun e0 => ?_)
 obtain ⟨i12,e1,e0⟩:=be e0
 refine C_cut (ι := Bool) (fun i => [(2, sB i)]) (fun i => F) (fun i => i12 = i) ?_ ?_
 refine go ?_
 refine W rfl (A_build 26 8 .val [(.func (.func 77) #[] #[]), (.func (.func 78) #[] #[])] (ss := [(0, .val ((.func (.func 77) #[] #[]))), (1, .val ((.func (.func 78) #[] #[])))]) tyE_138 tyZ_26 rfl rfl rfl rfl rfl rfl fun q13 => ?_)
 obtain ⟨r14,hr14,e1⟩:=be e1
 refine W rfl (O_call1 (F := bx1 b2 a1.kind a1.text a1.trail a1.kids :: F) fn_76 rfl (F76_ok hG fuel q13 hr14) (sel_perm [0] _) fun b15 => ?_)
 refine W rfl (A_build 26 8 .val [(.func (.func 75) #[] #[]), (.func (.func 78) #[] #[])] (ss := [(0, .val ((.func (.func 75) #[] #[]))), (1, .val ((.func (.func 78) #[] #[])))]) tyE_138 tyZ_26 rfl rfl rfl rfl rfl rfl fun q16 => ?_)
 obtain ⟨r17,hr17,e1⟩:=be e1
 refine W rfl (O_call1 (F := ownA (sl q13) 26 .val [(.func (.func 77) #[] #[]), (.func (.func 78) #[] #[])] :: boxA b15 138 [.val (sl q13)] :: bx1 b2 a1.kind a1.text a1.trail a1.kids :: F) fn_76 rfl (F76v1_ok hG fuel q16 hr17) (sel_perm [0] _) fun b18 => ?_)
 refine W rfl (A_build 26 8 .val [(.func (.func 106) #[] #[.pointer (some ⟨b15, 0, none⟩)]), (.func (.func 106) #[] #[.pointer (some ⟨b18, 0, none⟩)])] (ss := [(0, .val ((.func (.func 106) #[] #[.pointer (some ⟨b15, 0, none⟩)]))), (1, .val ((.func (.func 106) #[] #[.pointer (some ⟨b18, 0, none⟩)])))]) tyE_138 tyZ_26 rfl rfl rfl rfl rfl rfl fun q19 => ?_)
 obtain ⟨r20,hr20,e1⟩:=be e1
 refine W rfl (O_call0 (F := bx1 b2 a1.kind a1.text a1.trail a1.kids :: F) fn_74 rfl (F74v1_ok hG fuel a1.kids q19 b15 q13 b18 q16 hr20) (sel_perm [0, 3, 2, 1, 0] _) ?_)
 refine go ?_
 obtain ⟨hg21, e1⟩ | ⟨hg21, e1⟩ := bc e1
 refine Wt rfl rfl rfl hg21 rfl rfl (O_move rfl ?_)
 obtain ⟨x22,w22,e1⟩:=be e1
 refine Wt rfl rfl rfl hg21 rfl rfl (O_indexAddr (k := .node) (z := x22) tyL_22 rfl rfl (idx_e w22).1 (idx_e w22).2 ?_)
 refine Wt rfl rfl rfl hg21 rfl rfl (O_load_ipt_all (k := .node) tyA_24 rfl ?_)
 obtain ⟨r23,hr23,e1⟩:=be e1
 refine Wt rfl rfl rfl hg21 rfl rfl (O_callP fn_78 rfl (F78_ok hG fuel x22 hr23) ?_)
 refine Wt rfl rfl rfl hg21 rfl rfl (O_move rfl ?_)
 obtain ⟨hg24, e1⟩ | ⟨hg24, e1⟩ := bc e1
 refine Wt rfl rfl rfl hg24 rfl rfl (O_move rfl ?_)
 obtain ⟨x25,w25,e1⟩:=be e1
 refine Wt rfl rfl rfl hg24 rfl rfl (O_indexAddr (k := .node) (z := x25) tyL_22 rfl rfl (idx_e w25).1 (idx_e w25).2 ?_)
 refine Wt rfl rfl rfl hg24 rfl rfl (O_load_ipt_all (k := .node) tyA_24 rfl ?_)
 obtain ⟨r26,hr26,e1⟩:=be e1
 refine Wt rfl rfl rfl hg24 rfl rfl (O_callP fn_78 rfl (F78_ok hG fuel x25 hr26) ?_)
 refine Wt rfl rfl rfl hg21 rfl rfl (O_pick rfl (fun _ => rfl) (fun h => (no_tf hg24 h).elim) ?_)
 refine Wt rfl rfl rfl hg21 rfl rfl (O_not rfl ?_)
 refine go ?_
 exact jm e1 (tl [] 6 rfl rfl)
 refine go ?_
 refine Wt rfl rfl rfl hg21 rfl rfl (O_pick rfl (fun h => (no_tf h hg24).elim) (fun _ => rfl) ?_)
 refine Wt rfl rfl rfl hg21 rfl rfl (O_not rfl ?_)
 refine go ?_
 exact jm e1 (tl [] 6 rfl rfl)
 refine go ?_
 exact jm e1 (tl [] 6 rfl rfl)
 rintro z hi
 subst hi
 refine go ?_
 obtain rfl := so e0
 refine go ?_
 exact rt [] 0 ⟨rfl, rfl⟩ rfl rfl
 obtain ⟨i27,e1,e0⟩:=be e0
 refine C_cut (ι := Bool) (fun i => [(1, sP b2 0), (3, .isl .node a1.kids), (7, sI a1.kind), (41, sB i)]) (fun i => bx1 b2 a1.kind a1.text a1.trail a1.kids :: F) (fun i => i27 = i) ?_ ?_
 refine gs ?_
 refine C_cd rfl e1 (fun e1 => ?_) (fun e1 => ?_)
 refine go ?_
 exact jm e1 (tl [0] 0 rfl rfl)
 refine gs ?_
 refine C_cd rfl e1 (fun e1 => ?_) (fun e1 => ?_)
 refine go ?_
 exact jm e1 (tl [0] 0 rfl rfl)
 refine gs ?_
 refine C_cd rfl e1 (fun e1 => ?_) (fun e1 => ?_)
 refine go ?_
 exact jm e1 (tl [0] 0 rfl rfl)
 refine gs ?_
 refine C_cd rfl e1 (fun e1 => ?_) (fun e1 => ?_)
 refine go ?_
 exact jm e1 (tl [0] 0 rfl rfl)
 refine go ?_
 exact jm e1 (tl [0] 0 rfl rfl)
 rintro z hi
 subst hi
 refine C_cd rfl e0 (fun e0 => ?_) (fun e0 => ?_)
 refine gs ?_
 refine W rfl (A_build 26 8 .val [(.func (.func 77) #[] #[])] (ss := [(0, .val ((.func (.func 77) #[] #[])))]) tyE_138 tyZ_26 rfl rfl rfl rfl rfl rfl fun q33 => ?_)
 obtain ⟨r34,hr34,e0⟩:=be e0
 refine W rfl (O_call0 (F := bx1 b2 a1.kind a1.text a1.trail a1.kids :: F) fn_74 rfl (F74v2_ok hG fuel a1.kids q33 hr34) (sel_perm [0] _) ?_)
 refine go ?_
 obtain rfl := so e0
 refine go ?_
 exact rt [] 2 ⟨rfl, rfl⟩ rfl rfl
 refine gs ?_
 refine C_cd rfl e0 (fun e0 => ?_) (fun e0 => ?_)
 refine gs ?_
 refine W rfl (A_build 3 8 .int [(16 : Int), (33 : Int)] (ss := [(0, sI (16 : Int)), (1, sI (33 : Int))]) tyE_28 tyZ_3 rfl rfl rfl rfl rfl rfl fun q36 => ?_)
 obtain ⟨r37,hr37,e0⟩:=be e0
 refine W rfl (O_call1 (F := bx1 b2 a1.kind a1.text a1.trail a1.kids :: F) fn_60 rfl (F60_ok hG fuel [(16 : Int), (33 : Int)] q36 hr37) (sel_perm [0] _) fun b38 => ?_)
 refine W rfl (A_build 3 8 .int [(15 : Int)] (ss := [(0, sI (15 : Int))]) tyE_28 tyZ_3 rfl rfl rfl rfl rfl rfl fun q39 => ?_)
 obtain ⟨r40,hr40,e0⟩:=be e0
 refine W rfl (O_call1 (F := ownA (sl q36) 3 .int [(16 : Int), (33 : Int)] :: boxA b38 28 [.val (sl q36)] :: bx1 b2 a1.kind a1.text a1.trail a1.kids :: F) fn_60 rfl (F60_ok hG fuel [(15 : Int)] q39 hr40) (sel_perm [0] _) fun b41 => ?_)
 refine W rfl (A_build 26 8 .val [(.func (.func 77) #[] #[]), (.func (.func 78) #[] #[])] (ss := [(0, .val ((.func (.func 77) #[] #[]))), (1, .val ((.func (.func 78) #[] #[])))]) tyE_138 tyZ_26 rfl rfl rfl rfl rfl rfl fun q42 => ?_)
 obtain ⟨r43,hr43,e0⟩:=be e0
 refine W rfl (O_call1 (F := ownA (sl q39) 3 .int [(15 : Int)] :: boxA b41 28 [.val (sl q39)] :: ownA (sl q36) 3 .int [(16 : Int), (33 : Int)] :: boxA b38 28 [.val (sl q36)] :: bx1 b2 a1.kind a1.text a1.trail a1.kids :: F) fn_76 rfl (F76_ok hG fuel q42 hr43) (sel_perm [0] _) fun b44 => ?_)
 refine W rfl (A_build 3 8 .int [(17 : Int)] (ss := [(0, sI (17 : Int))]) tyE_28 tyZ_3 rfl rfl rfl rfl rfl rfl fun q45 => ?_)
 obtain ⟨r46,hr46,e0⟩:=be e0
 refine W rfl (O_call1 (F := ownA (sl q42) 26 .val [(.func (.func 77) #[] #[]), (.func (.func 78) #[] #[])] :: boxA b44 138 [.val (sl q42)] :: ownA (sl q39) 3 .int [(15 : Int)] :: boxA b41 28 [.val (sl q39)] :: ownA (sl q36) 3 .int [(16 : Int), (33 : Int)] :: boxA b38 28 [.val (sl q36)] :: bx1 b2 a1.kind a1.text a1.trail a1.kids :: F) fn_60 rfl (F60_ok hG fuel [(17 : Int)] q45 hr46) (sel_perm [0] _) fun b47 => ?_)
 refine W rfl (A_build 26 8 .val [(.func (.func 83) #[] #[.pointer (some ⟨b38, 0, none⟩)]), (.func (.func 83) #[] #[.pointer (some ⟨b41, 0, none⟩)]), (.func (.func 106) #[] #[.pointer (some ⟨b44, 0, none⟩)]), (.func (.func 83) #[] #[.pointer (some ⟨b47, 0, none⟩)])] (ss := [(0, .val ((.func (.func 83) #[] #[.pointer (some ⟨b38, 0, none⟩)]))), (1, .val ((.func (.func 83) #[] #[.pointer (some ⟨b41, 0, none⟩)]))), (2, .val ((.func (.func 106) #[] #[.pointer (some ⟨b44, 0, none⟩)]))), (3, .val ((.func (.func 83) #[] #[.pointer (some ⟨b47, 0, none⟩)])))]) tyE_138 tyZ_26 rfl rfl rfl rfl rfl rfl fun q48 => ?_)
 obtain ⟨r49,hr49,e0⟩:=be e0
 refine W rfl (O_call0 (F := bx1 b2 a1.kind a1.text a1.trail a1.kids :: F) fn_74 rfl (F74v3_ok hG fuel a1.kids [(16 : Int), (33 : Int)] [(15 : Int)] [(17 : Int)] q48 b38 q36 b41 q39 b44 q42 b47 q45 hr49) (sel_perm [0, 7, 6, 5, 4, 3, 2, 1, 0] _) ?_)
 refine go ?_
 obtain rfl := so e0
 refine go ?_
 exact rt [] 10 ⟨rfl, rfl⟩ rfl rfl
 refine gs ?_
 refine C_cd rfl e0 (fun e0 => ?_) (fun e0 => ?_)
 refine gs ?_
 refine W rfl (A_build 26 8 .val [(.func (.func 77) #[] #[]), (.func (.func 77) #[] #[])] (ss := [(0, .val ((.func (.func 77) #[] #[]))), (1, .val ((.func (.func 77) #[] #[])))]) tyE_138 tyZ_26 rfl rfl rfl rfl rfl rfl fun q51 => ?_)
 obtain ⟨r52,hr52,e0⟩:=be e0
 refine W rfl (O_call0 (F := bx1 b2 a1.kind a1.text a1.trail a1.kids :: F) fn_74 rfl (F74v4_ok hG fuel a1.kids q51 hr52) (sel_perm [0] _) ?_)
 refine go ?_
 obtain rfl := so e0
 refine go ?_
 exact rt [] 2 ⟨rfl, rfl⟩ rfl rfl
 refine gs ?_
 refine C_cd rfl e0 (fun e0 => ?_) (fun e0 => ?_)
 refine gs ?_
 refine W rfl (A_build 3 8 .int [(14 : Int), (8 : Int)] (ss := [(0, sI (14 : Int)), (1, sI (8 : Int))]) tyE_28 tyZ_3 rfl rfl rfl rfl rfl rfl fun q54 => ?_)
 obtain ⟨r55,hr55,e0⟩:=be e0
 refine W rfl (O_call1 (F := bx1 b2 a1.kind a1.text a1.trail a1.kids :: F) fn_60 rfl (F60_ok hG fuel [(14 : Int), (8 : Int)] q54 hr55) (sel_perm [0] _) fun b56 => ?_)
 obtain ⟨r57,hr57,e0⟩:=be e0
 refine W rfl (O_call0 (F := bx1 b2 a1.kind a1.text a1.trail a1.kids :: F) fn_79 rfl (F79_ok hG fuel a1.kids [(14 : Int), (8 : Int)] b56 q54 hr57) (sel_perm [1, 0] _) ?_)
 refine go ?_
 obtain rfl := so e0
 refine go ?_
 exact rt [] 3 ⟨rfl, rfl⟩ rfl rfl
 refine gs ?_
 refine C_cd rfl e0 (fun e0 => ?_) (fun e0 => ?_)
 refine gs ?_
 refine W rfl (A_build 3 8 .int [(16 : Int)] (ss := [(0, sI (16 : Int))]) tyE_28 tyZ_3 rfl rfl rfl rfl rfl rfl fun q59 => ?_)
 obtain ⟨r60,hr60,e0⟩:=be e0
 refine W rfl (O_call1 (F := bx1 b2 a1.kind a1.text a1.trail a1.kids :: F) fn_60 rfl (F60_ok hG fuel [(16 : Int)] q59 hr60) (sel_perm [0] _) fun b61 => ?_)
 obtain ⟨r62,hr62,e0⟩:=be e0
 refine W rfl (O_call0 (F := bx1 b2 a1.kind a1.text a1.trail a1.kids :: F) fn_79 rfl (F79_ok hG fuel a1.kids [(16 : Int)] b61 q59 hr62) (sel_perm [1, 0] _) ?_)
 refine go ?_
 obtain rfl := so e0
 refine go ?_
 exact rt [] 3 ⟨rfl, rfl⟩ rfl rfl
 refine gs ?_
 refine C_cd rfl e0 (fun e0 => ?_) (fun e0 => ?_)
 refine gs ?_
 obtain ⟨r64,hr64,e0⟩:=be e0
 refine W rfl (O_callP fn_79 rfl (F79v1_ok hG fuel a1.kids hr64) ?_)
 refine go ?_
 obtain rfl := so e0
 refine go ?_
 exact rt [] 1 ⟨rfl, rfl⟩ rfl rfl
 refine gs ?_
 refine C_cd rfl e0 (fun e0 => ?_) (fun e0 => ?_)
 refine gs ?_
 refine W rfl (A_build 3 8 .int [(17 : Int)] (ss := [(0, sI (17 : Int))]) tyE_28 tyZ_3 rfl rfl rfl rfl rfl rfl fun q66 => ?_)
 obtain ⟨r67,hr67,e0⟩:=be e0
 refine W rfl (O_call1 (F := bx1 b2 a1.kind a1.text a1.trail a1.kids :: F) fn_60 rfl (F60_ok hG fuel [(17 : Int)] q66 hr67) (sel_perm [0] _) fun b68 => ?_)
 refine W rfl (A_build 3 8 .int [(17 : Int), (18 : Int), (33 : Int)] (ss := [(0, sI (17 : Int)), (1, sI (18 : Int)), (2, sI (33 : Int))]) tyE_28 tyZ_3 rfl rfl rfl rfl rfl rfl fun q69 => ?_)
 obtain ⟨r70,hr70,e0⟩:=be e0
 refine W rfl (O_call1 (F := ownA (sl q66) 3 .int [(17 : Int)] :: boxA b68 28 [.val (sl q66)] :: bx1 b2 a1.kind a1.text a1.trail a1.kids :: F) fn_60 rfl (F60_ok hG fuel [(17 : Int), (18 : Int), (33 : Int)] q69 hr70) (sel_perm [0] _) fun b71 => ?_)
 refine W rfl (A_build 26 8 .val [(.func (.func 75) #[] #[]), (.func (.func 83) #[] #[.pointer (some ⟨b68, 0, none⟩)]), (.func (.func 83) #[] #[.pointer (some ⟨b71, 0, none⟩)])] (ss := [(0, .val ((.func (.func 75) #[] #[]))), (1, .val ((.func (.func 83) #[] #[.pointer (some ⟨b68, 0, none⟩)]))), (2, .val ((.func (.func 83) #[] #[.pointer (some ⟨b71, 0, none⟩)])))]) tyE_138 tyZ_26 rfl rfl rfl rfl rfl rfl fun q72 => ?_)
 obtain ⟨r73,hr73,e0⟩:=be e0
 refine W rfl (O_call0 (F := bx1 b2 a1.kind a1.text a1.trail a1.kids :: F) fn_74 rfl (F74v5_ok hG fuel a1.kids [(17 : Int)] [(17 : Int), (18 : Int), (33 : Int)] q72 b68 q66 b71 q69 hr73) (sel_perm [0, 3, 2, 1, 0] _) ?_)
 refine go ?_
 obtain rfl := so e0
 refine go ?_
 exact rt [] 6 ⟨rfl, rfl⟩ rfl rfl
 refine gs ?_
 refine C_cd rfl e0 (fun e0 => ?_) (fun e0 => ?_)
 refine gs ?_
 refine W rfl (A_build 26 8 .val [(.func (.func 75) #[] #[]), (.func (.func 78) #[] #[])] (ss := [(0, .val ((.func (.func 75) #[] #[]))), (1, .val ((.func (.func 78) #[] #[])))]) tyE_138 tyZ_26 rfl rfl rfl rfl rfl rfl fun q75 => ?_)
 obtain ⟨r76,hr76,e0⟩:=be e0
 refine W rfl (O_call1 (F := bx1 b2 a1.kind a1.text a1.trail a1.kids :: F) fn_76 rfl (F76v1_ok hG fuel q75 hr76) (sel_perm [0] _) fun b77 => ?_)
 refine W rfl (A_build 3 8 .int [(17 : Int)] (ss := [(0, sI (17 : Int))]) tyE_28 tyZ_3 rfl rfl rfl rfl rfl rfl fun q78 => ?_)
 obtain ⟨r79,hr79,e0⟩:=be e0
 refine W rfl (O_call1 (F := ownA (sl q75) 26 .val [(.func (.func 75) #[] #[]), (.func (.func 78) #[] #[])] :: boxA b77 138 [.val (sl q75)] :: bx1 b2 a1.kind a1.text a1.trail a1.kids :: F) fn_60 rfl (F60_ok hG fuel [(17 : Int)] q78 hr79) (sel_perm [0] _) fun b80 => ?_)
 refine W rfl (A_build 26 8 .val [(.func (.func 106) #[] #[.pointer (some ⟨b77, 0, none⟩)]), (.func (.func 83) #[] #[.pointer (some ⟨b80, 0, none⟩)])] (ss := [(0, .val ((.func (.func 106) #[] #[.pointer (some ⟨b77, 0, none⟩)]))), (1, .val ((.func (.func 83) #[] #[.pointer (some ⟨b80, 0, none⟩)])))]) tyE_138 tyZ_26 rfl rfl rfl rfl rfl rfl fun q81 => ?_)
 obtain ⟨r82,hr82,e0⟩:=be e0
 refine W rfl (O_call0 (F := bx1 b2 a1.kind a1.text a1.trail a1.kids :: F) fn_74 rfl (F74v6_ok hG fuel a1.kids [(17 : Int)] q81 b77 q75 b80 q78 hr82) (sel_perm [0, 3, 2, 1, 0] _) ?_)
 refine go ?_
 obtain rfl := so e0
 refine go ?_
 exact rt [] 6 ⟨rfl, rfl⟩ rfl rfl
 refine gs ?_
 refine C_cd rfl e0 (fun e0 => ?_) (fun e0 => ?_)
 refine gs ?_
 obtain ⟨r84,hr84,e0⟩:=be e0
 refine W rfl (O_callP fn_79 rfl (F79v2_ok hG fuel a1.kids hr84) ?_)
 refine go ?_
 obtain rfl := so e0
 refine go ?_
 exact rt [] 1 ⟨rfl, rfl⟩ rfl rfl
 refine gs ?_
 refine C_cd rfl e0 (fun e0 => ?_) (fun e0 => ?_)
 obtain ⟨i86,e1,e0⟩:=be e0
 refine C_cut (ι := Bool) (fun i => [(2, sB i)]) (fun i => F) (fun i => i86 = i) ?_ ?_
 refine go ?_
 refine W rfl (A_build 26 8 .val [(.func (.func 81) #[] #[]), (.func (.func 75) #[] #[])] (ss := [(0, .val ((.func (.func 81) #[] #[]))), (1, .val ((.func (.func 75) #[] #[])))]) tyE_138 tyZ_26 rfl rfl rfl rfl rfl rfl fun q87 => ?_)
 obtain ⟨r88,hr88,e1⟩:=be e1
 refine W rfl (O_call0 (F := bx1 b2 a1.kind a1.text a1.trail a1.kids :: F) fn_74 rfl (F74v7_ok hG fuel a1.kids q87 hr88) (sel_perm [0] _) ?_)
 refine go ?_
 obtain ⟨hg89, e1⟩ | ⟨hg89, e1⟩ := bc e1
 refine Wt rfl rfl rfl hg89 rfl rfl (O_fieldAddr tyF_24_1 rfl ?_)
 refine Wt rfl rfl rfl hg89 rfl rfl (O_load ty1_9 rfl rfl ?_)
 refine Wt rfl rfl rfl hg89 rfl rfl (O_sne rfl rfl ?_)
 refine Wt rfl rfl rfl hg89 rfl rfl (O_move rfl ?_)
 obtain ⟨hg90, e1⟩ | ⟨hg90, e1⟩ := bc e1
 refine go ?_
 refine Wt rfl rfl rfl hg89 rfl rfl (O_pick rfl (fun _ => rfl) (fun h => (no_tf hg90 h).elim) ?_)
 refine go ?_
 exact jm e1 (tl [] 2 rfl rfl)
 refine Wt rfl rfl rfl hg90 rfl rfl (O_move rfl ?_)
 obtain ⟨x91,w91,e1⟩:=be e1
 refine Wt rfl rfl rfl hg90 rfl rfl (O_indexAddr (k := .node) (z := x91) tyL_22 rfl rfl (idx_e w91).1 (idx_e w91).2 ?_)
 refine Wt rfl rfl rfl hg90 rfl rfl (O_fieldAddr_ipt tyF_24_0 rfl ?_)
 refine Wt rfl rfl rfl hg90 rfl rfl (O_load_ipt ty1_3 rfl rfl ?_)
 refine Wt rfl rfl rfl hg90 rfl rfl (O_cmp rfl rfl rfl ?_)
 refine Wt rfl rfl rfl hg89 rfl rfl (O_pick rfl (fun h => (no_tf h hg90).elim) (fun _ => rfl) ?_)
 refine go ?_
 exact jm e1 (tl [] 2 rfl rfl)
 refine go ?_
 exact jm e1 (tl [] 2 rfl rfl)
 rintro z hi
 subst hi
 refine go ?_
 obtain rfl := so e0
 refine go ?_
 exact rt [] 0 ⟨rfl, rfl⟩ rfl rfl
 refine gs ?_
 refine C_cd rfl e0 (fun e0 => ?_) (fun e0 => ?_)
 refine gs ?_
 refine W rfl (A_build 26 8 .val [(.func (.func 81) #[] #[])] (ss := [(0, .val ((.func (.func 81) #[] #[])))]) tyE_138 tyZ_26 rfl rfl rfl rfl rfl rfl fun q93 => ?_)
 obtain ⟨r94,hr94,e0⟩:=be e0
 refine W rfl (O_call0 (F := bx1 b2 a1.kind a1.text a1.trail a1.kids :: F) fn_74 rfl (F74v8_ok hG fuel a1.kids q93 hr94) (sel_perm [0] _) ?_)
 refine go ?_
 obtain rfl := so e0
 refine go ?_
 exact rt [] 2 ⟨rfl, rfl⟩ rfl rfl
 refine gs ?_
 refine C_cd rfl e0 (fun e0 => ?_) (fun e0 => ?_)
 refine gs ?_
 refine W rfl (A_build 3 8 .int [(30 : Int)] (ss := [(0, sI (30 : Int))]) tyE_28 tyZ_3 rfl rfl rfl rfl rfl rfl fun q96 => ?_)
 obtain ⟨r97,hr97,e0⟩:=be e0
 refine W rfl (O_call1 (F := bx1 b2 a1.kind a1.text a1.trail a1.kids :: F) fn_60 rfl (F60_ok hG fuel [(30 : Int)] q96 hr97) (sel_perm [0] _) fun b98 => ?_)
 refine W rfl (A_build 26 8 .val [(.func (.func 83) #[] #[.pointer (some ⟨b98, 0, none⟩)])] (ss := [(0, .val ((.func (.func 83) #[] #[.pointer (some ⟨b98, 0, none⟩)])))]) tyE_138 tyZ_26 rfl rfl rfl rfl rfl rfl fun q99 => ?_)
 obtain ⟨r100,hr100,e0⟩:=be e0
 refine W rfl (O_call0 (F := bx1 b2 a1.kind a1.text a1.trail a1.kids :: F) fn_74 rfl (F74v9_ok hG fuel a1.kids [(30 : Int)] q99 b98 q96 hr100) (sel_perm [0, 1, 0] _) ?_)
 refine go ?_
 obtain rfl := so e0
 refine go ?_
 exact rt [] 4 ⟨rfl, rfl⟩ rfl rfl
 obtain ⟨i101,e1,e0⟩:=be e0
 refine C_cut (ι := Bool) (fun i => [(3, .isl .node a1.kids), (7, sI a1.kind), (135, sB i)]) (fun i => F) (fun i => i101 = i) ?_ ?_
 refine gs ?_
 refine C_cd rfl e1 (fun e1 => ?_) (fun e1 => ?_)
 refine go ?_
 exact jm e1 (tl [] 1 rfl rfl)
 refine go ?_
 exact jm e1 (tl [] 1 rfl rfl)
 rintro z hi
 subst hi
 refine C_cd rfl e0 (fun e0 => ?_) (fun e0 => ?_)
 refine gs ?_
 refine W rfl (A_build 26 8 .val [(.func (.func 75) #[] #[]), (.func (.func 75) #[] #[])] (ss := [(0, .val ((.func (.func 75) #[] #[]))), (1, .val ((.func (.func 75) #[] #[])))]) tyE_138 tyZ_26 rfl rfl rfl rfl rfl rfl fun q104 => ?_)
 obtain ⟨r105,hr105,e0⟩:=be e0
 refine W rfl (O_call0 (F := F) fn_74 rfl (F74v10_ok hG fuel a1.kids q104 hr105) (sel_perm [0] _) ?_)
 refine go ?_
 obtain rfl := so e0
 refine go ?_
 exact rt [] 1 ⟨rfl, rfl⟩ rfl rfl
 refine gs ?_
 refine C_cd rfl e0 (fun e0 => ?_) (fun e0 => ?_)
 obtain ⟨i107,e1,e0⟩:=be e0
 refine C_cut (ι := Bool) (fun i => [(2, sB i)]) (fun i => F) (fun i => i107 = i) ?_ ?_
 refine go ?_
 obtain ⟨hg108, e1⟩ | ⟨hg108, e1⟩ := bc e1
 refine Wt rfl rfl rfl hg108 rfl rfl (O_move rfl ?_)
 obtain ⟨r109,hr109,e1⟩:=be e1
 refine Wt rfl rfl rfl hg108 rfl rfl (O_callP fn_79 rfl (F79v2_ok hG fuel a1.kids hr109) ?_)
 refine go ?_
 exact jm e1 (tl [] 0 rfl rfl)
 refine go ?_
 exact jm e1 (tl [] 0 rfl rfl)
 rintro z hi
 subst hi
 refine go ?_
 obtain rfl := so e0
 refine go ?_
 exact rt [] 0 ⟨rfl, rfl⟩ rfl rfl
 refine go ?_
 refine gs ?_
 obtain rfl := so e0
 refine go ?_
 exact rt [] 0 ⟨rfl, rfl⟩ rfl rfl
def F85 (fuel : Nat) (a1 : Tree) (a2 : Int) : Option (Bool) :=
 Option.bind (α := Bool) (
 bif (decide (a2 < (0 : Int))) then (
 some true) else (
 some (decide (a2 ≥ (a1.kids.length : Int))))) fun i4 =>
 bif i4 then (
 some false) else (
 (idx a1.kids a2).bind fun x7 =>
 bif (a1.kind == (29 : Int)) then (
 (F72 fuel a1.text).bind fun r10 =>
 (F72 fuel x7.text).bind fun r11 =>
 Option.bind (α := Bool) (
 bif (x7.kind == (29 : Int)) then (
 bif (a2 == (0 : Int)) then (
 bif (decide (r11 < r10)) then (
 some true) else (
 bif (a2 == (1 : Int)) then (
 some (decide (r11 ≤ r10))) else (
 some false))) else (
 bif (a2 == (1 : Int)) then (
 some (decide (r11 ≤ r10))) else (
 some false))) else (
 some false)) fun i12 =>
 some i12) else (
 bif (a1.kind == (28 : Int)) then (
 Option.bind (α := Bool) (
 bif (x7.kind == (29 : Int)) then (
 some true) else (
 some (x7.kind == (28 : Int)))) fun i19 =>
 some i19) else (
 Option.bind (α := Bool) (
 bif (a1.kind == (30 : Int)) then (
 some (a1.kind == (30 : Int))) else (
 bif (a1.kind == (31 : Int)) then (
 some (a1.kind == (31 : Int))) else (
 some (a1.kind == (32 : Int))))) fun i21 =>
 bif i21 then (
 Option.bind (α := Bool) (
 bif (a2 == (0 : Int)) then (
 bif (x7.kind == (29 : Int)) then (
 some true) else (
 some (x7.kind == (28 : Int)))) else (
 some false)) fun i25 =>
 some i25) else (
 some false))))
theorem F85_ok {w0 : World} (hG : Globs w0) (fuel : Nat) : ∀ (a1 : Tree) (a2 : Int) {r : Bool} (e0 : F85 fuel a1 a2 = some r), Fn w0 prog 85 [.agg [sI a1.kind, sS a1.text, sS a1.trail, .isl .node a1.kids], sI a2] [] (fun s H => s = sB r ∧ H = []) := by
 intro a1 a2 r e0
 rw [F85] at e0
 refine fn_intro2 79 [.tmp 4] func85 rfl rfl rfl rfl fun X hX F => ?_
 refine C_turn (T_start [(0, .agg [sI a1.kind, sS a1.text, sS a1.trail, .isl .node a1.kids]),(1, sI a2)] rfl (F) rfl) ?_
 refine gs ?_
 refine W rfl (O_box rfl rfl fun b3 => ?_)
 refine go ?_
 refine C_seq ?_
 obtain ⟨i4,e1,e0⟩:=be e0
 refine C_cut (ι := Bool) (fun i => [(1, sI a2),(2, sP b3 0),(16, sB i)]) (fun i => bx1 b3 a1.kind a1.text a1.trail a1.kids :: F) (fun i => i4 = i) ?_ ?_
 refine go ?_
 obtain ⟨hg5, e1⟩ | ⟨hg5, e1⟩ := bc e1
 refine go ?_
 exact jm e1 (tl [0] 0 rfl rfl)
 refine Wt rfl rfl rfl hg5 rfl rfl (O_move rfl ?_)
 refine Wt rfl rfl rfl hg5 rfl rfl (O_fieldAddr tyF_24_3 rfl ?_)
 refine Wt rfl rfl rfl hg5 rfl rfl (O_load ty1_22 rfl rfl ?_)
 refine Wt rfl rfl rfl hg5 rfl rfl (O_len_isl tyl_22 rfl ?_)
 refine Wt rfl rfl rfl hg5 rfl rfl (O_cmp rfl rfl rfl ?_)
 refine go ?_
 exact jm e1 (tl [0] 0 rfl rfl)
 rintro z hi
 subst hi
 refine C_cd rfl e0 (fun e0 => ?_) (fun e0 => ?_)
 refine gs ?_
 obtain rfl := so e0
 refine go ?_
 exact rt [] 1 ⟨rfl, rfl⟩ rfl rfl
 refine go ?_
 refine gs ?_
 obtain ⟨x7,w7,e0⟩:=be e0
 refine W rfl (O_indexAddr (k := .node) (z := x7) tyL_22 rfl rfl (idx_e w7).1 (idx_e w7).2 ?_)
 refine W rfl (O_load_ipt_all (k := .node) tyA_24 rfl ?_)
 refine W rfl (O_alloc tyZ_24 rfl fun b8 => ?_)
 refine Wn (S_any [sI x7.kind, sS x7.text, sS x7.trail, .isl .node x7.kids] tyS_24 rfl rfl rfl rfl (Nat.le_of_ble_eq_true rfl) rfl ?_)
 refine go ?_
 refine C_seq ?_
 refine gs ?_
 refine gs ?_
 refine C_cd rfl e0 (fun e0 => ?_) (fun e0 => ?_)
 refine C_seq ?_
 refine C_draw2 [(0,fr),(1,pu),(3,fr),(4,pu),(2,mn),(5,mn),(6,fr),(7,fr)] [false, false] [] (bx1 b8 x7.kind x7.text x7.trail x7.kids :: bx1 b3 a1.kind a1.text a1.trail a1.kids :: F) rfl rfl rfl (by kernel_rfl) rfl ?_
 refine gd ?_
 obtain ⟨r10,hr10,e0⟩:=be e0
 refine D_main rfl (D_mainX rfl fun G => O_callP fn_72 rfl (F72_ok hG fuel a1.text hr10) (D_end ?_))
 obtain ⟨r11,hr11,e0⟩:=be e0
 refine D_main rfl (D_mainX rfl fun G => O_callP fn_72 rfl (F72_ok hG fuel x7.text hr11) (D_end ?_))
 refine gd ?_
 refine D_nil ?_
 obtain ⟨i12,e1,e0⟩:=be e0
 refine C_cut (ι := Bool) (fun i => [(4, sB i)]) (fun i => F) (fun i => i12 = i) ?_ ?_
 refine go ?_
 obtain ⟨hg13, e1⟩ | ⟨hg13, e1⟩ := bc e1
 refine Wt rfl rfl rfl hg13 rfl rfl (O_move rfl ?_)
 refine Wt rfl rfl rfl hg13 rfl rfl (O_cmp rfl rfl rfl ?_)
 refine Wt rfl rfl rfl hg13 rfl rfl (O_move rfl ?_)
 obtain ⟨hg14, e1⟩ | ⟨hg14, e1⟩ := bc e1
 refine Wt rfl rfl rfl hg14 rfl rfl (O_move rfl ?_)
 refine Wt rfl rfl rfl hg14 rfl rfl (O_move rfl ?_)
 refine Wt rfl rfl rfl hg14 rfl rfl (O_cmp rfl rfl rfl ?_)
 refine Wt rfl rfl rfl hg13 rfl rfl (O_pick rfl (fun _ => rfl) (fun h => (no_tf hg14 h).elim) ?_)
 refine Wt rfl rfl rfl hg13 rfl rfl (O_move rfl ?_)
 obtain ⟨hg15, e1⟩ | ⟨hg15, e1⟩ := bc e1
 refine go ?_
 refine Wt rfl rfl rfl hg13 rfl rfl (O_pick rfl (fun _ => rfl) (fun h => (no_tf hg15 h).elim) ?_)
 refine go ?_
 exact jm e1 (tl [] 2 rfl rfl)
 refine Wt rfl rfl rfl hg15 rfl rfl (O_move rfl ?_)
 refine Wt rfl rfl rfl hg15 rfl rfl (O_cmp rfl rfl rfl ?_)
 refine Wt rfl rfl rfl hg15 rfl rfl (O_move rfl ?_)
 obtain ⟨hg16, e1⟩ | ⟨hg16, e1⟩ := bc e1
 refine Wt rfl rfl rfl hg16 rfl rfl (O_move rfl ?_)
 refine Wt rfl rfl rfl hg16 rfl rfl (O_move rfl ?_)
 refine Wt rfl rfl rfl hg16 rfl rfl (O_cmp rfl rfl rfl ?_)
 refine Wt rfl rfl rfl hg15 rfl rfl (O_pick rfl (fun _ => rfl) (fun h => (no_tf hg16 h).elim) ?_)
 refine Wt rfl rfl rfl hg13 rfl rfl (O_pick rfl (fun h => (no_tf h hg15).elim) (fun _ => rfl) ?_)
 refine go ?_
 exact jm e1 (tl [] 2 rfl rfl)
 refine go ?_
 refine Wt rfl rfl rfl hg15 rfl rfl (O_pick rfl (fun h => (no_tf h hg16).elim) (fun _ => rfl) ?_)
 refine Wt rfl rfl rfl hg13 rfl rfl (O_pick rfl (fun h => (no_tf h hg15).elim) (fun _ => rfl) ?_)
 refine go ?_
 exact jm e1 (tl [] 2 rfl rfl)
 refine go ?_
 refine Wt rfl rfl rfl hg13 rfl rfl (O_pick rfl (fun h => (no_tf h hg14).elim) (fun _ => rfl) ?_)
 refine Wt rfl rfl rfl hg13 rfl rfl (O_move rfl ?_)
 refine Wt rfl rfl rfl rfl rfl rfl (O_move rfl ?_)
 refine Wt rfl rfl rfl rfl rfl rfl (O_cmp rfl rfl rfl ?_)
 refine Wt rfl rfl rfl rfl rfl rfl (O_move rfl ?_)
 obtain ⟨hg17, e1⟩ | ⟨hg17, e1⟩ := bc e1
 refine Wt rfl rfl rfl hg17 rfl rfl (O_move rfl ?_)
 refine Wt rfl rfl rfl hg17 rfl rfl (O_move rfl ?_)
 refine Wt rfl rfl rfl hg17 rfl rfl (O_cmp rfl rfl rfl ?_)
 refine Wt rfl rfl rfl rfl rfl rfl (O_pick rfl (fun _ => rfl) (fun h => (no_tf hg17 h).elim) ?_)
 refine Wt rfl rfl rfl hg13 rfl rfl (O_pick rfl (fun h => (no_tf h rfl).elim) (fun _ => rfl) ?_)
 refine go ?_
 exact jm e1 (tl [] 2 rfl rfl)
 refine go ?_
 refine Wt rfl rfl rfl rfl rfl rfl (O_pick rfl (fun h => (no_tf h hg17).elim) (fun _ => rfl) ?_)
 refine Wt rfl rfl rfl hg13 rfl rfl (O_pick rfl (fun h => (no_tf h rfl).elim) (fun _ => rfl) ?_)
 refine go ?_
 exact jm e1 (tl [] 2 rfl rfl)
 refine go ?_
 exact jm e1 (tl [] 2 rfl rfl)
 rintro z hi
 subst hi
 refine go ?_
 obtain rfl := so e0
 refine go ?_
 exact rt [] 0 ⟨rfl, rfl⟩ rfl rfl
 refine gs ?_
 refine C_cd rfl e0 (fun e0 => ?_) (fun e0 => ?_)
 obtain ⟨i19,e1,e0⟩:=be e0
 refine C_cut (ι := Bool) (fun i => [(4, sB i)]) (fun i => F) (fun i => i19 = i) ?_ ?_
 refine go ?_
 obtain ⟨hg20, e1⟩ | ⟨hg20, e1⟩ := bc e1
 refine go ?_
 exact jm e1 (tl [] 2 rfl rfl)
 refine Wt rfl rfl rfl hg20 rfl rfl (O_fieldAddr tyF_24_0 rfl ?_)
 refine Wt rfl rfl rfl hg20 rfl rfl (O_load ty1_3 rfl rfl ?_)
 refine Wt rfl rfl rfl hg20 rfl rfl (O_cmp rfl rfl rfl ?_)
 refine go ?_
 exact jm e1 (tl [] 2 rfl rfl)
 rintro z hi
 subst hi
 refine go ?_
 obtain rfl := so e0
 refine go ?_
 exact rt [] 0 ⟨rfl, rfl⟩ rfl rfl
 obtain ⟨i21,e1,e0⟩:=be e0
 refine C_cut (ι := Bool) (fun i => [(1, sI a2),(5, sP b8 0),(63, sB i)]) (fun i => bx1 b8 x7.kind x7.text x7.trail x7.kids :: F) (fun i => i21 = i) ?_ ?_
 refine gs ?_
 refine C_cd rfl e1 (fun e1 => ?_) (fun e1 => ?_)
 refine go ?_
 exact jm e1 (tl [0] 1 rfl rfl)
 refine gs ?_
 refine C_cd rfl e1 (fun e1 => ?_) (fun e1 => ?_)
 refine go ?_
 exact jm e1 (tl [0] 1 rfl rfl)
 refine go ?_
 exact jm e1 (tl [0] 1 rfl rfl)
 rintro z hi
 subst hi
 refine C_cd rfl e0 (fun e0 => ?_) (fun e0 => ?_)
 obtain ⟨i25,e1,e0⟩:=be e0
 refine C_cut (ι := Bool) (fun i => [(4, sB i)]) (fun i => F) (fun i => i25 = i) ?_ ?_
 refine go ?_
 obtain ⟨hg26, e1⟩ | ⟨hg26, e1⟩ := bc e1
 refine Wt rfl rfl rfl hg26 rfl rfl (O_fieldAddr tyF_24_0 rfl ?_)
 refine Wt rfl rfl rfl hg26 rfl rfl (O_load ty1_3 rfl rfl ?_)
 refine Wt rfl rfl rfl hg26 rfl rfl (O_cmp rfl rfl rfl ?_)
 refine Wt rfl rfl rfl hg26 rfl rfl (O_move rfl ?_)
 obtain ⟨hg27, e1⟩ | ⟨hg27, e1⟩ := bc e1
 refine go ?_
 refine Wt rfl rfl rfl hg26 rfl rfl (O_pick rfl (fun _ => rfl) (fun h => (no_tf hg27 h).elim) ?_)
 refine go ?_
 exact jm e1 (tl [] 1 rfl rfl)
 refine Wt rfl rfl rfl hg27 rfl rfl (O_fieldAddr tyF_24_0 rfl ?_)
 refine Wt rfl rfl rfl hg27 rfl rfl (O_load ty1_3 rfl rfl ?_)
 refine Wt rfl rfl rfl hg27 rfl rfl (O_cmp rfl rfl rfl ?_)
 refine Wt rfl rfl rfl hg26 rfl rfl (O_pick rfl (fun h => (no_tf h hg27).elim) (fun _ => rfl) ?_)
 refine go ?_
 exact jm e1 (tl [] 1 rfl rfl)
 refine go ?_
 exact jm e1 (tl [] 1 rfl rfl)
 rintro z hi
 subst hi
 refine go ?_
 obtain rfl := so e0
 refine go ?_
 exact rt [] 0 ⟨rfl, rfl⟩ rfl rfl
 refine go ?_
 refine gs ?_
 obtain rfl := so e0
 refine go ?_
 exact rt [] 1 ⟨rfl, rfl⟩ rfl rfl
def F61 (fuel : Nat) (a1 : Tree) (a2 : Int) : Option (Int) :=
 Option.bind (α := Int) (
 (F85 fuel a1 a2).bind fun r5 =>
 bif r5 then (
 some (1 : Int)) else (
 some (0 : Int))) fun i4 =>
 Option.bind (α := Int) (
 Option.bind (α := Bool) (
 bif (a1.kind == (28 : Int)) then (
 some (a1.kind == (28 : Int))) else (
 bif (a1.kind == (10 : Int)) then (
 some (a1.kind == (10 : Int))) else (
 bif (a1.kind == (11 : Int)) then (
 some (a1.kind == (11 : Int))) else (
 bif (a1.kind == (12 : Int)) then (
 some (a1.kind == (12 : Int))) else (
 bif (a1.kind == (13 : Int)) then (
 some (a1.kind == (13 : Int))) else (
 bif (a1.kind == (15 : Int)) then (
 some (a1.kind == (15 : Int))) else (
 some (a1.kind == (17 : Int))))))))) fun i8 =>
 bif i8 then (
 (ck (i4 + (1 : Int))).bind fun x16 =>
 some x16) else (
 Option.bind (α := Bool) (
 bif (a1.kind == (30 : Int)) then (
 some (a1.kind == (30 : Int))) else (
 some (a1.kind == (31 : Int)))) fun i17 =>
 bif i17 then (
 bif (decide (a2 > (0 : Int))) then (
 (ck (i4 + (1 : Int))).bind fun x21 =>
 some x21) else (
 some i4)) else (
 bif (a1.kind == (18 : Int)) then (
 Option.bind (α := Bool) (
 bif (a2 == (2 : Int)) then (
 (idx a1.kids (2 : Int)).bind fun x25 =>
 some (x25.kind == (18 : Int))) else (
 some false)) fun i23 =>
 bif i23 then (
 (ck (i4 + (1 : Int))).bind fun x27 =>
 some x27) else (
 some i4)) else (
 some i4)))) fun i7 =>
 some i7
theorem F61_ok {w0 : World} (hG : Globs w0) (fuel : Nat) : ∀ (a1 : Tree) (a2 : Int) {r : Int} (e0 : F61 fuel a1 a2 = some r), Fn w0 prog 61 [.agg [sI a1.kind, sS a1.text, sS a1.trail, .isl .node a1.kids], sI a2] [] (fun s H => s = sI r ∧ H = []) := by
 intro a1 a2 r e0
 rw [F61] at e0
 refine fn_intro2 43 [.tmp 4] func61 rfl rfl rfl rfl fun X hX F => ?_
 refine C_turn (T_start [(0, .agg [sI a1.kind, sS a1.text, sS a1.trail, .isl .node a1.kids]), (1, sI a2)] rfl (F) rfl) ?_
 refine gs ?_
 refine W rfl (O_box rfl rfl fun b3 => ?_)
 refine go ?_
 refine gs ?_
 obtain ⟨i4,e1,e0⟩:=be e0
 refine C_cut (ι := Int) (fun i => [(1, sI a2), (2, sP b3 0), (5, sI i)]) (fun i => bx1 b3 a1.kind a1.text a1.trail a1.kids :: F) (fun i => i4 = i) ?_ ?_
 refine gs ?_
 obtain ⟨r5,hr5,e1⟩:=be e1
 refine W rfl (O_callP fn_85 rfl (F85_ok hG fuel a1 a2 hr5) ?_)
 refine go ?_
 refine C_cd rfl e1 (fun e1 => ?_) (fun e1 => ?_)
 refine go ?_
 exact jm e1 (tl [0] 0 rfl rfl)
 refine go ?_
 exact jm e1 (tl [0] 0 rfl rfl)
 rintro z hi
 subst hi
 obtain ⟨i7,e1,e0⟩:=be e0
 refine C_cut (ι := Int) (fun i => [(5, sI i)]) (fun i => F) (fun i => i7 = i) ?_ ?_
 refine gs ?_
 obtain ⟨i8,e2,e1⟩:=be e1
 refine C_cut (ι := Bool) (fun i => [(1, sI a2), (2, sP b3 0), (5, sI i4), (10, sI a1.kind), (11, sB i)]) (fun i => bx1 b3 a1.kind a1.text a1.trail a1.kids :: F) (fun i => i8 = i) ?_ ?_
 refine gs ?_
 refine C_cd rfl e2 (fun e2 => ?_) (fun e2 => ?_)
 refine go ?_
 exact jm e2 (tl [0] 0 rfl rfl)
 refine gs ?_
 refine C_cd rfl e2 (fun e2 => ?_) (fun e2 => ?_)
 refine go ?_
 exact jm e2 (tl [0] 0 rfl rfl)
 refine gs ?_
 refine C_cd rfl e2 (fun e2 => ?_) (fun e2 => ?_)
 refine go ?_
 exact jm e2 (tl [0] 0 rfl rfl)
 refine gs ?_
 refine C_cd rfl e2 (fun e2 => ?_) (fun e2 => ?_)
 refine go ?_
 exact jm e2 (tl [0] 0 rfl rfl)
 refine gs ?_
 refine C_cd rfl e2 (fun e2 => ?_) (fun e2 => ?_)
 refine go ?_
 exact jm e2 (tl [0] 0 rfl rfl)
 refine gs ?_
 refine C_cd rfl e2 (fun e2 => ?_) (fun e2 => ?_)
 refine go ?_
 exact jm e2 (tl [0] 0 rfl rfl)
 refine go ?_
 exact jm e2 (tl [0] 0 rfl rfl)
 rintro z hi
 subst hi
 refine C_cd rfl e1 (fun e1 => ?_) (fun e1 => ?_)
 refine go ?_
 obtain ⟨x16,w16,e1⟩:=be e1
 refine W rfl (O_arI rfl rfl rfl (ck_e w16).2 (W_re (congrArg sI (ck_e w16).1) ?_))
 refine go ?_
 exact jm e1 (tl [] 1 rfl rfl)
 obtain ⟨i17,e2,e1⟩:=be e1
 refine C_cut (ι := Bool) (fun i => [(1, sI a2), (2, sP b3 0), (5, sI i4), (10, sI a1.kind), (21, sB i)]) (fun i => bx1 b3 a1.kind a1.text a1.trail a1.kids :: F) (fun i => i17 = i) ?_ ?_
 refine gs ?_
 refine C_cd rfl e2 (fun e2 => ?_) (fun e2 => ?_)
 refine go ?_
 exact jm e2 (tl [0] 0 rfl rfl)
 refine go ?_
 exact jm e2 (tl [0] 0 rfl rfl)
 rintro z hi
 subst hi
 refine C_cd rfl e1 (fun e1 => ?_) (fun e1 => ?_)
 refine gs ?_
 refine C_cd rfl e1 (fun e1 => ?_) (fun e1 => ?_)
 refine go ?_
 obtain ⟨x21,w21,e1⟩:=be e1
 refine W rfl (O_arI rfl rfl rfl (ck_e w21).2 (W_re (congrArg sI (ck_e w21).1) ?_))
 refine go ?_
 exact jm e1 (tl [] 1 rfl rfl)
 refine go ?_
 exact jm e1 (tl [] 1 rfl rfl)
 refine gs ?_
 refine C_cd rfl e1 (fun e1 => ?_) (fun e1 => ?_)
 obtain ⟨i23,e2,e1⟩:=be e1
 refine C_cut (ι := Bool) (fun i => [(5, sI i4), (39, sB i)]) (fun i => F) (fun i => i23 = i) ?_ ?_
 refine go ?_
 obtain ⟨hg24, e2⟩ | ⟨hg24, e2⟩ := bc e2
 refine Wt rfl rfl rfl hg24 rfl rfl (O_fieldAddr tyF_24_3 rfl ?_)
 refine Wt rfl rfl rfl hg24 rfl rfl (O_load ty1_22 rfl rfl ?_)
 obtain ⟨x25,w25,e2⟩:=be e2
 refine Wt rfl rfl rfl hg24 rfl rfl (O_indexAddr (k := .node) (z := x25) tyL_22 rfl rfl (idx_e w25).1 (idx_e w25).2 ?_)
 refine Wt rfl rfl rfl hg24 rfl rfl (O_fieldAddr_ipt tyF_24_0 rfl ?_)
 refine Wt rfl rfl rfl hg24 rfl rfl (O_load_ipt ty1_3 rfl rfl ?_)
 refine Wt rfl rfl rfl hg24 rfl rfl (O_cmp rfl rfl rfl ?_)
 refine go ?_
 exact jm e2 (tl [] 1 rfl rfl)
 refine go ?_
 exact jm e2 (tl [] 1 rfl rfl)
 rintro z hi
 subst hi
 refine C_cd rfl e1 (fun e1 => ?_) (fun e1 => ?_)
 refine go ?_
 obtain ⟨x27,w27,e1⟩:=be e1
 refine W rfl (O_arI rfl rfl rfl (ck_e w27).2 (W_re (congrArg sI (ck_e w27).1) ?_))
 refine go ?_
 exact jm e1 (tl [] 0 rfl rfl)
 refine go ?_
 exact jm e1 (tl [] 0 rfl rfl)
 refine go ?_
 exact jm e1 (tl [] 1 rfl rfl)
 rintro z hi
 subst hi
 refine gs ?_
 obtain rfl := so e0
 refine go ?_
 exact rt [] 0 ⟨rfl, rfl⟩ rfl rfl
def F40_l24 (self : Tree → Int → Bool → Option (Bool)) (fuel : Nat) (a1 : Tree) (a2 : Int) (r22 : Bool) : Nat → Int → Option ((Unit ⊕ Bool))
 | 0, _ => none
 | n + 1, y25 =>
 bif (decide (y25 < (a1.kids.length : Int))) then (
 (idx a1.kids y25).bind fun x27 =>
 (F61 fuel a1 y25).bind fun r29 =>
 (ck (a2 + r29)).bind fun x30 =>
 (self x27 x30 r22).bind fun r31 =>
 bif (!r31) then (
 some (.inr false)) else (
 (ck (y25 + (1 : Int))).bind fun x33 =>
 F40_l24 self fuel a1 a2 r22 n x33)) else (
 some (.inl ()))
def F40 : Nat → Tree → Int → Bool → Option (Bool)
 | 0, _, _, _ => none
 | fuel + 1, a1, a2, a3 =>
 Option.bind (α := Bool) (
 bif (decide (a2 > (256 : Int))) then (
 some true) else (
 bif (decide (a1.kind < (1 : Int))) then (
 some true) else (
 bif (decide (a1.kind > (33 : Int))) then (
 some true) else (
 (F57 fuel a1).bind fun r9 =>
 bif (!r9) then (
 some true) else (
 (F58 fuel a1).bind fun r11 =>
 some (!r11)))))) fun i5 =>
 bif i5 then (
 some false) else (
 Option.bind (α := Bool) (
 bif (!decide (a1.trail = (⟨#[]⟩ : ByteArray))) then (
 bif (!a3) then (
 some true) else (
 bif (a1.kind == (8 : Int)) then (
 some true) else (
 (F59 fuel a1.trail (5 : Int)).bind fun r17 =>
 some (!r17)))) else (
 some false)) fun i13 =>
 bif i13 then (
 some false) else (
 (F60 fuel [(1 : Int), (17 : Int), (13 : Int)]).bind fun r20 =>
 (F83 fuel a1 [(1 : Int), (17 : Int), (13 : Int)]).bind fun r22 =>
 Option.bind (α := (Unit ⊕ Bool)) (
 F40_l24 (F40 fuel) fuel a1 a2 r22 fuel (0 : Int)) (Sum.elim (fun i23 =>
 some true) (fun z => some z))))
theorem F40_ok {w0 : World} (hG : Globs w0) : ∀ (fuel : Nat), ∀ (a1 : Tree) (a2 : Int) (a3 : Bool) {r : Bool} (e0 : F40 fuel a1 a2 a3 = some r), Fn w0 prog 40 [.agg [sI a1.kind, sS a1.text, sS a1.trail, .isl .node a1.kids], sI a2, sB a3] [] (fun s H => s = sB r ∧ H = []) := by
 intro fuel
 induction fuel with
 | zero => intro a1 a2 a3 r e0; cases e0
 | succ fuel ih =>
 intro a1 a2 a3 r e0
 rw [F40] at e0
 refine fn_intro2 72 [.tmp 6] func40 rfl rfl rfl rfl fun X hX F => ?_
 refine C_turn (T_start [(0, .agg [sI a1.kind, sS a1.text, sS a1.trail, .isl .node a1.kids]),(1, sI a2),(2, sB a3)] rfl (F) rfl) ?_
 refine gs ?_
 refine W rfl (O_box rfl rfl fun b4 => ?_)
 refine go ?_
 refine C_seq ?_
 obtain ⟨i5,e1,e0⟩:=be e0
 refine C_cut (ι := Bool) (fun i => [(1, sI a2),(2, sB a3),(3, sP b4 0),(31, sB i)]) (fun i => bx1 b4 a1.kind a1.text a1.trail a1.kids :: F) (fun i => i5 = i) ?_ ?_
 refine go ?_
 obtain ⟨hg6, e1⟩ | ⟨hg6, e1⟩ := bc e1
 refine go ?_
 exact jm e1 (tl [0] 0 rfl rfl)
 refine Wt rfl rfl rfl hg6 rfl rfl (O_fieldAddr tyF_24_0 rfl ?_)
 refine Wt rfl rfl rfl hg6 rfl rfl (O_load ty1_3 rfl rfl ?_)
 refine Wt rfl rfl rfl hg6 rfl rfl (O_cmp rfl rfl rfl ?_)
 refine go ?_
 obtain ⟨hg7, e1⟩ | ⟨hg7, e1⟩ := bc e1
 refine go ?_
 exact jm e1 (tl [0] 0 rfl rfl)
 refine Wt rfl rfl rfl hg7 rfl rfl (O_fieldAddr tyF_24_0 rfl ?_)
 refine Wt rfl rfl rfl hg7 rfl rfl (O_load ty1_3 rfl rfl ?_)
 refine Wt rfl rfl rfl hg7 rfl rfl (O_cmp rfl rfl rfl ?_)
 refine go ?_
 obtain ⟨hg8, e1⟩ | ⟨hg8, e1⟩ := bc e1
 refine go ?_
 exact jm e1 (tl [0] 0 rfl rfl)
 refine Wt rfl rfl rfl hg8 rfl rfl (O_load_all tyA_24 rfl rfl ?_)
 obtain ⟨r9,hr9,e1⟩:=be e1
 refine Wt rfl rfl rfl hg8 rfl rfl (O_callP fn_57 rfl (F57_ok hG fuel a1 hr9) ?_)
 refine Wt rfl rfl rfl hg8 rfl rfl (O_not rfl ?_)
 refine go ?_
 obtain ⟨hg10, e1⟩ | ⟨hg10, e1⟩ := bc e1
 refine go ?_
 exact jm e1 (tl [0] 0 rfl rfl)
 refine Wt rfl rfl rfl hg10 rfl rfl (O_load_all tyA_24 rfl rfl ?_)
 obtain ⟨r11,hr11,e1⟩:=be e1
 refine Wt rfl rfl rfl hg10 rfl rfl (O_callP fn_58 rfl (F58_ok hG fuel a1 hr11) ?_)
 refine Wt rfl rfl rfl hg10 rfl rfl (O_not rfl ?_)
 refine go ?_
 exact jm e1 (tl [0] 0 rfl rfl)
 rintro z hi
 subst hi
 refine C_cd rfl e0 (fun e0 => ?_) (fun e0 => ?_)
 refine gs ?_
 obtain rfl := so e0
 refine go ?_
 exact rt [] 1 ⟨rfl, rfl⟩ rfl rfl
 refine go ?_
 refine C_seq ?_
 obtain ⟨i13,e1,e0⟩:=be e0
 refine C_cut (ι := Bool) (fun i => [(1, sI a2),(3, sP b4 0),(49, sB i)]) (fun i => bx1 b4 a1.kind a1.text a1.trail a1.kids :: F) (fun i => i13 = i) ?_ ?_
 refine go ?_
 refine W rfl (O_sne rfl rfl ?_)
 refine go ?_
 obtain ⟨hg14, e1⟩ | ⟨hg14, e1⟩ := bc e1
 refine Wt rfl rfl rfl hg14 rfl rfl (O_move rfl ?_)
 refine Wt rfl rfl rfl hg14 rfl rfl (O_not rfl ?_)
 refine Wt rfl rfl rfl hg14 rfl rfl (O_move rfl ?_)
 obtain ⟨hg15, e1⟩ | ⟨hg15, e1⟩ := bc e1
 refine go ?_
 refine Wt rfl rfl rfl hg14 rfl rfl (O_pick rfl (fun _ => rfl) (fun h => (no_tf hg15 h).elim) ?_)
 refine Wt rfl rfl rfl hg14 rfl rfl (O_move rfl ?_)
 refine go ?_
 refine Wt rfl rfl rfl hg14 rfl rfl (O_pick rfl (fun _ => rfl) (fun h => (no_tf rfl h).elim) ?_)
 refine go ?_
 exact jm e1 (tl [0] 0 rfl rfl)
 refine Wt rfl rfl rfl hg15 rfl rfl (O_fieldAddr tyF_24_0 rfl ?_)
 refine Wt rfl rfl rfl hg15 rfl rfl (O_load ty1_3 rfl rfl ?_)
 refine Wt rfl rfl rfl hg15 rfl rfl (O_cmp rfl rfl rfl ?_)
 refine Wt rfl rfl rfl hg14 rfl rfl (O_pick rfl (fun h => (no_tf h hg15).elim) (fun _ => rfl) ?_)
 refine Wt rfl rfl rfl hg14 rfl rfl (O_move rfl ?_)
 obtain ⟨hg16, e1⟩ | ⟨hg16, e1⟩ := bc e1
 refine go ?_
 refine Wt rfl rfl rfl hg14 rfl rfl (O_pick rfl (fun _ => rfl) (fun h => (no_tf hg16 h).elim) ?_)
 refine go ?_
 exact jm e1 (tl [0] 0 rfl rfl)
 refine Wt rfl rfl rfl hg16 rfl rfl (O_fieldAddr tyF_24_2 rfl ?_)
 refine Wt rfl rfl rfl hg16 rfl rfl (O_load ty1_9 rfl rfl ?_)
 obtain ⟨r17,hr17,e1⟩:=be e1
 refine Wt rfl rfl rfl hg16 rfl rfl (O_callP fn_59 rfl (F59_ok hG fuel a1.trail (5 : Int) hr17) ?_)
 refine Wt rfl rfl rfl hg16 rfl rfl (O_not rfl ?_)
 refine Wt rfl rfl rfl hg14 rfl rfl (O_pick rfl (fun h => (no_tf h hg16).elim) (fun _ => rfl) ?_)
 refine go ?_
 exact jm e1 (tl [0] 0 rfl rfl)
 refine go ?_
 exact jm e1 (tl [0] 0 rfl rfl)
 rintro z hi
 subst hi
 refine C_cd rfl e0 (fun e0 => ?_) (fun e0 => ?_)
 refine gs ?_
 obtain rfl := so e0
 refine go ?_
 exact rt [] 1 ⟨rfl, rfl⟩ rfl rfl
 refine go ?_
 refine C_seq ?_
 refine C_draw2 [(0,nw),(2,pu),(1, .take),(3,mn),(4,fr)] [false] [] (bx1 b4 a1.kind a1.text a1.trail a1.kids :: F) rfl rfl rfl (by kernel_rfl) rfl ?_
 refine D_new rfl rfl ⟨0, Hnd, fun q19 => .val (sl q19), fun q19 => ownA (sl q19) 3 .int [(1 : Int),(17 : Int),(13 : Int)]⟩ rfl (fun G => A_build 3 8 .int [(1 : Int),(17 : Int),(13 : Int)] (ss := [(0, sI (1 : Int)),(1, sI (17 : Int)),(2, sI (13 : Int))]) tyE_28 tyZ_3 rfl rfl rfl rfl rfl rfl fun q19 => ⟨q19, rfl, rfl⟩) ?_
 refine gd ?_
 obtain ⟨r20,hr20,e0⟩:=be e0
 refine D_take _ _ rfl rfl rfl (fun q19 => ?_)
 refine D_mainX rfl fun G => O_call1 (F := ((bx1 b4 a1.kind a1.text a1.trail a1.kids :: F) ++ G)) fn_60 rfl (F60_ok hG fuel [(1 : Int),(17 : Int),(13 : Int)] q19 hr20) (sel_perm [0] _) fun b21 => (D_end ?_)
 obtain ⟨r22,hr22,e0⟩:=be e0
 refine D_main rfl (D_mainX rfl fun G => O_callV0 (ss := [.agg [sI a1.kind, sS a1.text, sS a1.trail, .isl .node a1.kids]]) (F := ((bx1 b4 a1.kind a1.text a1.trail a1.kids :: F) ++ G)) (lk rfl rfl) fn_83 rfl (F83_ok hG fuel a1 [(1 : Int),(17 : Int),(13 : Int)] b21 q19 hr22) (sel_perm [1, 0] _) (D_end ?_))
 refine gd ?_
 refine D_nil ?_
 obtain ⟨o23,e1,e0⟩:=be e0
 refine C_cut (ι := Unit) (fun i => []) (fun i => F) (fun i => o23 = .inl ()) ?_ ?_
 refine gs ?_
 refine C_loopF (κ := Int) (fun d => [(1, sI a2),(3, sP b4 0),(7, sB r22),(55, .isl .node a1.kids),(56, sI (a1.kids.length : Int)),(57, sI d)]) (fun d => bx1 b4 a1.kind a1.text a1.trail a1.kids :: F) (fun n d => F40_l24 (F40 fuel) fuel a1 a2 r22 n d) o23 fuel (0 : Int) e1 (tl [2] 2 rfl rfl) (fun _ => rfl) ?_
 rintro n y25 hF
 have e1 : F40_l24 (F40 fuel) fuel a1 a2 r22 (n + 1) y25 = some o23 := hF
 rw [F40_l24] at e1
 clear hF
 refine gs ?_
 refine C_seq ?_
 refine C_cd rfl e1 (fun e1 => ?_) (fun e1 => ?_)
 refine go ?_
 refine gs ?_
 refine gs ?_
 obtain ⟨x27,w27,e1⟩:=be e1
 refine W rfl (O_indexAddr (k := .node) (z := x27) tyL_22 rfl rfl (idx_e w27).1 (idx_e w27).2 ?_)
 refine W rfl (O_load_ipt_all (k := .node) tyA_24 rfl ?_)
 refine W rfl (O_alloc tyZ_24 rfl fun b28 => ?_)
 refine go ?_
 refine Wn (S_any [sI x27.kind, sS x27.text, sS x27.trail, .isl .node x27.kids] tyS_24 rfl rfl rfl rfl (Nat.le_of_ble_eq_true rfl) rfl ?_)
 refine go ?_
 refine C_seq ?_
 refine C_draw2 [(0,pu),(1,fr),(2,pu),(3,fr),(6,fr),(4,mn),(5,fr),(7,mn),(8,fr)] [false, false] [] (bx1 b28 x27.kind x27.text x27.trail x27.kids :: bx1 b4 a1.kind a1.text a1.trail a1.kids :: F) rfl rfl rfl (by kernel_rfl) rfl ?_
 refine gd ?_
 obtain ⟨r29,hr29,e1⟩:=be e1
 refine D_main rfl (D_mainX rfl fun G => O_callP fn_61 rfl (F61_ok hG fuel a1 y25 hr29) (D_end ?_))
 obtain ⟨x30,w30,e1⟩:=be e1
 refine D_free rfl rfl (fun G => O_arI (lk rfl rfl) (lk rfl rfl) rfl (ck_e w30).2 ⟨rfl, rfl⟩) (D_re (congrArg sI (ck_e w30).1) ?_)
 obtain ⟨r31,hr31,e1⟩:=be e1
 refine D_main rfl (D_mainX rfl fun G => O_callP fn_40 rfl (ih x27 x30 r22 hr31) (D_end ?_))
 refine D_free rfl rfl (fun G => O_not (lk rfl rfl) ⟨rfl, rfl⟩) ?_
 refine D_nil ?_
 refine C_cd rfl e1 (fun e1 => ?_) (fun e1 => ?_)
 refine gs ?_
 obtain rfl := so e1
 obtain rfl := so e0
 refine go ?_
 exact rt [] 2 ⟨rfl, rfl⟩ rfl rfl
 refine go ?_
 obtain ⟨x33,w33,e1⟩:=be e1
 refine W rfl (O_arI rfl rfl rfl (ck_e w33).2 (W_re (congrArg sI (ck_e w33).1) ?_))
 refine go ?_
 exact jmpL x33 e1 (tl [1] 1 rfl rfl)
 refine go ?_
 obtain rfl := so e1
 exact jmp () rfl (tl [] 1 rfl rfl)
 rintro ⟨⟩ hi
 subst hi
 have e0 := elim_l e0
 refine gs ?_
 obtain rfl := so e0
 refine go ?_
 exact rt [] 0 ⟨rfl, rfl⟩ rfl rfl
def F28 (fuel : Nat) (a1 : Tree) : Option (Bool) :=
 Option.bind (α := Bool) (
 bif (a1.kind == (1 : Int)) then (
 (F40 fuel a1 (0 : Int) false).bind fun r5 =>
 some r5) else (
 some false)) fun i3 =>
 some i3
theorem F28_ok {w0 : World} (hG : Globs w0) (fuel : Nat) : ∀ (a1 : Tree) {r : Bool} (e0 : F28 fuel a1 = some r), Fn w0 prog 28 [.agg [sI a1.kind, sS a1.text, sS a1.trail, .isl .node a1.kids]] [] (fun s H => s = sB r ∧ H = []) := by
 intro a1 r e0
 rw [F28] at e0
 refine fn_intro2 10 [.tmp 2] func28 rfl rfl rfl rfl fun X hX F => ?_
 refine C_turn (T_start [(0, .agg [sI a1.kind, sS a1.text, sS a1.trail, .isl .node a1.kids])] rfl (F) rfl) ?_
 refine gs ?_
 refine W rfl (O_box rfl rfl fun b2 => ?_)
 refine go ?_
 obtain ⟨i3,e1,e0⟩:=be e0
 refine C_cut (ι := Bool) (fun i => [(2, sB i)]) (fun i => F) (fun i => i3 = i) ?_ ?_
 refine go ?_
 obtain ⟨hg4, e1⟩ | ⟨hg4, e1⟩ := bc e1
 refine Wt rfl rfl rfl hg4 rfl rfl (O_load_all tyA_24 rfl rfl ?_)
 obtain ⟨r5,hr5,e1⟩:=be e1
 refine Wt rfl rfl rfl hg4 rfl rfl (O_callP fn_40 rfl (F40_ok hG fuel a1 (0 : Int) false hr5) ?_)
 refine go ?_
 exact jm e1 (tl [] 1 rfl rfl)
 refine go ?_
 exact jm e1 (tl [] 1 rfl rfl)
 rintro z hi
 subst hi
 refine go ?_
 obtain rfl := so e0
 refine go ?_
 exact rt [] 0 ⟨rfl, rfl⟩ rfl rfl
def F42 (fuel : Nat) (a1 : List Tree) (a2 : List Int) (a3 : List Int) (a4 : List (List Int)) (a5 : List Int) (a6 : Int) : Option (Int × ByteArray × Bool × Int × Bool) :=
 (idx a1 a6).bind fun x9 =>
 bif (x9.kind == (2 : Int)) then (
 some (x9.kind, (⟨#[]⟩ : ByteArray), false, (0 : Int), true)) else (
 Option.bind (α := Bool) (
 bif (x9.kind == (4 : Int)) then (
 some (x9.kind == (4 : Int))) else (
 bif (x9.kind == (5 : Int)) then (
 some (x9.kind == (5 : Int))) else (
 some (x9.kind == (6 : Int))))) fun i12 =>
 bif i12 then (
 some (x9.kind, x9.text, false, (0 : Int), true)) else (
 bif (x9.kind == (7 : Int)) then (
 Option.bind (α := Bool × Int) (
 (idx x9.kids (0 : Int)).bind fun x19 =>
 bif (x19.kind == (16 : Int)) then (
 (idx a4 a6).bind fun x21 =>
 (idx x21 (0 : Int)).bind fun x22 =>
 (idx a4 x22).bind fun x23 =>
 (idx x23 (0 : Int)).bind fun x24 =>
 (idx a5 x24).bind fun x25 =>
 some (true, x25)) else (
 some (false, (0 : Int)))) fun i18 =>
 some (x9.kind, x9.text, i18.1, i18.2, true)) else (
 some ((0 : Int), (⟨#[]⟩ : ByteArray), false, (0 : Int), false))))
theorem F42_ok {w0 : World} (hG : Globs w0) (fuel : Nat) : ∀ (a1 : List Tree) (a2 : List Int) (a3 : List Int) (a4 : List (List Int)) (a5 : List Int) (a6 : Int) {r : Int × ByteArray × Bool × Int × Bool} (e0 : F42 fuel a1 a2 a3 a4 a5 a6 = some r), Fn w0 prog 42 [.agg [.isl .node a1, .isl .int a2, .isl .int a3, .isl .ints a4], .isl .int a5, sI a6] [] (fun s H => s = .tup [.agg [sI r.1, sS r.2.1, sB r.2.2.1, sI r.2.2.2.1], sB r.2.2.2.2] ∧ H = []) := by
 intro a1 a2 a3 a4 a5 a6 r e0
 rw [F42] at e0
 refine fn_intro2 64 [.cell 6 81, .tmp 7] func42 rfl rfl rfl rfl fun X hX F => ?_
 refine C_turn (T_start [(0, .agg [.isl .node a1, .isl .int a2, .isl .int a3, .isl .ints a4]),(1, .isl .int a5),(2, sI a6)] rfl (F) rfl) ?_
 refine gs ?_
 refine W rfl (O_box rfl rfl fun b7 => ?_)
 refine W rfl (O_alloc tyZ_81 rfl fun b8 => ?_)
 refine go ?_
 refine gs ?_
 obtain ⟨x9,w9,e0⟩:=be e0
 refine W rfl (O_indexAddr (k := .node) (z := x9) tyL_22 rfl rfl (idx_e w9).1 (idx_e w9).2 ?_)
 refine W rfl (O_load_ipt_all (k := .node) tyA_24 rfl ?_)
 refine W rfl (O_alloc tyZ_24 rfl fun b10 => ?_)
 refine Wn (S_any [sI x9.kind, sS x9.text, sS x9.trail, .isl .node x9.kids] tyS_24 rfl rfl rfl rfl (Nat.le_of_ble_eq_true rfl) rfl ?_)
 refine go ?_
 refine C_seq ?_
 refine gs ?_
 refine gs ?_
 refine C_cd rfl e0 (fun e0 => ?_) (fun e0 => ?_)
 refine gs ?_
 refine W rfl (O_build (ss := [(0, sI x9.kind)]) tyZ_81 tyP_81 rfl rfl rfl ?_)
 refine Wn (S_any [sI x9.kind, sS (⟨#[]⟩ : ByteArray), sB false, sI (0 : Int)] tyS_81 rfl rfl rfl rfl (Nat.le_of_ble_eq_true rfl) rfl ?_)
 refine go ?_
 obtain rfl := so e0
 refine go ?_
 exact ret_ok (T_le (E' := [(6, sP b8 0),(7, sB true)]) (M' := bx7 b8 x9.kind (⟨#[]⟩ : ByteArray) false (0 : Int) :: F) (.mk [1] 2 rfl ⟨rfl, rfl, trivial⟩)) [] 1 [.agg [sI x9.kind, sS (⟨#[]⟩ : ByteArray), sB false, sI (0 : Int)], sB true] [] (.agg (t := 6) b8 4 [sI x9.kind, sS (⟨#[]⟩ : ByteArray), sB false, sI (0 : Int)] tyA_81 rfl rfl (.tmp (t := 7) _ rfl .nil)) rfl ⟨rfl, rfl⟩
 obtain ⟨i12,e1,e0⟩:=be e0
 refine C_cut (ι := Bool) (fun i => [(1, .isl .int a5),(2, sI a6),(3, sP b7 0),(6, sP b8 0),(8, sP b10 0),(16, sI x9.kind),(22, sB i)]) (fun i => bx4 b7 a1 a2 a3 a4 :: bx7 b8 (0 : Int) (⟨#[]⟩ : ByteArray) false (0 : Int) :: bx1 b10 x9.kind x9.text x9.trail x9.kids :: F) (fun i => i12 = i) ?_ ?_
 refine gs ?_
 refine C_cd rfl e1 (fun e1 => ?_) (fun e1 => ?_)
 refine go ?_
 exact jm e1 (tl [2, 1, 0] 0 rfl rfl)
 refine gs ?_
 refine C_cd rfl e1 (fun e1 => ?_) (fun e1 => ?_)
 refine go ?_
 exact jm e1 (tl [2, 1, 0] 0 rfl rfl)
 refine go ?_
 exact jm e1 (tl [2, 1, 0] 0 rfl rfl)
 rintro z hi
 subst hi
 refine C_cd rfl e0 (fun e0 => ?_) (fun e0 => ?_)
 refine gs ?_
 refine W rfl (O_build (ss := [(0, sI x9.kind),(1, sS x9.text)]) tyZ_81 tyP_81 rfl rfl rfl ?_)
 refine Wn (S_any [sI x9.kind, sS x9.text, sB false, sI (0 : Int)] tyS_81 rfl rfl rfl rfl (Nat.le_of_ble_eq_true rfl) rfl ?_)
 refine go ?_
 obtain rfl := so e0
 refine go ?_
 exact ret_ok (T_le (E' := [(6, sP b8 0),(7, sB true)]) (M' := bx7 b8 x9.kind x9.text false (0 : Int) :: F) (.mk [1] 2 rfl ⟨rfl, rfl, trivial⟩)) [] 1 [.agg [sI x9.kind, sS x9.text, sB false, sI (0 : Int)], sB true] [] (.agg (t := 6) b8 4 [sI x9.kind, sS x9.text, sB false, sI (0 : Int)] tyA_81 rfl rfl (.tmp (t := 7) _ rfl .nil)) rfl ⟨rfl, rfl⟩
 refine gs ?_
 refine C_cd rfl e0 (fun e0 => ?_) (fun e0 => ?_)
 refine gs ?_
 refine W rfl (O_build (ss := [(0, sI x9.kind),(1, sS x9.text)]) tyZ_81 tyP_81 rfl rfl rfl ?_)
 refine W rfl (O_alloc tyZ_81 rfl fun b17 => ?_)
 refine Wn (S_any [sI x9.kind, sS x9.text, sB false, sI (0 : Int)] tyS_81 rfl rfl rfl rfl (Nat.le_of_ble_eq_true rfl) rfl ?_)
 refine go ?_
 obtain ⟨i18,e1,e0⟩:=be e0
 refine C_cut (ι := (Bool × Int)) (fun i => [(6, sP b8 0),(9, sP b17 0)]) (fun i => bx7 b8 (0 : Int) (⟨#[]⟩ : ByteArray) false (0 : Int) :: bx7 b17 x9.kind x9.text i.1 i.2 :: F) (fun i => i18 = i) ?_ ?_
 refine gs ?_
 obtain ⟨x19,w19,e1⟩:=be e1
 refine W rfl (O_indexAddr (k := .node) (z := x19) tyL_22 rfl rfl (idx_e w19).1 (idx_e w19).2 ?_)
 refine go ?_
 refine C_cd rfl e1 (fun e1 => ?_) (fun e1 => ?_)
 refine C_draw2 [(0,fr),(1,fr),(2,pu),(3,fr),(4,pu),(5,fr),(6,fr),(7,fr),(8,fr),(9,fr),(10,fr),(11,fr),(12,fr),(13,fr),(14,fr),(15,fr),(16,fr),(17,mn),(18,fr),(19,mn)] [true, false, false, false] [bx7 b17 x9.kind x9.text false (0 : Int)] (bx4 b7 a1 a2 a3 a4 :: bx7 b8 (0 : Int) (⟨#[]⟩ : ByteArray) false (0 : Int) :: bx1 b10 x9.kind x9.text x9.trail x9.kids :: F) rfl rfl rfl (by kernel_rfl) rfl ?_
 refine gd ?_
 obtain ⟨x21,w21,e1⟩:=be e1
 refine D_free rfl rfl (fun G => O_indexAddr (k := .ints) (z := x21) tyL_29 (lk rfl rfl) (lk rfl rfl) (idx_e w21).1 (idx_e w21).2 ⟨rfl, rfl⟩) ?_
 refine gd ?_
 obtain ⟨x22,w22,e1⟩:=be e1
 refine D_free rfl rfl (fun G => O_indexAddr (k := .int) (z := x22) tyL_28 (lk rfl rfl) (lk rfl rfl) (idx_e w22).1 (idx_e w22).2 ⟨rfl, rfl⟩) ?_
 refine gd ?_
 obtain ⟨x23,w23,e1⟩:=be e1
 refine D_free rfl rfl (fun G => O_indexAddr (k := .ints) (z := x23) tyL_29 (lk rfl rfl) (lk rfl rfl) (idx_e w23).1 (idx_e w23).2 ⟨rfl, rfl⟩) ?_
 refine gd ?_
 obtain ⟨x24,w24,e1⟩:=be e1
 refine D_free rfl rfl (fun G => O_indexAddr (k := .int) (z := x24) tyL_28 (lk rfl rfl) (lk rfl rfl) (idx_e w24).1 (idx_e w24).2 ⟨rfl, rfl⟩) ?_
 refine gd ?_
 obtain ⟨x25,w25,e1⟩:=be e1
 refine D_free rfl rfl (fun G => O_indexAddr (k := .int) (z := x25) tyL_28 (lk rfl rfl) (lk rfl rfl) (idx_e w25).1 (idx_e w25).2 ⟨rfl, rfl⟩) ?_
 refine gd ?_
 refine D_main rfl (D_mainX rfl fun G => S_one [sI x9.kind, sS x9.text, sB true, sI (0 : Int)] tyS_4 (lk rfl rfl) (lk rfl rfl) rfl rfl rfl (D_end ?_))
 refine gd ?_
 refine D_main rfl (D_mainX rfl fun G => S_one [sI x9.kind, sS x9.text, sB true, sI x25] tyS_3 (lk rfl rfl) (lk rfl rfl) rfl rfl rfl (D_end ?_))
 refine D_nil ?_
 exact jm e1 (tl [2, 0] 2 rfl rfl)
 refine go ?_
 exact jm e1 (tl [2, 0] 2 rfl rfl)
 rintro z hi
 subst hi
 refine gs ?_
 refine Wn (S_any [sI x9.kind, sS x9.text, sB i18.1, sI i18.2] tyS_81 rfl rfl rfl rfl (Nat.le_of_ble_eq_true rfl) rfl ?_)
 refine go ?_
 obtain rfl := so e0
 refine go ?_
 exact ret_ok (T_le (E' := [(6, sP b8 0),(7, sB true)]) (M' := bx7 b8 x9.kind x9.text i18.1 i18.2 :: F) (.mk [0] 1 rfl ⟨rfl, rfl, trivial⟩)) [] 1 [.agg [sI x9.kind, sS x9.text, sB i18.1, sI i18.2], sB true] [] (.agg (t := 6) b8 4 [sI x9.kind, sS x9.text, sB i18.1, sI i18.2] tyA_81 rfl rfl (.tmp (t := 7) _ rfl .nil)) rfl ⟨rfl, rfl⟩
 refine go ?_
 refine gs ?_
 refine W rfl (O_build (ss := []) tyZ_81 tyP_81 rfl rfl rfl ?_)
 refine Wn (S_any [sI (0 : Int), sS (⟨#[]⟩ : ByteArray), sB false, sI (0 : Int)] tyS_81 rfl rfl rfl rfl (Nat.le_of_ble_eq_true rfl) rfl ?_)
 refine go ?_
 obtain rfl := so e0
 refine go ?_
 exact ret_ok (T_le (E' := [(6, sP b8 0),(7, sB false)]) (M' := bx7 b8 (0 : Int) (⟨#[]⟩ : ByteArray) false (0 : Int) :: F) (.mk [1] 2 rfl ⟨rfl, rfl, trivial⟩)) [] 1 [.agg [sI (0 : Int), sS (⟨#[]⟩ : ByteArray), sB false, sI (0 : Int)], sB false] [] (.agg (t := 6) b8 4 [sI (0 : Int), sS (⟨#[]⟩ : ByteArray), sB false, sI (0 : Int)] tyA_81 rfl rfl (.tmp (t := 7) _ rfl .nil)) rfl ⟨rfl, rfl⟩
def F41_l10 (fuel : Nat) (a1 : List Tree) (a2 : List Int) (a3 : List Int) (a4 : List (List Int)) (a5 : List Int) (x9 : List Int) : Nat → (List (K4 × Int)) → Int → Option ((List (K4 × Int)))
 | 0, _, _ => none
 | n + 1, y20, y21 =>
 bif (decide (y21 < (x9.length : Int))) then (
 Option.bind (α := (List (K4 × Int))) (
 (idx x9 y21).bind fun x24 =>
 (F42 fuel a1 a2 a3 a4 a5 x24).bind fun r25 =>
 bif r25.2.2.2.2 then (
 bif (mget y20 (r25.1, r25.2.1, r25.2.2.1, r25.2.2.2.1)).isSome then (
 some (mput y20 (r25.1, r25.2.1, r25.2.2.1, r25.2.2.2.1) (-1 : Int))) else (
 some (mput y20 (r25.1, r25.2.1, r25.2.2.1, r25.2.2.2.1) x24))) else (
 some y20)) fun i23 =>
 (ck (y21 + (1 : Int))).bind fun x29 =>
 F41_l10 fuel a1 a2 a3 a4 a5 x9 n i23 x29) else (
 some y20)
def F41 (fuel : Nat) (a1 : List Tree) (a2 : List Int) (a3 : List Int) (a4 : List (List Int)) (a5 : List Int) : Option ((List (K4 × Int))) :=
 Option.bind (α := (List (K4 × Int))) (
 (idx a4 (0 : Int)).bind fun x9 =>
 F41_l10 fuel a1 a2 a3 a4 a5 x9 fuel [] (0 : Int)) fun i8 =>
 some i8
theorem F41_ok {w0 : World} (hG : Globs w0) (fuel : Nat) : ∀ (a1 : List Tree) (a2 : List Int) (a3 : List Int) (a4 : List (List Int)) (a5 : List Int) {r : (List (K4 × Int))} (e0 : F41 fuel a1 a2 a3 a4 a5 = some r), Fn w0 prog 41 [.agg [.isl .node a1, .isl .int a2, .isl .int a3, .isl .ints a4], .isl .int a5] [] (fun s H => ∃ k0 : Nat, s = .val (.map (some k0)) ∧ H = [mapA k0 (fun k : K4 => Value.agg ((k4 k).map Cl.v).toArray) (fun n : Int => Value.int .i64 n) r]) := by
 intro a1 a2 a3 a4 a5 r e0
 rw [F41] at e0
 refine fn_intro2 44 [.tmp 4] func41 rfl rfl rfl rfl fun X hX F => ?_
 refine C_turn (T_start [(0, .agg [.isl .node a1, .isl .int a2, .isl .int a3, .isl .ints a4]), (1, .isl .int a5)] rfl (F) rfl) ?_
 refine gs ?_
 refine W rfl (O_box rfl rfl fun b6 => ?_)
 refine go ?_
 refine gs ?_
 refine W rfl (O_makeMap (fun k : K4 => Value.agg ((k4 k).map Cl.v).toArray) (fun n : Int => Value.int .i64 n) fun b7 => ?_)
 refine go ?_
 obtain ⟨i8,e1,e0⟩:=be e0
 refine C_cut (ι := ((List (K4 × Int)))) (fun i => [(5, .val (.map (some b7)))]) (fun i => mapA b7 (fun k : K4 => Value.agg ((k4 k).map Cl.v).toArray) (fun n : Int => Value.int .i64 n) i :: F) (fun i => i8 = i) ?_ ?_
 refine gs ?_
 obtain ⟨x9,w9,e1⟩:=be e1
 refine W rfl (O_indexAddr (k := .ints) (z := x9) tyL_29 rfl rfl (idx_e w9).1 (idx_e w9).2 ?_)
 refine go ?_
 refine C_loopF (κ := ((List (K4 × Int)) × Int)) (fun d => [(1, .isl .int a5), (2, sP b6 0), (5, .val (.map (some b7))), (16, .isl .int x9), (17, sI (x9.length : Int)), (18, sI d.2)]) (fun d => bx4 b6 a1 a2 a3 a4 :: mapA b7 (fun k : K4 => Value.agg ((k4 k).map Cl.v).toArray) (fun n : Int => Value.int .i64 n) d.1 :: F) (fun n d => F41_l10 fuel a1 a2 a3 a4 a5 x9 n d.1 d.2) i8 fuel ([], (0 : Int)) e1 (tl [1, 0] 0 rfl rfl) (fun _ => rfl) ?_
 rintro n ⟨y20, y21⟩ hF
 have e1 : F41_l10 fuel a1 a2 a3 a4 a5 x9 (n + 1) y20 y21 = some i8 := hF
 rw [F41_l10] at e1
 clear hF
 refine gs ?_
 refine C_seq ?_
 refine C_cd rfl e1 (fun e1 => ?_) (fun e1 => ?_)
 refine go ?_
 obtain ⟨i23,e2,e1⟩:=be e1
 refine C_cut (ι := ((List (K4 × Int)))) (fun i => [(1, .isl .int a5), (2, sP b6 0), (5, .val (.map (some b7))), (16, .isl .int x9), (17, sI (x9.length : Int)), (18, sI y21)]) (fun i => bx4 b6 a1 a2 a3 a4 :: mapA b7 (fun k : K4 => Value.agg ((k4 k).map Cl.v).toArray) (fun n : Int => Value.int .i64 n) i :: F) (fun i => i23 = i) ?_ ?_
 refine go ?_
 refine gs ?_
 obtain ⟨x24,w24,e2⟩:=be e2
 refine W rfl (O_indexAddr (k := .int) (z := x24) tyL_28 rfl rfl (idx_e w24).1 (idx_e w24).2 ?_)
 refine go ?_
 refine gs ?_
 obtain ⟨r25,hr25,e2⟩:=be e2
 refine W rfl (O_callP fn_42 rfl (F42_ok hG fuel a1 a2 a3 a4 a5 x24 hr25) ?_)
 refine go ?_
 refine W rfl (O_alloc tyZ_81 rfl fun b26 => ?_)
 refine Wn (S_any [sI r25.1, sS r25.2.1, sB r25.2.2.1, sI r25.2.2.2.1] tyS_81 rfl rfl rfl rfl (Nat.le_of_ble_eq_true rfl) rfl ?_)
 refine go ?_
 refine gs ?_
 refine C_cd rfl e2 (fun e2 => ?_) (fun e2 => ?_)
 refine gs ?_
 refine W rfl (O_lookup (k := (r25.1, r25.2.1, r25.2.2.1, r25.2.2.2.1)) (0 : Int) (key_k4 tyK_81) tyM_78 tyN_3 rfl rfl (sk_k4 (r25.1, r25.2.1, r25.2.2.1, r25.2.2.2.1)) ?_)
 refine go ?_
 refine gs ?_
 refine C_cd rfl e2 (fun e2 => ?_) (fun e2 => ?_)
 refine go ?_
 refine Wn (O_mapUpdate (k := (r25.1, r25.2.1, r25.2.2.1, r25.2.2.2.1)) (u := (-1 : Int)) (key_k4 tyK_81) tyM_78 rfl rfl rfl (sk_k4 (r25.1, r25.2.1, r25.2.2.1, r25.2.2.2.1)) sk_val ?_)
 refine go ?_
 exact jm e2 (tl [1, 1] 1 rfl rfl)
 refine go ?_
 refine Wn (O_mapUpdate (k := (r25.1, r25.2.1, r25.2.2.1, r25.2.2.2.1)) (u := x24) (key_k4 tyK_81) tyM_78 rfl rfl rfl (sk_k4 (r25.1, r25.2.1, r25.2.2.1, r25.2.2.2.1)) sk_val ?_)
 refine go ?_
 exact jm e2 (tl [1, 1] 1 rfl rfl)
 refine go ?_
 exact jm e2 (tl [1, 1] 1 rfl rfl)
 rintro z hi
 subst hi
 refine go ?_
 obtain ⟨x29,w29,e1⟩:=be e1
 refine W rfl (O_arI rfl rfl rfl (ck_e w29).2 (W_re (congrArg sI (ck_e w29).1) ?_))
 refine go ?_
 exact jmpL (i23, x29) e1 (tl [0, 0] 0 rfl rfl)
 refine go ?_
 exact jm e1 (tl [1] 1 rfl rfl)
 rintro z hi
 subst hi
 refine gs ?_
 obtain rfl := so e0
 refine go ?_
 exact rt [0] 0 ⟨b7, rfl, rfl⟩ rfl rfl
def F29_l21 (fuel : Nat) (a2 : List Tree) (a3 : List Int) (a4 : List Int) (a5 : List (List Int)) (a6 : List Tree) (a7 : List Int) (a8 : List Int) (a9 : List (List Int)) (a10 : List Int) (a11 : List Int) (r16 : (List (K4 × Int))) (r18 : (List (K4 × Int))) (x20 : List Int) : Nat → List Int → List Int → Int → Option (List Int × List Int)
 | 0, _, _, _ => none
 | n + 1, y39, y40, y41 =>
 bif (decide (y41 < (x20.length : Int))) then (
 Option.bind (α := List Int × List Int) (
 (idx x20 y41).bind fun x44 =>
 (F42 fuel a2 a3 a4 a5 a10 x44).bind fun r46 =>
 Option.bind (α := Bool) (
 bif (!r46.2.2.2.2) then (
 some true) else (
 bif (!((mget r16 (r46.1, r46.2.1, r46.2.2.1, r46.2.2.2.1)).isSome)) then (
 some true) else (
 bif (decide (((mget r16 (r46.1, r46.2.1, r46.2.2.1, r46.2.2.2.1)).getD (0 : Int)) < (0 : Int))) then (
 some true) else (
 some (((mget r18 (r46.1, r46.2.1, r46.2.2.1, r46.2.2.2.1)).getD (0 : Int)) != x44))))) fun i47 =>
 bif i47 then (
 some (y39, y40)) else (
 (idx a10 x44).bind fun x52 =>
 (idx a11 ((mget r16 (r46.1, r46.2.1, r46.2.2.1, r46.2.2.2.1)).getD (0 : Int))).bind fun x53 =>
 bif (x52 == x53) then (
 (F26 fuel a2 a3 a4 a5 a6 a7 a8 a9 a10 a11 y39 y40 x44 ((mget r16 (r46.1, r46.2.1, r46.2.2.1, r46.2.2.2.1)).getD (0 : Int))).bind fun r55 =>
 some (r55.1, r55.2)) else (
 (F27 fuel a2 a3 a4 a5 a6 a7 a8 a9 a10 a11 y39 y40 x44 ((mget r16 (r46.1, r46.2.1, r46.2.2.1, r46.2.2.2.1)).getD (0 : Int))).bind fun r56 =>
 some ((y39.set (x44).toNat ((mget r16 (r46.1, r46.2.1, r46.2.2.1, r46.2.2.2.1)).getD (0 : Int))), (y40.set (((mget r16 (r46.1, r46.2.1, r46.2.2.1, r46.2.2.2.1)).getD (0 : Int))).toNat x44))))) fun i43 =>
 (ck (y41 + (1 : Int))).bind fun x57 =>
 F29_l21 fuel a2 a3 a4 a5 a6 a7 a8 a9 a10 a11 r16 r18 x20 n i43.1 i43.2 x57) else (
 some (y39, y40))
def F29 (fuel : Nat) (a2 : List Tree) (a3 : List Int) (a4 : List Int) (a5 : List (List Int)) (a6 : List Tree) (a7 : List Int) (a8 : List Int) (a9 : List (List Int)) (a10 : List Int) (a11 : List Int) (a13 : List Int) (a15 : List Int) : Option (List Int × List Int) :=
 (F41 fuel a6 a7 a8 a9 a11).bind fun r16 =>
 (F41 fuel a2 a3 a4 a5 a10).bind fun r18 =>
 (idx a5 (0 : Int)).bind fun x20 =>
 F29_l21 fuel a2 a3 a4 a5 a6 a7 a8 a9 a10 a11 r16 r18 x20 fuel a13 a15 (0 : Int)
theorem F29_ok {w0 : World} (hG : Globs w0) (fuel : Nat) : ∀ (a2 : List Tree) (a3 : List Int) (a4 : List Int) (a5 : List (List Int)) (a6 : List Tree) (a7 : List Int) (a8 : List Int) (a9 : List (List Int)) (a10 : List Int) (a11 : List Int) (a13 : List Int) (a15 : List Int) (b1 : Nat) (q12 : Hnd) (q14 : Hnd) {r : List Int × List Int} (e0 : F29 fuel a2 a3 a4 a5 a6 a7 a8 a9 a10 a11 a13 a15 = some r), Fn w0 prog 29 [sP b1 0] [bx5 b1 a2 a3 a4 a5 a6 a7 a8 a9 a10 a11 q12 q14, ownA (sl q12) 3 .int a13, ownA (sl q14) 3 .int a15] (fun s H => s = .tup [] ∧ H = [bx5 b1 a2 a3 a4 a5 a6 a7 a8 a9 a10 a11 q12 q14, ownA (sl q12) 3 .int r.1, ownA (sl q14) 3 .int r.2]) := by
 intro a2 a3 a4 a5 a6 a7 a8 a9 a10 a11 a13 a15 b1 q12 q14 r e0
 rw [F29] at e0
 refine fn_intro2 100 [] func29 rfl rfl rfl rfl fun X hX F => ?_
 refine C_turn (T_start [(0, sP b1 0)] rfl (bx5 b1 a2 a3 a4 a5 a6 a7 a8 a9 a10 a11 q12 q14 :: ownA (sl q12) 3 .int a13 :: ownA (sl q14) 3 .int a15 :: F) rfl) ?_
 refine C_seq ?_
 refine C_draw2 [(0,fr),(1,fr),(2,fr),(3,pu),(4,fr),(5,fr),(6,fr),(7,pu),(8,mn),(9,fr)] [false, false, false] [] (bx5 b1 a2 a3 a4 a5 a6 a7 a8 a9 a10 a11 q12 q14 :: ownA (sl q12) 3 .int a13 :: ownA (sl q14) 3 .int a15 :: F) rfl rfl rfl (by kernel_rfl) rfl ?_
 refine gd ?_
 refine D_pure rfl rfl (fun G => O_load_part tyA_50 (lk rfl rfl) rfl rfl ⟨rfl, rfl⟩) ?_
 refine gd ?_
 obtain ⟨r16,hr16,e0⟩:=be e0
 refine D_main rfl (D_mainX rfl fun G => O_call1 (F := ((bx5 b1 a2 a3 a4 a5 a6 a7 a8 a9 a10 a11 q12 q14 :: ownA (sl q12) 3 .int a13 :: ownA (sl q14) 3 .int a15 :: F) ++ G)) fn_41 rfl (F41_ok hG fuel a6 a7 a8 a9 a11 hr16) (sel_perm [] _) fun b17 => (D_end ?_))
 refine gd ?_
 refine D_nil ?_
 refine C_seq ?_
 refine C_draw2 [(0,fr),(1,fr),(2,fr),(3,pu),(4,fr),(5,fr),(6,fr),(7,pu),(8,mn),(9,fr)] [false, false, false, false] [] (mapA b17 (fun k : K4 => Value.agg ((k4 k).map Cl.v).toArray) (fun n : Int => Value.int .i64 n) r16 :: bx5 b1 a2 a3 a4 a5 a6 a7 a8 a9 a10 a11 q12 q14 :: ownA (sl q12) 3 .int a13 :: ownA (sl q14) 3 .int a15 :: F) rfl rfl rfl (by kernel_rfl) rfl ?_
 refine gd ?_
 refine D_pure rfl rfl (fun G => O_load_part tyA_50 (lk rfl rfl) rfl rfl ⟨rfl, rfl⟩) ?_
 refine gd ?_
 obtain ⟨r18,hr18,e0⟩:=be e0
 refine D_main rfl (D_mainX rfl fun G => O_call1 (F := ((mapA b17 (fun k : K4 => Value.agg ((k4 k).map Cl.v).toArray) (fun n : Int => Value.int .i64 n) r16 :: bx5 b1 a2 a3 a4 a5 a6 a7 a8 a9 a10 a11 q12 q14 :: ownA (sl q12) 3 .int a13 :: ownA (sl q14) 3 .int a15 :: F) ++ G)) fn_41 rfl (F41_ok hG fuel a2 a3 a4 a5 a10 hr18) (sel_perm [] _) fun b19 => (D_end ?_))
 refine gd ?_
 refine D_nil ?_
 refine gs ?_
 obtain ⟨x20,w20,e0⟩:=be e0
 refine W rfl (O_indexAddr (k := .ints) (z := x20) tyL_29 rfl rfl (idx_e w20).1 (idx_e w20).2 ?_)
 refine go ?_
 refine C_loopF (κ := (List Int × List Int × Int)) (fun d => [(0, sP b1 0),(2, .val (.map (some b17))),(3, .val (.map (some b19))),(34, .isl .int x20),(35, sI (x20.length : Int)),(36, sI d.2.2)]) (fun d => bx5 b1 a2 a3 a4 a5 a6 a7 a8 a9 a10 a11 q12 q14 :: ownA (sl q12) 3 .int d.1 :: ownA (sl q14) 3 .int d.2.1 :: mapA b17 (fun k : K4 => Value.agg ((k4 k).map Cl.v).toArray) (fun n : Int => Value.int .i64 n) r16 :: mapA b19 (fun k : K4 => Value.agg ((k4 k).map Cl.v).toArray) (fun n : Int => Value.int .i64 n) r18 :: F) (fun n d => F29_l21 fuel a2 a3 a4 a5 a6 a7 a8 a9 a10 a11 r16 r18 x20 n d.1 d.2.1 d.2.2) r fuel (a13, a15, (0 : Int)) e0 (tl [2, 2, 2, 1, 0] 0 rfl rfl) (fun _ => rfl) ?_
 rintro n ⟨y39, y40, y41⟩ hF
 have e0 : F29_l21 fuel a2 a3 a4 a5 a6 a7 a8 a9 a10 a11 r16 r18 x20 (n + 1) y39 y40 y41 = some r := hF
 rw [F29_l21] at e0
 clear hF
 refine gs ?_
 refine C_seq ?_
 refine C_cd rfl e0 (fun e0 => ?_) (fun e0 => ?_)
 refine go ?_
 obtain ⟨i43,e1,e0⟩:=be e0
 refine C_cut (ι := (List Int × List Int)) (fun i => [(0, sP b1 0),(2, .val (.map (some b17))),(3, .val (.map (some b19))),(34, .isl .int x20),(35, sI (x20.length : Int)),(36, sI y41)]) (fun i => bx5 b1 a2 a3 a4 a5 a6 a7 a8 a9 a10 a11 q12 q14 :: ownA (sl q12) 3 .int i.1 :: ownA (sl q14) 3 .int i.2 :: mapA b17 (fun k : K4 => Value.agg ((k4 k).map Cl.v).toArray) (fun n : Int => Value.int .i64 n) r16 :: mapA b19 (fun k : K4 => Value.agg ((k4 k).map Cl.v).toArray) (fun n : Int => Value.int .i64 n) r18 :: F) (fun i => i43 = i) ?_ ?_
 refine go ?_
 refine gs ?_
 obtain ⟨x44,w44,e1⟩:=be e1
 refine W rfl (O_indexAddr (k := .int) (z := x44) tyL_28 rfl rfl (idx_e w44).1 (idx_e w44).2 ?_)
 refine go ?_
 refine C_seq ?_
 refine C_draw2 [(0,fr),(1,fr),(2,fr),(3,pu),(4,fr),(5,fr),(6,fr),(7,pu),(8,fr),(13,nw),(9,mn),(10,fr),(11,fr),(12,fr),(14, .take),(15,fr)] [false, false, false, false, false] [] (bx5 b1 a2 a3 a4 a5 a6 a7 a8 a9 a10 a11 q12 q14 :: ownA (sl q12) 3 .int y39 :: ownA (sl q14) 3 .int y40 :: mapA b17 (fun k : K4 => Value.agg ((k4 k).map Cl.v).toArray) (fun n : Int => Value.int .i64 n) r16 :: mapA b19 (fun k : K4 => Value.agg ((k4 k).map Cl.v).toArray) (fun n : Int => Value.int .i64 n) r18 :: F) rfl rfl rfl (by kernel_rfl) rfl ?_
 refine gd ?_
 refine D_pure rfl rfl (fun G => O_load_part tyA_50 (lk rfl rfl) rfl rfl ⟨rfl, rfl⟩) ?_
 refine gd ?_
 refine D_new rfl rfl ⟨13, Nat, fun b45 => sP b45 0, fun b45 => bx7 b45 (0 : Int) (⟨#[]⟩ : ByteArray) false (0 : Int)⟩ rfl (fun G => O_alloc tyZ_81 rfl fun b45 => ⟨b45, rfl, rfl⟩) ?_
 obtain ⟨r46,hr46,e1⟩:=be e1
 refine D_main rfl (D_mainX rfl fun G => O_callP fn_42 rfl (F42_ok hG fuel a2 a3 a4 a5 a10 x44 hr46) (D_end ?_))
 refine gd ?_
 refine D_free rfl rfl (fun G => O_extract (lk rfl rfl) rfl ⟨rfl, rfl⟩) ?_
 refine D_free rfl rfl (fun G => O_extract (lk rfl rfl) rfl ⟨rfl, rfl⟩) ?_
 refine D_take _ _ rfl rfl rfl (fun b45 => ?_)
 refine D_mainX rfl fun G => S_any [sI r46.1, sS r46.2.1, sB r46.2.2.1, sI r46.2.2.2.1] tyS_81 (lk rfl rfl) (lk rfl rfl) rfl rfl (Nat.le_of_ble_eq_true rfl) rfl (D_end ?_)
 refine gd ?_
 refine D_nil ?_
 refine gs ?_
 refine W rfl (O_lookup (k := (r46.1, r46.2.1, r46.2.2.1, r46.2.2.2.1)) (0 : Int) (key_k4 tyK_81) tyM_78 tyN_3 rfl rfl (sk_k4 (r46.1, r46.2.1, r46.2.2.1, r46.2.2.2.1)) ?_)
 refine go ?_
 refine C_seq ?_
 obtain ⟨i47,e2,e1⟩:=be e1
 refine C_cut (ι := Bool) (fun i => [(0, sP b1 0),(2, .val (.map (some b17))),(3, .val (.map (some b19))),(5, sI x44),(8, sI ((mget r16 (r46.1, r46.2.1, r46.2.2.1, r46.2.2.2.1)).getD (0 : Int))),(34, .isl .int x20),(35, sI (x20.length : Int)),(36, sI y41),(75, sB i)]) (fun i => bx5 b1 a2 a3 a4 a5 a6 a7 a8 a9 a10 a11 q12 q14 :: ownA (sl q12) 3 .int y39 :: ownA (sl q14) 3 .int y40 :: mapA b17 (fun k : K4 => Value.agg ((k4 k).map Cl.v).toArray) (fun n : Int => Value.int .i64 n) r16 :: mapA b19 (fun k : K4 => Value.agg ((k4 k).map Cl.v).toArray) (fun n : Int => Value.int .i64 n) r18 :: F) (fun i => i47 = i) ?_ ?_
 refine go ?_
 obtain ⟨hg48, e2⟩ | ⟨hg48, e2⟩ := bc e2
 refine go ?_
 exact jm e2 (tl [1, 1, 1, 1, 1] 1 rfl rfl)
 refine Wt rfl rfl rfl hg48 rfl rfl (O_move rfl ?_)
 refine Wt rfl rfl rfl hg48 rfl rfl (O_not rfl ?_)
 refine go ?_
 obtain ⟨hg49, e2⟩ | ⟨hg49, e2⟩ := bc e2
 refine go ?_
 exact jm e2 (tl [1, 1, 1, 1, 1] 1 rfl rfl)
 refine Wt rfl rfl rfl hg49 rfl rfl (O_move rfl ?_)
 refine Wt rfl rfl rfl hg49 rfl rfl (O_cmp rfl rfl rfl ?_)
 refine go ?_
 obtain ⟨hg50, e2⟩ | ⟨hg50, e2⟩ := bc e2
 refine go ?_
 exact jm e2 (tl [1, 1, 1, 1, 1] 1 rfl rfl)
 refine Wt rfl rfl rfl hg50 rfl rfl (O_move rfl ?_)
 refine Wt rfl rfl rfl hg50 rfl rfl (O_load_all tyA_81 rfl rfl ?_)
 refine Wt rfl rfl rfl hg50 rfl rfl (O_lookup1 (k := (r46.1, r46.2.1, r46.2.2.1, r46.2.2.2.1)) (0 : Int) (key_k4 tyK_81) tyM_78 tyN_3 rfl rfl (sk_k4 (r46.1, r46.2.1, r46.2.2.1, r46.2.2.2.1)) ?_)
 refine Wt rfl rfl rfl hg50 rfl rfl (O_move rfl ?_)
 refine Wt rfl rfl rfl hg50 rfl rfl (O_cmp rfl rfl rfl ?_)
 refine go ?_
 exact jm e2 (tl [1, 1, 1, 1, 1] 1 rfl rfl)
 rintro z hi
 subst hi
 refine C_cd rfl e1 (fun e1 => ?_) (fun e1 => ?_)
 refine go ?_
 exact jm e1 (tl [0, 0, 0, 0, 0] 0 rfl rfl)
 refine go ?_
 refine C_seq ?_
 refine C_draw2 [(0,fr),(1,fr),(2,fr),(3,pu),(4,fr),(5,fr),(6,fr),(7,fr),(8,fr),(9,fr),(10,pu),(11,fr),(12,fr),(13,fr),(14,fr)] [false, false, false, false, false] [] (bx5 b1 a2 a3 a4 a5 a6 a7 a8 a9 a10 a11 q12 q14 :: ownA (sl q12) 3 .int y39 :: ownA (sl q14) 3 .int y40 :: mapA b17 (fun k : K4 => Value.agg ((k4 k).map Cl.v).toArray) (fun n : Int => Value.int .i64 n) r16 :: mapA b19 (fun k : K4 => Value.agg ((k4 k).map Cl.v).toArray) (fun n : Int => Value.int .i64 n) r18 :: F) rfl rfl rfl (by kernel_rfl) rfl ?_
 refine gd ?_
 obtain ⟨x52,w52,e1⟩:=be e1
 refine D_free rfl rfl (fun G => O_indexAddr (k := .int) (z := x52) tyL_28 (lk rfl rfl) (lk rfl rfl) (idx_e w52).1 (idx_e w52).2 ⟨rfl, rfl⟩) ?_
 refine gd ?_
 obtain ⟨x53,w53,e1⟩:=be e1
 refine D_free rfl rfl (fun G => O_indexAddr (k := .int) (z := x53) tyL_28 (lk rfl rfl) (lk rfl rfl) (idx_e w53).1 (idx_e w53).2 ⟨rfl, rfl⟩) ?_
 refine gd ?_
 refine D_nil ?_
 refine C_cd rfl e1 (fun e1 => ?_) (fun e1 => ?_)
 refine go ?_
 obtain ⟨r55,hr55,e1⟩:=be e1
 refine W rfl (O_call0 (F := mapA b17 (fun k : K4 => Value.agg ((k4 k).map Cl.v).toArray) (fun n : Int => Value.int .i64 n) r16 :: mapA b19 (fun k : K4 => Value.agg ((k4 k).map Cl.v).toArray) (fun n : Int => Value.int .i64 n) r18 :: F) fn_26 rfl (F26_ok hG fuel a2 a3 a4 a5 a6 a7 a8 a9 a10 a11 y39 y40 x44 ((mget r16 (r46.1, r46.2.1, r46.2.2.1, r46.2.2.2.1)).getD (0 : Int)) b1 q12 q14 hr55) (sel_perm [0, 0, 0] _) ?_)
 refine go ?_
 exact jm e1 (tl [0, 0, 0, 0, 0] 0 rfl rfl)
 refine go ?_
 obtain ⟨r56,hr56,e1⟩:=be e1
 refine W rfl (O_call0 (F := mapA b17 (fun k : K4 => Value.agg ((k4 k).map Cl.v).toArray) (fun n : Int => Value.int .i64 n) r16 :: mapA b19 (fun k : K4 => Value.agg ((k4 k).map Cl.v).toArray) (fun n : Int => Value.int .i64 n) r18 :: F) fn_27 rfl (F27_ok hG fuel a2 a3 a4 a5 a6 a7 a8 a9 a10 a11 y39 y40 x44 ((mget r16 (r46.1, r46.2.1, r46.2.2.1, r46.2.2.2.1)).getD (0 : Int)) b1 q12 q14 hr56) (sel_perm [0, 0, 0] _) ?_)
 refine go ?_
 exact jm e1 (tl [0, 0, 0, 0, 0] 0 rfl rfl)
 rintro z hi
 subst hi
 refine go ?_
 obtain ⟨x57,w57,e0⟩:=be e0
 refine W rfl (O_arI rfl rfl rfl (ck_e w57).2 (W_re (congrArg sI (ck_e w57).1) ?_))
 refine go ?_
 exact jmpL (i43.1, i43.2, x57) e0 (tl [0, 0, 0, 0, 0] 0 rfl rfl)
 refine go ?_
 obtain rfl := so e0
 refine go ?_
 exact rn' [0, 0, 0] 2 ⟨rfl, rfl⟩ rfl
def F46_l5 (fuel : Nat) (a1 : List Int) (a3 : List Int) : Nat → List Int → Int → Option (List Int)
 | 0, _, _ => none
 | n + 1, y17, y18 =>
 bif (decide (y18 < (a1.length : Int))) then (
 Option.bind (α := List Int) (
 (idx a1 y18).bind fun x22 =>
 (idx a3 x22).bind fun x23 =>
 bif (decide (x23 < (0 : Int))) then (
 if ((y17).length + ([x22]).length) * 8 ≤ 140737488355328 then (
 some (y17 ++ [x22])) else none) else (
 some y17)) fun i21 =>
 (ck (y18 + (1 : Int))).bind fun x29 =>
 F46_l5 fuel a1 a3 n i21 x29) else (
 some y17)
def F46 (fuel : Nat) (a1 : List Int) (a3 : List Int) : Option (List Int) :=
 Option.bind (α := List Int) (
 F46_l5 fuel a1 a3 fuel [] (0 : Int)) fun i4 =>
 some i4
theorem F46_ok {w0 : World} (hG : Globs w0) (fuel : Nat) : ∀ (a1 : List Int) (a3 : List Int) (q2 : Hnd) {r : List Int} (e0 : F46 fuel a1 a3 = some r), Fn w0 prog 46 [.isl .int a1, .val (sl q2)] [ownA (sl q2) 3 .int a3] (fun s H => s = .isl .int r ∧ H = [ownA (sl q2) 3 .int a3]) := by
 intro a1 a3 q2 r e0
 rw [F46] at e0
 refine fn_intro2 25 [.tmp 4] func46 rfl rfl rfl rfl fun X hX F => ?_
 refine C_turn (T_start [(0, .isl .int a1), (1, .val (sl q2))] rfl (ownA (sl q2) 3 .int a3 :: F) rfl) ?_
 refine gs ?_
 refine gs ?_
 obtain ⟨i4,e1,e0⟩:=be e0
 refine C_cut (ι := List Int × Hnd) (fun i => [(5, .val (sl i.2))]) (fun i => ownA (sl q2) 3 .int a3 :: ownA (sl i.2) 3 .int i.1 :: F) (fun i => i4 = i.1) ?_ ?_
 refine gs ?_
 refine C_loopF (κ := (List Int × Int) × Hnd) (fun d => [(1, .val (sl q2)), (5, .val (sl d.2)), (8, .isl .int a1), (9, sI (a1.length : Int)), (10, sI d.1.2)]) (fun d => ownA (sl q2) 3 .int a3 :: ownA (sl d.2) 3 .int d.1.1 :: F) (fun n d => F46_l5 fuel a1 a3 n d.1.1 d.1.2) i4 fuel (([], (0 : Int)), (none, 0, 0)) e1 (Turn.trans (T_nil 3 .int) (tl [1, 0] 0 rfl rfl)) (fun _ => rfl) ?_
 rintro n ⟨⟨y17, y18⟩, q19⟩ hF
 have e1 : F46_l5 fuel a1 a3 (n + 1) y17 y18 = some i4 := hF
 rw [F46_l5] at e1
 clear hF
 refine gs ?_
 refine C_seq ?_
 refine C_cd rfl e1 (fun e1 => ?_) (fun e1 => ?_)
 refine go ?_
 obtain ⟨i21,e2,e1⟩:=be e1
 refine C_cut (ι := List Int × Hnd) (fun i => [(1, .val (sl q2)), (5, .val (sl i.2)), (8, .isl .int a1), (9, sI (a1.length : Int)), (10, sI y18)]) (fun i => ownA (sl q2) 3 .int a3 :: ownA (sl i.2) 3 .int i.1 :: F) (fun i => i21 = i.1) ?_ ?_
 refine go ?_
 refine gs ?_
 obtain ⟨x22,w22,e2⟩:=be e2
 refine W rfl (O_indexAddr (k := .int) (z := x22) tyL_28 rfl rfl (idx_e w22).1 (idx_e w22).2 ?_)
 refine go ?_
 refine gs ?_
 obtain ⟨x23,w23,e2⟩:=be e2
 refine W rfl (O_indexAddr_own (k := .int) tyL_28 rfl rfl (idx_lt w23).1 (idx_lt w23).2 ?_)
 refine W rfl (O_load_opt (k := .int) (i := (x22).toNat) (j := 0) ty1_3 rfl rfl (idx_e w23).2 rfl ?_)
 refine go ?_
 refine C_cd rfl e2 (fun e2 => ?_) (fun e2 => ?_)
 refine go ?_
 refine W rfl (A_build 3 8 .int [x22] (ss := [(0, sI x22)]) tyE_28 tyZ_3 rfl rfl rfl rfl rfl rfl fun q25 => ?_)
 obtain ⟨h26, e2⟩ := req_e e2
 refine W rfl (A_own (k := .int) (by_ := 8) tyE_28 rfl rfl rfl rfl h26 fun q27 => ?_)
 refine go ?_
 obtain rfl := so e2
 exact jmp ((y17 ++ [x22]), q27) rfl (tl [0, 0] 0 rfl rfl)
 refine go ?_
 obtain rfl := so e2
 exact jmp (y17, q19) rfl (tl [0, 0] 0 rfl rfl)
 rintro ⟨z, q28⟩ hi
 subst hi
 refine go ?_
 obtain ⟨x29,w29,e1⟩:=be e1
 refine W rfl (O_arI rfl rfl rfl (ck_e w29).2 (W_re (congrArg sI (ck_e w29).1) ?_))
 refine go ?_
 exact jmpL ((i21, x29), q28) e1 (tl [0, 0] 0 rfl rfl)
 refine go ?_
 obtain rfl := so e1
 exact jmp (y17, q19) rfl (tl [0, 0] 0 rfl rfl)
 rintro ⟨z, q30⟩ hi
 subst hi
 refine gs ?_
 obtain rfl := so e0
 refine go ?_
 exact ret_ok (Turn.trans (T_freezeL (sl q30) (k := .int) (.cons 4 rfl .here (.cons 24 rfl .here (.cons 5 rfl .here .nil)))) (T_le (E' := [(4, .isl .int i4)]) (.mk [0] 0 rfl ⟨rfl, trivial⟩))) [0] 0 [.isl .int i4] [ownA (sl q2) 3 .int a3] (.tmp (t := 4) _ rfl .nil) rfl ⟨rfl, rfl⟩
def F43 (fuel : Nat) (a1 : Int) (a2 : Int) (a5 : List Tree) (a6 : List Int) (a7 : List Int) (a8 : List (List Int)) (a9 : List Tree) (a10 : List Int) (a11 : List Int) (a12 : List (List Int)) (a13 : List Int) (a14 : List Int) (a16 : List Int) (a18 : List Int) : Option (Bool) :=
 (idx a13 a1).bind fun x19 =>
 (idx a14 a2).bind fun x20 =>
 some (x19 == x20)
theorem F43_ok {w0 : World} (hG : Globs w0) (fuel : Nat) : ∀ (a1 : Int) (a2 : Int) (a5 : List Tree) (a6 : List Int) (a7 : List Int) (a8 : List (List Int)) (a9 : List Tree) (a10 : List Int) (a11 : List Int) (a12 : List (List Int)) (a13 : List Int) (a14 : List Int) (a16 : List Int) (a18 : List Int) (b3 : Nat) (b4 : Nat) (q15 : Hnd) (q17 : Hnd) {r : Bool} (e0 : F43 fuel a1 a2 a5 a6 a7 a8 a9 a10 a11 a12 a13 a14 a16 a18 = some r), Fn w0 prog 43 [sI a1, sI a2, sP b3 0] [boxA b3 49 [sP b4 0], bx5 b4 a5 a6 a7 a8 a9 a10 a11 a12 a13 a14 q15 q17, ownA (sl q15) 3 .int a16, ownA (sl q17) 3 .int a18] (fun s H => s = sB r ∧ H = [boxA b3 49 [sP b4 0], bx5 b4 a5 a6 a7 a8 a9 a10 a11 a12 a13 a14 q15 q17, ownA (sl q15) 3 .int a16, ownA (sl q17) 3 .int a18]) := by
 intro a1 a2 a5 a6 a7 a8 a9 a10 a11 a12 a13 a14 a16 a18 b3 b4 q15 q17 r e0
 rw [F43] at e0
 refine fn_intro2 21 [.tmp 5] func43 rfl rfl rfl rfl fun X hX F => ?_
 refine C_turn (T_start [(0, sI a1),(1, sI a2),(2, sP b3 0)] rfl (boxA b3 49 [sP b4 0] :: bx5 b4 a5 a6 a7 a8 a9 a10 a11 a12 a13 a14 q15 q17 :: ownA (sl q15) 3 .int a16 :: ownA (sl q17) 3 .int a18 :: F) rfl) ?_
 refine gs ?_
 refine C_seq ?_
 refine C_draw2 [(0,pu),(1,fr),(2,fr),(3,pu),(4,fr),(5,fr),(6,fr),(7,pu),(8,fr),(9,fr),(10,pu),(11,fr),(12,fr),(13,fr),(14,fr),(15,fr)] [false, false, false, false] [] (boxA b3 49 [sP b4 0] :: bx5 b4 a5 a6 a7 a8 a9 a10 a11 a12 a13 a14 q15 q17 :: ownA (sl q15) 3 .int a16 :: ownA (sl q17) 3 .int a18 :: F) rfl rfl rfl (by kernel_rfl) rfl ?_
 refine gd ?_
 obtain ⟨x19,w19,e0⟩:=be e0
 refine D_free rfl rfl (fun G => O_indexAddr (k := .int) (z := x19) tyL_28 (lk rfl rfl) (lk rfl rfl) (idx_e w19).1 (idx_e w19).2 ⟨rfl, rfl⟩) ?_
 refine gd ?_
 obtain ⟨x20,w20,e0⟩:=be e0
 refine D_free rfl rfl (fun G => O_indexAddr (k := .int) (z := x20) tyL_28 (lk rfl rfl) (lk rfl rfl) (idx_e w20).1 (idx_e w20).2 ⟨rfl, rfl⟩) ?_
 refine gd ?_
 refine D_nil ?_
 refine go ?_
 obtain rfl := so e0
 refine go ?_
 exact rt [0, 0, 0, 0] 0 ⟨rfl, rfl⟩ rfl rfl
def F47_l149 (fuel : Nat) (a1 : List Int) (a2 : List Int) (a5 : List Tree) (a6 : List Int) (a7 : List Int) (a8 : List (List Int)) (a9 : List Tree) (a10 : List Int) (a11 : List Int) (a12 : List (List Int)) (a13 : List Int) (a14 : List Int) (a16 : List Int) (a18 : List Int) (i42 : List (List Int)) : Nat → (List (Int × Int)) → Int → Int → Option ((List (Int × Int)))
 | 0, _, _, _ => none
 | n + 1, y182, y183, y184 =>
 Option.bind (α := Bool) (
 bif (decide (y183 < (a1.length : Int))) then (
 some (decide (y184 < (a2.length : Int)))) else (
 some false)) fun i186 =>
 bif i186 then (
 Option.bind (α := Bool) (
 (idx a1 y183).bind fun x190 =>
 (idx a2 y184).bind fun x191 =>
 (F43 fuel x190 x191 a5 a6 a7 a8 a9 a10 a11 a12 a13 a14 a16 a18).bind fun r192 =>
 bif r192 then (
 (idx i42 y183).bind fun x194 =>
 (idx x194 y184).bind fun x195 =>
 (ck (y183 + (1 : Int))).bind fun x196 =>
 (idx i42 x196).bind fun x197 =>
 (ck (y184 + (1 : Int))).bind fun x198 =>
 (idx x197 x198).bind fun x199 =>
 (ck (x199 + (1 : Int))).bind fun x200 =>
 some (x195 == x200)) else (
 some false)) fun i189 =>
 bif i189 then (
 (idx a1 y183).bind fun x202 =>
 (idx a2 y184).bind fun x203 =>
 if ((y182).length + ([(x202, x203)]).length) * 16 ≤ 140737488355328 then (
 (ck (y183 + (1 : Int))).bind fun x207 =>
 (ck (y184 + (1 : Int))).bind fun x208 =>
 F47_l149 fuel a1 a2 a5 a6 a7 a8 a9 a10 a11 a12 a13 a14 a16 a18 i42 n (y182 ++ [(x202, x203)]) x207 x208) else none) else (
 (ck (y183 + (1 : Int))).bind fun x209 =>
 (idx i42 x209).bind fun x210 =>
 (idx x210 y184).bind fun x211 =>
 (idx i42 y183).bind fun x212 =>
 (ck (y184 + (1 : Int))).bind fun x213 =>
 (idx x212 x213).bind fun x214 =>
 bif (decide (x211 ≥ x214)) then (
 F47_l149 fuel a1 a2 a5 a6 a7 a8 a9 a10 a11 a12 a13 a14 a16 a18 i42 n y182 x209 y184) else (
 F47_l149 fuel a1 a2 a5 a6 a7 a8 a9 a10 a11 a12 a13 a14 a16 a18 i42 n y182 y183 x213))) else (
 some y182)
def F47_l101 (fuel : Nat) (a1 : List Int) (a2 : List Int) (a5 : List Tree) (a6 : List Int) (a7 : List Int) (a8 : List (List Int)) (a9 : List Tree) (a10 : List Int) (a11 : List Int) (a12 : List (List Int)) (a13 : List Int) (a14 : List Int) (a16 : List Int) (a18 : List Int) (y97 : Int) : Nat → List (List Int) → Int → Option (List (List Int))
 | 0, _, _ => none
 | n + 1, y124, y125 =>
 bif (decide (y125 ≥ (0 : Int))) then (
 Option.bind (α := List (List Int)) (
 (idx a1 y97).bind fun x128 =>
 (idx a2 y125).bind fun x129 =>
 (F43 fuel x128 x129 a5 a6 a7 a8 a9 a10 a11 a12 a13 a14 a16 a18).bind fun r130 =>
 bif r130 then (
 (idx y124 y97).bind fun x132 =>
 (ck (y97 + (1 : Int))).bind fun x133 =>
 (idx y124 x133).bind fun x134 =>
 (ck (y125 + (1 : Int))).bind fun x135 =>
 (idx x134 x135).bind fun x136 =>
 (ck (x136 + (1 : Int))).bind fun x137 =>
 (idx x132 y125).bind fun x138 =>
 some (y124.set (y97).toNat (x132.set (y125).toNat x137))) else (
 (idx y124 y97).bind fun x139 =>
 (ck (y97 + (1 : Int))).bind fun x140 =>
 (idx y124 x140).bind fun x141 =>
 (idx x141 y125).bind fun x142 =>
 (ck (y125 + (1 : Int))).bind fun x143 =>
 (idx x139 x143).bind fun x144 =>
 (idx x139 y125).bind fun x145 =>
 some (y124.set (y97).toNat (x139.set (y125).toNat (if x144 > x142 then x144 else x142))))) fun i127 =>
 (ck (y125 - (1 : Int))).bind fun x146 =>
 F47_l101 fuel a1 a2 a5 a6 a7 a8 a9 a10 a11 a12 a13 a14 a16 a18 y97 n i127 x146) else (
 some y124)
def F47_l44 (fuel : Nat) (a1 : List Int) (a2 : List Int) (a5 : List Tree) (a6 : List Int) (a7 : List Int) (a8 : List (List Int)) (a9 : List Tree) (a10 : List Int) (a11 : List Int) (a12 : List (List Int)) (a13 : List Int) (a14 : List Int) (a16 : List Int) (a18 : List Int) : Nat → List (List Int) → Int → Option (List (List Int))
 | 0, _, _ => none
 | n + 1, y96, y97 =>
 bif (decide (y97 ≥ (0 : Int))) then (
 Option.bind (α := List (List Int)) (
 (ck ((a2.length : Int) - (1 : Int))).bind fun x100 =>
 F47_l101 fuel a1 a2 a5 a6 a7 a8 a9 a10 a11 a12 a13 a14 a16 a18 y97 fuel y96 x100) fun i99 =>
 (ck (y97 - (1 : Int))).bind fun x147 =>
 F47_l44 fuel a1 a2 a5 a6 a7 a8 a9 a10 a11 a12 a13 a14 a16 a18 n i99 x147) else (
 some y96)
def F47_l23 (fuel : Nat) (a2 : List Int) (x19 : Int) : Nat → List (List Int) → Int → Option (List (List Int))
 | 0, _, _ => none
 | n + 1, y32, y33 =>
 bif (decide (y33 < ((List.replicate (x19).toNat ([] : List Int)).length : Int))) then (
 (ck ((a2.length : Int) + (1 : Int))).bind fun x36 =>
 if 0 ≤ x36 ∧ x36 ≤ x36 ∧ (8 : Int) * x36 ≤ 281474976710656 ∧ x36 ≤ 1000000000 then (
 (idx y32 y33).bind fun x39 =>
 (ck (y33 + (1 : Int))).bind fun x40 =>
 F47_l23 fuel a2 x19 n (y32.set (y33).toNat (List.replicate (x36).toNat (0 : Int))) x40) else none) else (
 some y32)
def F47 (fuel : Nat) (a1 : List Int) (a2 : List Int) (a5 : List Tree) (a6 : List Int) (a7 : List Int) (a8 : List (List Int)) (a9 : List Tree) (a10 : List Int) (a11 : List Int) (a12 : List (List Int)) (a13 : List Int) (a14 : List Int) (a16 : List Int) (a18 : List Int) : Option ((List (Int × Int))) :=
 (ck ((a1.length : Int) + (1 : Int))).bind fun x19 =>
 if 0 ≤ x19 ∧ x19 ≤ x19 ∧ (24 : Int) * x19 ≤ 281474976710656 ∧ x19 ≤ 1000000000 then (
 Option.bind (α := List (List Int)) (
 F47_l23 fuel a2 x19 fuel (List.replicate (x19).toNat ([] : List Int)) (0 : Int)) fun i22 =>
 Option.bind (α := List (List Int)) (
 (ck ((a1.length : Int) - (1 : Int))).bind fun x43 =>
 F47_l44 fuel a1 a2 a5 a6 a7 a8 a9 a10 a11 a12 a13 a14 a16 a18 fuel i22 x43) fun i42 =>
 Option.bind (α := (List (Int × Int))) (
 F47_l149 fuel a1 a2 a5 a6 a7 a8 a9 a10 a11 a12 a13 a14 a16 a18 i42 fuel [] (0 : Int) (0 : Int)) fun i148 =>
 some i148) else none
theorem F47_ok {w0 : World} (hG : Globs w0) (fuel : Nat) : ∀ (a1 : List Int) (a2 : List Int) (a5 : List Tree) (a6 : List Int) (a7 : List Int) (a8 : List (List Int)) (a9 : List Tree) (a10 : List Int) (a11 : List Int) (a12 : List (List Int)) (a13 : List Int) (a14 : List Int) (a16 : List Int) (a18 : List Int) (b3 : Nat) (b4 : Nat) (q15 : Hnd) (q17 : Hnd) {r : (List (Int × Int))} (e0 : F47 fuel a1 a2 a5 a6 a7 a8 a9 a10 a11 a12 a13 a14 a16 a18 = some r), Fn w0 prog 47 [.isl .int a1, .isl .int a2, .val (.func (.func 43) #[] #[.pointer (some ⟨b3, 0, none⟩)])] [boxA b3 49 [sP b4 0], bx5 b4 a5 a6 a7 a8 a9 a10 a11 a12 a13 a14 q15 q17, ownA (sl q15) 3 .int a16, ownA (sl q17) 3 .int a18] (fun s H => s = .isl .pair r ∧ H = [boxA b3 49 [sP b4 0], bx5 b4 a5 a6 a7 a8 a9 a10 a11 a12 a13 a14 q15 q17, ownA (sl q15) 3 .int a16, ownA (sl q17) 3 .int a18]) := by
 intro a1 a2 a5 a6 a7 a8 a9 a10 a11 a12 a13 a14 a16 a18 b3 b4 q15 q17 r e0
 rw [F47] at e0
 refine fn_intro2 174 [.tmp 6] func47 rfl rfl rfl rfl fun X hX F => ?_
 refine C_turn (T_start [(0, .isl .int a1),(1, .isl .int a2),(2, .val (.func (.func 43) #[] #[.pointer (some ⟨b3, 0, none⟩)]))] rfl (boxA b3 49 [sP b4 0] :: bx5 b4 a5 a6 a7 a8 a9 a10 a11 a12 a13 a14 q15 q17 :: ownA (sl q15) 3 .int a16 :: ownA (sl q17) 3 .int a18 :: F) rfl) ?_
 refine gs ?_
 refine gs ?_
 obtain ⟨x19,w19,e0⟩:=be e0
 refine W rfl (O_arI rfl rfl rfl (ck_e w19).2 (W_re (congrArg sI (ck_e w19).1) ?_))
 obtain ⟨h20, e0⟩ := req_e e0
 refine W rfl (O_make2 (e := 3) (k := .int) (by_ := 24) tyE_29 tyZ_28 rfl rfl h20 fun q21 => ?_)
 refine go ?_
 obtain ⟨i22,e1,e0⟩:=be e0
 refine C_cut (ι := List (List Int) × List Hnd) (fun i => [(0, .isl .int a1),(1, .isl .int a2),(2, .val (.func (.func 43) #[] #[.pointer (some ⟨b3, 0, none⟩)])),(7, .val (sl q21))]) (fun i => boxA b3 49 [sP b4 0] :: bx5 b4 a5 a6 a7 a8 a9 a10 a11 a12 a13 a14 q15 q17 :: ownA (sl q15) 3 .int a16 :: ownA (sl q17) 3 .int a18 :: own2A (sl q21) 28 3 .int i.2 i.1 :: F) (fun i => i22 = i.1) ?_ ?_
 refine gs ?_
 refine W rfl (O_len_own2 tyl_29 rfl ?_)
 refine go ?_
 refine C_loopF (κ := (List (List Int) × Int) × List Hnd) (fun d => [(0, .isl .int a1),(1, .isl .int a2),(2, .val (.func (.func 43) #[] #[.pointer (some ⟨b3, 0, none⟩)])),(7, .val (sl q21)),(19, sI ((List.replicate (x19).toNat ([] : List Int)).length : Int)),(20, sI d.1.2)]) (fun d => boxA b3 49 [sP b4 0] :: bx5 b4 a5 a6 a7 a8 a9 a10 a11 a12 a13 a14 q15 q17 :: ownA (sl q15) 3 .int a16 :: ownA (sl q17) 3 .int a18 :: own2A (sl q21) 28 3 .int d.2 d.1.1 :: F) (fun n d => F47_l23 fuel a2 x19 n d.1.1 d.1.2) i22 fuel (((List.replicate (x19).toNat ([] : List Int)),(0 : Int)),(List.replicate (x19).toNat nilH)) e1 (tl [1, 1, 1, 1, 0] 0 rfl rfl) (fun _ => rfl) ?_
 rintro n ⟨⟨y32, y33⟩, q34⟩ hF
 have e1 : F47_l23 fuel a2 x19 (n + 1) y32 y33 = some i22 := hF
 rw [F47_l23] at e1
 clear hF
 refine gs ?_
 refine C_seq ?_
 refine C_cd rfl e1 (fun e1 => ?_) (fun e1 => ?_)
 refine go ?_
 refine gs ?_
 refine gs ?_
 obtain ⟨x36,w36,e1⟩:=be e1
 refine W rfl (O_arI rfl rfl rfl (ck_e w36).2 (W_re (congrArg sI (ck_e w36).1) ?_))
 obtain ⟨h37, e1⟩ := req_e e1
 refine W rfl (O_make (by_ := 8) (k := .int) (0 : Int) tyE_28 tyZ_3 (RepImpL.cons (RepImp.refl _) RepImpL.nil) rfl rfl h37 fun q38 => ?_)
 obtain ⟨x39,w39,e1⟩:=be e1
 refine W rfl (O_idx_own2 tyL_29 rfl rfl (idx_lt w39).1 (idx_lt w39).2 ?_)
 refine Wn (O_store_row2 (i := (y33).toNat) tyS_28 rfl rfl rfl (idx_e w39).2 ?_)
 refine go ?_
 obtain ⟨x40,w40,e1⟩:=be e1
 refine W rfl (O_arI rfl rfl rfl (ck_e w40).2 (W_re (congrArg sI (ck_e w40).1) ?_))
 refine go ?_
 exact jmpL (((y32.set (y33).toNat (List.replicate (x36).toNat (0 : Int))), x40),(q34.set (y33).toNat q38)) e1 (tl [0, 0, 0, 0, 0] 0 rfl rfl)
 refine go ?_
 obtain rfl := so e1
 exact jmp (y32, q34) rfl (tl [0, 0, 0, 0, 0] 0 rfl rfl)
 rintro ⟨z, q41⟩ hi
 subst hi
 obtain ⟨i42,e1,e0⟩:=be e0
 refine C_cut (ι := List (List Int)) (fun i => [(0, .isl .int a1),(1, .isl .int a2),(2, .val (.func (.func 43) #[] #[.pointer (some ⟨b3, 0, none⟩)])),(7, .val (sl q21))]) (fun i => boxA b3 49 [sP b4 0] :: bx5 b4 a5 a6 a7 a8 a9 a10 a11 a12 a13 a14 q15 q17 :: ownA (sl q15) 3 .int a16 :: ownA (sl q17) 3 .int a18 :: own2A (sl q21) 28 3 .int q41 i :: F) (fun i => i42 = i) ?_ ?_
 refine gs ?_
 obtain ⟨x43,w43,e1⟩:=be e1
 refine W rfl (O_arI rfl rfl rfl (ck_e w43).2 (W_re (congrArg sI (ck_e w43).1) ?_))
 refine go ?_
 refine C_loopF (κ := (List (List Int) × Int)) (fun d => [(0, .isl .int a1),(1, .isl .int a2),(2, .val (.func (.func 43) #[] #[.pointer (some ⟨b3, 0, none⟩)])),(7, .val (sl q21)),(9, sI d.2)]) (fun d => boxA b3 49 [sP b4 0] :: bx5 b4 a5 a6 a7 a8 a9 a10 a11 a12 a13 a14 q15 q17 :: ownA (sl q15) 3 .int a16 :: ownA (sl q17) 3 .int a18 :: own2A (sl q21) 28 3 .int q41 d.1 :: F) (fun n d => F47_l44 fuel a1 a2 a5 a6 a7 a8 a9 a10 a11 a12 a13 a14 a16 a18 n d.1 d.2) i42 fuel (i22, x43) e1 (tl [0, 0, 0, 0, 0] 0 rfl rfl) (fun _ => rfl) ?_
 rintro n ⟨y96, y97⟩ hF
 have e1 : F47_l44 fuel a1 a2 a5 a6 a7 a8 a9 a10 a11 a12 a13 a14 a16 a18 (n + 1) y96 y97 = some i42 := hF
 rw [F47_l44] at e1
 clear hF
 refine C_seq ?_
 refine gs ?_
 refine C_cd rfl e1 (fun e1 => ?_) (fun e1 => ?_)
 refine go ?_
 obtain ⟨i99,e2,e1⟩:=be e1
 refine C_cut (ι := List (List Int)) (fun i => [(0, .isl .int a1),(1, .isl .int a2),(2, .val (.func (.func 43) #[] #[.pointer (some ⟨b3, 0, none⟩)])),(7, .val (sl q21)),(9, sI y97)]) (fun i => boxA b3 49 [sP b4 0] :: bx5 b4 a5 a6 a7 a8 a9 a10 a11 a12 a13 a14 q15 q17 :: ownA (sl q15) 3 .int a16 :: ownA (sl q17) 3 .int a18 :: own2A (sl q21) 28 3 .int q41 i :: F) (fun i => i99 = i) ?_ ?_
 refine go ?_
 refine gs ?_
 obtain ⟨x100,w100,e2⟩:=be e2
 refine W rfl (O_arI rfl rfl rfl (ck_e w100).2 (W_re (congrArg sI (ck_e w100).1) ?_))
 refine go ?_
 refine C_loopF (κ := (List (List Int) × Int)) (fun d => [(0, .isl .int a1),(1, .isl .int a2),(2, .val (.func (.func 43) #[] #[.pointer (some ⟨b3, 0, none⟩)])),(7, .val (sl q21)),(9, sI y97),(10, sI d.2)]) (fun d => boxA b3 49 [sP b4 0] :: bx5 b4 a5 a6 a7 a8 a9 a10 a11 a12 a13 a14 q15 q17 :: ownA (sl q15) 3 .int a16 :: ownA (sl q17) 3 .int a18 :: own2A (sl q21) 28 3 .int q41 d.1 :: F) (fun n d => F47_l101 fuel a1 a2 a5 a6 a7 a8 a9 a10 a11 a12 a13 a14 a16 a18 y97 n d.1 d.2) i99 fuel (y96, x100) e2 (tl [0, 0, 0, 0, 0] 0 rfl rfl) (fun _ => rfl) ?_
 rintro n ⟨y124, y125⟩ hF
 have e2 : F47_l101 fuel a1 a2 a5 a6 a7 a8 a9 a10 a11 a12 a13 a14 a16 a18 y97 (n + 1) y124 y125 = some i99 := hF
 rw [F47_l101] at e2
 clear hF
 refine C_seq ?_
 refine gs ?_
 refine C_cd rfl e2 (fun e2 => ?_) (fun e2 => ?_)
 refine go ?_
 obtain ⟨i127,e3,e2⟩:=be e2
 refine C_cut (ι := List (List Int)) (fun i => [(0, .isl .int a1),(1, .isl .int a2),(2, .val (.func (.func 43) #[] #[.pointer (some ⟨b3, 0, none⟩)])),(7, .val (sl q21)),(9, sI y97),(10, sI y125)]) (fun i => boxA b3 49 [sP b4 0] :: bx5 b4 a5 a6 a7 a8 a9 a10 a11 a12 a13 a14 q15 q17 :: ownA (sl q15) 3 .int a16 :: ownA (sl q17) 3 .int a18 :: own2A (sl q21) 28 3 .int q41 i :: F) (fun i => i127 = i) ?_ ?_
 refine go ?_
 refine C_seq ?_
 refine C_draw2 [(0,fr),(1,fr),(2,fr),(3,fr),(4,fr),(5,fr),(6,fr),(7,fr),(8,fr),(9,mn)] [true, true, true, true, false] [boxA b3 49 [sP b4 0], bx5 b4 a5 a6 a7 a8 a9 a10 a11 a12 a13 a14 q15 q17, ownA (sl q15) 3 .int a16, ownA (sl q17) 3 .int a18] (own2A (sl q21) 28 3 .int q41 y124 :: F) rfl rfl rfl (by kernel_rfl) rfl ?_
 refine gd ?_
 obtain ⟨x128,w128,e3⟩:=be e3
 refine D_free rfl rfl (fun G => O_indexAddr (k := .int) (z := x128) tyL_28 (lk rfl rfl) (lk rfl rfl) (idx_e w128).1 (idx_e w128).2 ⟨rfl, rfl⟩) ?_
 refine gd ?_
 obtain ⟨x129,w129,e3⟩:=be e3
 refine D_free rfl rfl (fun G => O_indexAddr (k := .int) (z := x129) tyL_28 (lk rfl rfl) (lk rfl rfl) (idx_e w129).1 (idx_e w129).2 ⟨rfl, rfl⟩) ?_
 refine gd ?_
 obtain ⟨r130,hr130,e3⟩:=be e3
 refine D_main rfl (D_mainX rfl fun G => O_callV0 (ss := [sI x128, sI x129]) (F := ((own2A (sl q21) 28 3 .int q41 y124 :: F) ++ G)) (lk rfl rfl) fn_43 rfl (F43_ok hG fuel x128 x129 a5 a6 a7 a8 a9 a10 a11 a12 a13 a14 a16 a18 b3 b4 q15 q17 hr130) (sel_perm [0, 0, 0, 0] _) (D_end ?_))
 refine D_nil ?_
 refine C_cd rfl e3 (fun e3 => ?_) (fun e3 => ?_)
 refine C_draw2 [(0,fr),(1,fr),(2,pu),(3,pu),(4,fr),(5,fr),(6,fr),(7,fr),(8,pu),(9,pu),(10,fr),(11,fr),(12,pu),(13,pu),(14,fr),(15,pu),(16, .open_)] [false, false, false, false, false] [] (boxA b3 49 [sP b4 0] :: bx5 b4 a5 a6 a7 a8 a9 a10 a11 a12 a13 a14 q15 q17 :: ownA (sl q15) 3 .int a16 :: ownA (sl q17) 3 .int a18 :: own2A (sl q21) 28 3 .int q41 y124 :: F) rfl rfl rfl (by kernel_rfl) rfl ?_
 refine gd ?_
 obtain ⟨x132,w132,e3⟩:=be e3
 refine D_pure rfl rfl (fun G => O_idx_own2 tyL_29 (lk rfl rfl) (lk rfl rfl) (idx_lt w132).1 (idx_lt w132).2 ⟨rfl, rfl⟩) ?_
 refine D_pure rfl rfl (fun G => O_load_row2 (i := (y97).toNat) ty1_28 (lk rfl rfl) rfl (idx_e w132).2 ⟨rfl, rfl⟩) ?_
 refine gd ?_
 obtain ⟨x133,w133,e3⟩:=be e3
 refine D_free rfl rfl (fun G => O_arI (lk rfl rfl) (lk rfl rfl) rfl (ck_e w133).2 ⟨rfl, rfl⟩) (D_re (congrArg sI (ck_e w133).1) ?_)
 obtain ⟨x134,w134,e3⟩:=be e3
 refine D_pure rfl rfl (fun G => O_idx_own2 tyL_29 (lk rfl rfl) (lk rfl rfl) (idx_lt w134).1 (idx_lt w134).2 ⟨rfl, rfl⟩) ?_
 refine D_pure rfl rfl (fun G => O_load_row2 (i := (x133).toNat) ty1_28 (lk rfl rfl) rfl (idx_e w134).2 ⟨rfl, rfl⟩) ?_
 refine gd ?_
 obtain ⟨x135,w135,e3⟩:=be e3
 refine D_free rfl rfl (fun G => O_arI (lk rfl rfl) (lk rfl rfl) rfl (ck_e w135).2 ⟨rfl, rfl⟩) (D_re (congrArg sI (ck_e w135).1) ?_)
 obtain ⟨x136,w136,e3⟩:=be e3
 refine D_pure rfl rfl (fun G => O_idx_sub (i := (x133).toNat) (k := .int) tyL_28 (lk rfl rfl) (lk rfl rfl) (idx_e w134).2 (idx_lt w136).1 (idx_lt w136).2 ⟨rfl, rfl⟩) ?_
 refine D_pure rfl rfl (fun G => O_load_sub (i := (x133).toNat) (m := (x135).toNat) (j := 0) ty1_3 (lk rfl rfl) (idx_e w134).2 rfl (idx_e w136).2 rfl ⟨rfl, rfl⟩) ?_
 obtain ⟨x137,w137,e3⟩:=be e3
 refine D_free rfl rfl (fun G => O_arI (lk rfl rfl) (lk rfl rfl) rfl (ck_e w137).2 ⟨rfl, rfl⟩) (D_re (congrArg sI (ck_e w137).1) ?_)
 obtain ⟨x138,w138,e3⟩:=be e3
 refine D_pure rfl rfl (fun G => O_idx_sub (i := (y97).toNat) (k := .int) tyL_28 (lk rfl rfl) (lk rfl rfl) (idx_e w132).2 (idx_lt w138).1 (idx_lt w138).2 ⟨rfl, rfl⟩) ?_
 refine D_open2 (boxA b3 49 [sP b4 0] :: bx5 b4 a5 a6 a7 a8 a9 a10 a11 a12 a13 a14 q15 q17 :: ownA (sl q15) 3 .int a16 :: ownA (sl q17) 3 .int a18 :: own2A (sl q21) 28 3 .int q41 y124 :: F) rfl rfl (D_mainX rfl fun G => O_store_sub (i := (y97).toNat) (m := (y125).toNat) (j := 0) (z' := x137) tyS_3 (lk rfl rfl) (lk rfl rfl) rfl rfl (idx_e w132).2 rfl (idx_e w138).2 rfl (by decide) (D_end ?_))
 refine D_nil0 ?_
 exact jm e3 (tl [0, 0, 0, 0, 0] 0 rfl rfl)
 refine C_draw2 [(0,fr),(1,fr),(2,pu),(3,pu),(4,fr),(5,fr),(6,fr),(7,fr),(8,pu),(9,pu),(10,fr),(11,pu),(12,pu),(13,fr),(14,fr),(15,pu),(16,pu),(17,fr),(18,fr),(19,pu),(20,pu),(21,fr),(22,pu),(23, .open_)] [false, false, false, false, false] [] (boxA b3 49 [sP b4 0] :: bx5 b4 a5 a6 a7 a8 a9 a10 a11 a12 a13 a14 q15 q17 :: ownA (sl q15) 3 .int a16 :: ownA (sl q17) 3 .int a18 :: own2A (sl q21) 28 3 .int q41 y124 :: F) rfl rfl rfl (by kernel_rfl) rfl ?_
 refine gd ?_
 obtain ⟨x139,w139,e3⟩:=be e3
 refine D_pure rfl rfl (fun G => O_idx_own2 tyL_29 (lk rfl rfl) (lk rfl rfl) (idx_lt w139).1 (idx_lt w139).2 ⟨rfl, rfl⟩) ?_
 refine D_pure rfl rfl (fun G => O_load_row2 (i := (y97).toNat) ty1_28 (lk rfl rfl) rfl (idx_e w139).2 ⟨rfl, rfl⟩) ?_
 refine gd ?_
 obtain ⟨x140,w140,e3⟩:=be e3
 refine D_free rfl rfl (fun G => O_arI (lk rfl rfl) (lk rfl rfl) rfl (ck_e w140).2 ⟨rfl, rfl⟩) (D_re (congrArg sI (ck_e w140).1) ?_)
 obtain ⟨x141,w141,e3⟩:=be e3
 refine D_pure rfl rfl (fun G => O_idx_own2 tyL_29 (lk rfl rfl) (lk rfl rfl) (idx_lt w141).1 (idx_lt w141).2 ⟨rfl, rfl⟩) ?_
 refine D_pure rfl rfl (fun G => O_load_row2 (i := (x140).toNat) ty1_28 (lk rfl rfl) rfl (idx_e w141).2 ⟨rfl, rfl⟩) ?_
 refine gd ?_
 obtain ⟨x142,w142,e3⟩:=be e3
 refine D_pure rfl rfl (fun G => O_idx_sub (i := (x140).toNat) (k := .int) tyL_28 (lk rfl rfl) (lk rfl rfl) (idx_e w141).2 (idx_lt w142).1 (idx_lt w142).2 ⟨rfl, rfl⟩) ?_
 refine D_pure rfl rfl (fun G => O_load_sub (i := (x140).toNat) (m := (y125).toNat) (j := 0) ty1_3 (lk rfl rfl) (idx_e w141).2 rfl (idx_e w142).2 rfl ⟨rfl, rfl⟩) ?_
 refine gd ?_
 refine D_pure rfl rfl (fun G => O_idx_own2 tyL_29 (lk rfl rfl) (lk rfl rfl) (idx_lt w139).1 (idx_lt w139).2 ⟨rfl, rfl⟩) ?_
 refine D_pure rfl rfl (fun G => O_load_row2 (i := (y97).toNat) ty1_28 (lk rfl rfl) rfl (idx_e w139).2 ⟨rfl, rfl⟩) ?_
 refine gd ?_
 obtain ⟨x143,w143,e3⟩:=be e3
 refine D_free rfl rfl (fun G => O_arI (lk rfl rfl) (lk rfl rfl) rfl (ck_e w143).2 ⟨rfl, rfl⟩) (D_re (congrArg sI (ck_e w143).1) ?_)
 obtain ⟨x144,w144,e3⟩:=be e3
 refine D_pure rfl rfl (fun G => O_idx_sub (i := (y97).toNat) (k := .int) tyL_28 (lk rfl rfl) (lk rfl rfl) (idx_e w139).2 (idx_lt w144).1 (idx_lt w144).2 ⟨rfl, rfl⟩) ?_
 refine D_pure rfl rfl (fun G => O_load_sub (i := (y97).toNat) (m := (x143).toNat) (j := 0) ty1_3 (lk rfl rfl) (idx_e w139).2 rfl (idx_e w144).2 rfl ⟨rfl, rfl⟩) ?_
 refine D_free rfl rfl (fun G => O_max (lk rfl rfl) (lk rfl rfl) ⟨rfl, rfl⟩) ?_
 obtain ⟨x145,w145,e3⟩:=be e3
 refine D_pure rfl rfl (fun G => O_idx_sub (i := (y97).toNat) (k := .int) tyL_28 (lk rfl rfl) (lk rfl rfl) (idx_e w139).2 (idx_lt w145).1 (idx_lt w145).2 ⟨rfl, rfl⟩) ?_
 refine D_open2 (boxA b3 49 [sP b4 0] :: bx5 b4 a5 a6 a7 a8 a9 a10 a11 a12 a13 a14 q15 q17 :: ownA (sl q15) 3 .int a16 :: ownA (sl q17) 3 .int a18 :: own2A (sl q21) 28 3 .int q41 y124 :: F) rfl rfl (D_mainX rfl fun G => O_store_sub (i := (y97).toNat) (m := (y125).toNat) (j := 0) (z' := (if x144 > x142 then x144 else x142)) tyS_3 (lk rfl rfl) (lk rfl rfl) rfl rfl (idx_e w139).2 rfl (idx_e w145).2 rfl (by decide) (D_end ?_))
 refine D_nil0 ?_
 exact jm e3 (tl [0, 0, 0, 0, 0] 0 rfl rfl)
 rintro z hi
 subst hi
 refine go ?_
 obtain ⟨x146,w146,e2⟩:=be e2
 refine W rfl (O_arI rfl rfl rfl (ck_e w146).2 (W_re (congrArg sI (ck_e w146).1) ?_))
 refine go ?_
 exact jmpL (i127, x146) e2 (tl [0, 0, 0, 0, 0] 0 rfl rfl)
 refine go ?_
 exact jm e2 (tl [0, 0, 0, 0, 0] 0 rfl rfl)
 rintro z hi
 subst hi
 refine go ?_
 obtain ⟨x147,w147,e1⟩:=be e1
 refine W rfl (O_arI rfl rfl rfl (ck_e w147).2 (W_re (congrArg sI (ck_e w147).1) ?_))
 refine go ?_
 exact jmpL (i99, x147) e1 (tl [0, 0, 0, 0, 0] 0 rfl rfl)
 refine go ?_
 exact jm e1 (tl [0, 0, 0, 0, 0] 0 rfl rfl)
 rintro z hi
 subst hi
 refine gs ?_
 obtain ⟨i148,e1,e0⟩:=be e0
 refine C_cut (ι := ((List (Int × Int))) × Hnd) (fun i => [(11, .val (sl i.2))]) (fun i => boxA b3 49 [sP b4 0] :: bx5 b4 a5 a6 a7 a8 a9 a10 a11 a12 a13 a14 q15 q17 :: ownA (sl q15) 3 .int a16 :: ownA (sl q17) 3 .int a18 :: ownA (sl i.2) 39 .pair i.1 :: F) (fun i => i148 = i.1) ?_ ?_
 refine gs ?_
 refine C_loopF (κ := ((List (Int × Int)) × Int × Int) × Hnd) (fun d => [(0, .isl .int a1),(1, .isl .int a2),(2, .val (.func (.func 43) #[] #[.pointer (some ⟨b3, 0, none⟩)])),(7, .val (sl q21)),(11, .val (sl d.2)),(12, sI d.1.2.1),(13, sI d.1.2.2)]) (fun d => boxA b3 49 [sP b4 0] :: bx5 b4 a5 a6 a7 a8 a9 a10 a11 a12 a13 a14 q15 q17 :: ownA (sl q15) 3 .int a16 :: ownA (sl q17) 3 .int a18 :: own2A (sl q21) 28 3 .int q41 i42 :: ownA (sl d.2) 39 .pair d.1.1 :: F) (fun n d => F47_l149 fuel a1 a2 a5 a6 a7 a8 a9 a10 a11 a12 a13 a14 a16 a18 i42 n d.1.1 d.1.2.1 d.1.2.2) i148 fuel (([], (0 : Int),(0 : Int)),(none, 0, 0)) e1 (Turn.trans (T_nil 39 .pair) (tl [1, 1, 1, 1, 1, 0] 0 rfl rfl)) (fun _ => rfl) ?_
 rintro n ⟨⟨y182, y183, y184⟩, q185⟩ hF
 have e1 : F47_l149 fuel a1 a2 a5 a6 a7 a8 a9 a10 a11 a12 a13 a14 a16 a18 i42 (n + 1) y182 y183 y184 = some i148 := hF
 rw [F47_l149] at e1
 clear hF
 refine C_seq ?_
 obtain ⟨i186,e2,e1⟩:=be e1
 refine C_cut (ι := Bool) (fun i => [(0, .isl .int a1),(1, .isl .int a2),(2, .val (.func (.func 43) #[] #[.pointer (some ⟨b3, 0, none⟩)])),(7, .val (sl q21)),(11, .val (sl q185)),(12, sI y183),(13, sI y184),(103, sB i)]) (fun i => boxA b3 49 [sP b4 0] :: bx5 b4 a5 a6 a7 a8 a9 a10 a11 a12 a13 a14 q15 q17 :: ownA (sl q15) 3 .int a16 :: ownA (sl q17) 3 .int a18 :: own2A (sl q21) 28 3 .int q41 i42 :: ownA (sl q185) 39 .pair y182 :: F) (fun i => i186 = i) ?_ ?_
 refine go ?_
 obtain ⟨hg187, e2⟩ | ⟨hg187, e2⟩ := bc e2
 refine Wt rfl rfl rfl hg187 rfl rfl (O_move rfl ?_)
 refine Wt rfl rfl rfl hg187 rfl rfl (O_move rfl ?_)
 refine Wt rfl rfl rfl hg187 rfl rfl (O_len_isl tyl_28 rfl ?_)
 refine Wt rfl rfl rfl hg187 rfl rfl (O_cmp rfl rfl rfl ?_)
 refine go ?_
 exact jm e2 (tl [0, 0, 0, 0, 0, 0] 0 rfl rfl)
 refine go ?_
 exact jm e2 (tl [0, 0, 0, 0, 0, 0] 0 rfl rfl)
 rintro z hi
 subst hi
 refine C_cd rfl e1 (fun e1 => ?_) (fun e1 => ?_)
 refine go ?_
 obtain ⟨i189,e2,e1⟩:=be e1
 refine C_cut (ι := Bool) (fun i => [(0, .isl .int a1),(1, .isl .int a2),(2, .val (.func (.func 43) #[] #[.pointer (some ⟨b3, 0, none⟩)])),(7, .val (sl q21)),(11, .val (sl q185)),(12, sI y183),(13, sI y184),(106, sB i)]) (fun i => boxA b3 49 [sP b4 0] :: bx5 b4 a5 a6 a7 a8 a9 a10 a11 a12 a13 a14 q15 q17 :: ownA (sl q15) 3 .int a16 :: ownA (sl q17) 3 .int a18 :: own2A (sl q21) 28 3 .int q41 i42 :: ownA (sl q185) 39 .pair y182 :: F) (fun i => i189 = i) ?_ ?_
 refine C_draw2 [(0,fr),(1,fr),(2,fr),(3,fr),(4,fr),(5,fr),(6,fr),(7,fr),(8,fr),(9,mn),(10,fr),(11,fr),(12,fr),(13,pu),(14,pu),(15,fr),(16,pu),(17,pu),(18,fr),(19,fr),(20,fr),(21,pu),(22,pu),(23,fr),(24,fr),(25,pu),(26,pu),(27,fr),(28,fr),(29,fr),(30,fr)] [true, true, true, true, false, false] [boxA b3 49 [sP b4 0], bx5 b4 a5 a6 a7 a8 a9 a10 a11 a12 a13 a14 q15 q17, ownA (sl q15) 3 .int a16, ownA (sl q17) 3 .int a18] (own2A (sl q21) 28 3 .int q41 i42 :: ownA (sl q185) 39 .pair y182 :: F) rfl rfl rfl (by kernel_rfl) rfl ?_
 refine gd ?_
 obtain ⟨x190,w190,e2⟩:=be e2
 refine D_free rfl rfl (fun G => O_indexAddr (k := .int) (z := x190) tyL_28 (lk rfl rfl) (lk rfl rfl) (idx_e w190).1 (idx_e w190).2 ⟨rfl, rfl⟩) ?_
 refine gd ?_
 obtain ⟨x191,w191,e2⟩:=be e2
 refine D_free rfl rfl (fun G => O_indexAddr (k := .int) (z := x191) tyL_28 (lk rfl rfl) (lk rfl rfl) (idx_e w191).1 (idx_e w191).2 ⟨rfl, rfl⟩) ?_
 refine gd ?_
 obtain ⟨r192,hr192,e2⟩:=be e2
 refine D_main rfl (D_mainX rfl fun G => O_callV0 (ss := [sI x190, sI x191]) (F := ((own2A (sl q21) 28 3 .int q41 i42 :: ownA (sl q185) 39 .pair y182 :: F) ++ G)) (lk rfl rfl) fn_43 rfl (F43_ok hG fuel x190 x191 a5 a6 a7 a8 a9 a10 a11 a12 a13 a14 a16 a18 b3 b4 q15 q17 hr192) (sel_perm [0, 0, 0, 0] _) (D_end ?_))
 refine gd ?_
 obtain ⟨hg193, e2⟩ | ⟨hg193, e2⟩ := bc e2
 refine gd ?_
 obtain ⟨x194,w194,e2⟩:=be e2
 refine D_pureT rfl rfl rfl (lg rfl rfl) hg193 (fun G => O_idx_own2 tyL_29 (lk rfl rfl) (lk rfl rfl) (idx_lt w194).1 (idx_lt w194).2 ⟨rfl, rfl⟩) ?_
 refine D_pureT rfl rfl rfl (lg rfl rfl) hg193 (fun G => O_load_row2 (i := (y183).toNat) ty1_28 (lk rfl rfl) rfl (idx_e w194).2 ⟨rfl, rfl⟩) ?_
 refine gd ?_
 obtain ⟨x195,w195,e2⟩:=be e2
 refine D_pureT rfl rfl rfl (lg rfl rfl) hg193 (fun G => O_idx_sub (i := (y183).toNat) (k := .int) tyL_28 (lk rfl rfl) (lk rfl rfl) (idx_e w194).2 (idx_lt w195).1 (idx_lt w195).2 ⟨rfl, rfl⟩) ?_
 refine D_pureT rfl rfl rfl (lg rfl rfl) hg193 (fun G => O_load_sub (i := (y183).toNat) (m := (y184).toNat) (j := 0) ty1_3 (lk rfl rfl) (idx_e w194).2 rfl (idx_e w195).2 rfl ⟨rfl, rfl⟩) ?_
 refine gd ?_
 obtain ⟨x196,w196,e2⟩:=be e2
 refine D_freeT rfl rfl rfl (lg rfl rfl) hg193 (fun G => O_arI (lk rfl rfl) (lk rfl rfl) rfl (ck_e w196).2 ⟨rfl, rfl⟩) (D_re (congrArg sI (ck_e w196).1) ?_)
 obtain ⟨x197,w197,e2⟩:=be e2
 refine D_pureT rfl rfl rfl (lg rfl rfl) hg193 (fun G => O_idx_own2 tyL_29 (lk rfl rfl) (lk rfl rfl) (idx_lt w197).1 (idx_lt w197).2 ⟨rfl, rfl⟩) ?_
 refine D_pureT rfl rfl rfl (lg rfl rfl) hg193 (fun G => O_load_row2 (i := (x196).toNat) ty1_28 (lk rfl rfl) rfl (idx_e w197).2 ⟨rfl, rfl⟩) ?_
 refine gd ?_
 obtain ⟨x198,w198,e2⟩:=be e2
 refine D_freeT rfl rfl rfl (lg rfl rfl) hg193 (fun G => O_arI (lk rfl rfl) (lk rfl rfl) rfl (ck_e w198).2 ⟨rfl, rfl⟩) (D_re (congrArg sI (ck_e w198).1) ?_)
 obtain ⟨x199,w199,e2⟩:=be e2
 refine D_pureT rfl rfl rfl (lg rfl rfl) hg193 (fun G => O_idx_sub (i := (x196).toNat) (k := .int) tyL_28 (lk rfl rfl) (lk rfl rfl) (idx_e w197).2 (idx_lt w199).1 (idx_lt w199).2 ⟨rfl, rfl⟩) ?_
 refine D_pureT rfl rfl rfl (lg rfl rfl) hg193 (fun G => O_load_sub (i := (x196).toNat) (m := (x198).toNat) (j := 0) ty1_3 (lk rfl rfl) (idx_e w197).2 rfl (idx_e w199).2 rfl ⟨rfl, rfl⟩) ?_
 obtain ⟨x200,w200,e2⟩:=be e2
 refine D_freeT rfl rfl rfl (lg rfl rfl) hg193 (fun G => O_arI (lk rfl rfl) (lk rfl rfl) rfl (ck_e w200).2 ⟨rfl, rfl⟩) (D_re (congrArg sI (ck_e w200).1) ?_)
 refine gd ?_
 refine D_nil ?_
 exact jm e2 (tl [0, 0, 0, 0, 0, 0] 0 rfl rfl)
 refine gd ?_
 refine D_nil ?_
 exact jm e2 (tl [0, 0, 0, 0, 0, 0] 0 rfl rfl)
 rintro z hi
 subst hi
 refine C_cd rfl e1 (fun e1 => ?_) (fun e1 => ?_)
 refine C_seq ?_
 refine C_draw2 [(0,fr),(1,fr),(2,fr),(3,fr),(4,fr),(5,fr),(6,fr),(7,fr),(8,fr),(9,fr),(10,nw),(11, .take),(12,fr)] [false, false, false, false, false, true] [ownA (sl q185) 39 .pair y182] (boxA b3 49 [sP b4 0] :: bx5 b4 a5 a6 a7 a8 a9 a10 a11 a12 a13 a14 q15 q17 :: ownA (sl q15) 3 .int a16 :: ownA (sl q17) 3 .int a18 :: own2A (sl q21) 28 3 .int q41 i42 :: F) rfl rfl rfl (by kernel_rfl) rfl ?_
 refine gd ?_
 obtain ⟨x202,w202,e1⟩:=be e1
 refine D_free rfl rfl (fun G => O_indexAddr (k := .int) (z := x202) tyL_28 (lk rfl rfl) (lk rfl rfl) (idx_e w202).1 (idx_e w202).2 ⟨rfl, rfl⟩) ?_
 refine gd ?_
 obtain ⟨x203,w203,e1⟩:=be e1
 refine D_free rfl rfl (fun G => O_indexAddr (k := .int) (z := x203) tyL_28 (lk rfl rfl) (lk rfl rfl) (idx_e w203).1 (idx_e w203).2 ⟨rfl, rfl⟩) ?_
 refine gd ?_
 refine D_free rfl rfl (fun G => O_build (ss := [(0, sI x202),(1, sI x203)]) tyZ_39 tyP_39 rfl rfl rfl ⟨rfl, rfl⟩) ?_
 refine D_new rfl rfl ⟨10, Hnd, fun q204 => .val (sl q204), fun q204 => ownA (sl q204) 39 .pair [(x202, x203)]⟩ rfl (fun G => A_build 39 16 .pair [(x202, x203)] (ss := [(0, .agg [sI x202, sI x203])]) tyE_25 tyZ_39 rfl rfl rfl rfl rfl rfl fun q204 => ⟨q204, rfl, rfl⟩) ?_
 obtain ⟨h205, e1⟩ := req_e e1
 refine D_take _ _ rfl rfl rfl (fun q204 => ?_)
 refine D_mainX rfl fun G => A_own (k := .pair) (by_ := 16) tyE_25 rfl rfl (lk rfl rfl) (lk rfl rfl) h205 fun q206 => (D_end ?_)
 refine gd ?_
 refine D_nil ?_
 refine go ?_
 obtain ⟨x207,w207,e1⟩:=be e1
 refine W rfl (O_arI rfl rfl rfl (ck_e w207).2 (W_re (congrArg sI (ck_e w207).1) ?_))
 refine go ?_
 obtain ⟨x208,w208,e1⟩:=be e1
 refine W rfl (O_arI rfl rfl rfl (ck_e w208).2 (W_re (congrArg sI (ck_e w208).1) ?_))
 refine go ?_
 exact jmpL (((y182 ++ [(x202, x203)]), x207, x208), q206) e1 (tl [1, 1, 1, 1, 1, 0] 0 rfl rfl)
 refine C_seq ?_
 refine C_draw2 [(0,fr),(1,fr),(2,fr),(3,pu),(4,pu),(5,fr),(6,pu),(7,pu),(8,fr),(9,fr),(10,pu),(11,pu),(12,fr),(13,fr),(14,pu),(15,pu),(16,fr),(17,fr)] [false, false, false, false, false, false] [] (boxA b3 49 [sP b4 0] :: bx5 b4 a5 a6 a7 a8 a9 a10 a11 a12 a13 a14 q15 q17 :: ownA (sl q15) 3 .int a16 :: ownA (sl q17) 3 .int a18 :: own2A (sl q21) 28 3 .int q41 i42 :: ownA (sl q185) 39 .pair y182 :: F) rfl rfl rfl (by kernel_rfl) rfl ?_
 refine gd ?_
 obtain ⟨x209,w209,e1⟩:=be e1
 refine D_free rfl rfl (fun G => O_arI (lk rfl rfl) (lk rfl rfl) rfl (ck_e w209).2 ⟨rfl, rfl⟩) (D_re (congrArg sI (ck_e w209).1) ?_)
 obtain ⟨x210,w210,e1⟩:=be e1
 refine D_pure rfl rfl (fun G => O_idx_own2 tyL_29 (lk rfl rfl) (lk rfl rfl) (idx_lt w210).1 (idx_lt w210).2 ⟨rfl, rfl⟩) ?_
 refine D_pure rfl rfl (fun G => O_load_row2 (i := (x209).toNat) ty1_28 (lk rfl rfl) rfl (idx_e w210).2 ⟨rfl, rfl⟩) ?_
 refine gd ?_
 obtain ⟨x211,w211,e1⟩:=be e1
 refine D_pure rfl rfl (fun G => O_idx_sub (i := (x209).toNat) (k := .int) tyL_28 (lk rfl rfl) (lk rfl rfl) (idx_e w210).2 (idx_lt w211).1 (idx_lt w211).2 ⟨rfl, rfl⟩) ?_
 refine D_pure rfl rfl (fun G => O_load_sub (i := (x209).toNat) (m := (y184).toNat) (j := 0) ty1_3 (lk rfl rfl) (idx_e w210).2 rfl (idx_e w211).2 rfl ⟨rfl, rfl⟩) ?_
 refine gd ?_
 obtain ⟨x212,w212,e1⟩:=be e1
 refine D_pure rfl rfl (fun G => O_idx_own2 tyL_29 (lk rfl rfl) (lk rfl rfl) (idx_lt w212).1 (idx_lt w212).2 ⟨rfl, rfl⟩) ?_
 refine D_pure rfl rfl (fun G => O_load_row2 (i := (y183).toNat) ty1_28 (lk rfl rfl) rfl (idx_e w212).2 ⟨rfl, rfl⟩) ?_
 refine gd ?_
 obtain ⟨x213,w213,e1⟩:=be e1
 refine D_free rfl rfl (fun G => O_arI (lk rfl rfl) (lk rfl rfl) rfl (ck_e w213).2 ⟨rfl, rfl⟩) (D_re (congrArg sI (ck_e w213).1) ?_)
 obtain ⟨x214,w214,e1⟩:=be e1
 refine D_pure rfl rfl (fun G => O_idx_sub (i := (y183).toNat) (k := .int) tyL_28 (lk rfl rfl) (lk rfl rfl) (idx_e w212).2 (idx_lt w214).1 (idx_lt w214).2 ⟨rfl, rfl⟩) ?_
 refine D_pure rfl rfl (fun G => O_load_sub (i := (y183).toNat) (m := (x213).toNat) (j := 0) ty1_3 (lk rfl rfl) (idx_e w212).2 rfl (idx_e w214).2 rfl ⟨rfl, rfl⟩) ?_
 refine gd ?_
 refine D_nil ?_
 refine C_cd rfl e1 (fun e1 => ?_) (fun e1 => ?_)
 refine go ?_
 refine W rfl (O_arI rfl rfl rfl (ck_e w209).2 (W_re (congrArg sI (ck_e w209).1) ?_))
 refine go ?_
 exact jmpL ((y182, x209, y184), q185) e1 (tl [0, 0, 0, 0, 0, 0] 0 rfl rfl)
 refine go ?_
 refine W rfl (O_arI rfl rfl rfl (ck_e w213).2 (W_re (congrArg sI (ck_e w213).1) ?_))
 refine go ?_
 exact jmpL ((y182, y183, x213), q185) e1 (tl [0, 0, 0, 0, 0, 0] 0 rfl rfl)
 refine go ?_
 obtain rfl := so e1
 exact jmp (y182, q185) rfl (tl [0, 0, 0, 0, 1] 1 rfl rfl)
 rintro ⟨z, q216⟩ hi
 subst hi
 refine gs ?_
 obtain rfl := so e0
 refine go ?_
 exact ret_ok (Turn.trans (T_freezeL (sl q216) (k := .pair) (.cons 6 rfl .here (.cons 173 rfl .here (.cons 11 rfl .here .nil)))) (T_le (E' := [(6, .isl .pair i148)]) (.mk [0, 0, 0, 0] 0 rfl ⟨rfl, trivial⟩))) [0, 0, 0, 0] 0 [.isl .pair i148] [boxA b3 49 [sP b4 0], bx5 b4 a5 a6 a7 a8 a9 a10 a11 a12 a13 a14 q15 q17, ownA (sl q15) 3 .int a16, ownA (sl q17) 3 .int a18] (.tmp (t := 6) _ rfl .nil) rfl ⟨rfl, rfl⟩
def F44 (fuel : Nat) (a1 : Int) (a2 : Int) (a5 : List Tree) (a6 : List Int) (a7 : List Int) (a8 : List (List Int)) (a9 : List Tree) (a10 : List Int) (a11 : List Int) (a12 : List (List Int)) (a13 : List Int) (a14 : List Int) (a16 : List Int) (a18 : List Int) : Option (Bool) :=
 Option.bind (α := Bool) (
 (idx a5 a1).bind fun x20 =>
 (idx a9 a2).bind fun x21 =>
 bif (x20.kind == x21.kind) then (
 some (decide (x20.text = x21.text))) else (
 some false)) fun i19 =>
 some i19
theorem F44_ok {w0 : World} (hG : Globs w0) (fuel : Nat) : ∀ (a1 : Int) (a2 : Int) (a5 : List Tree) (a6 : List Int) (a7 : List Int) (a8 : List (List Int)) (a9 : List Tree) (a10 : List Int) (a11 : List Int) (a12 : List (List Int)) (a13 : List Int) (a14 : List Int) (a16 : List Int) (a18 : List Int) (b3 : Nat) (b4 : Nat) (q15 : Hnd) (q17 : Hnd) {r : Bool} (e0 : F44 fuel a1 a2 a5 a6 a7 a8 a9 a10 a11 a12 a13 a14 a16 a18 = some r), Fn w0 prog 44 [sI a1, sI a2, sP b3 0] [boxA b3 49 [sP b4 0], bx5 b4 a5 a6 a7 a8 a9 a10 a11 a12 a13 a14 q15 q17, ownA (sl q15) 3 .int a16, ownA (sl q17) 3 .int a18] (fun s H => s = sB r ∧ H = [boxA b3 49 [sP b4 0], bx5 b4 a5 a6 a7 a8 a9 a10 a11 a12 a13 a14 q15 q17, ownA (sl q15) 3 .int a16, ownA (sl q17) 3 .int a18]) := by
 intro a1 a2 a5 a6 a7 a8 a9 a10 a11 a12 a13 a14 a16 a18 b3 b4 q15 q17 r e0
 rw [F44] at e0
 refine fn_intro2 46 [.tmp 5] func44 rfl rfl rfl rfl fun X hX F => ?_
 refine C_turn (T_start [(0, sI a1),(1, sI a2),(2, sP b3 0)] rfl (boxA b3 49 [sP b4 0] :: bx5 b4 a5 a6 a7 a8 a9 a10 a11 a12 a13 a14 q15 q17 :: ownA (sl q15) 3 .int a16 :: ownA (sl q17) 3 .int a18 :: F) rfl) ?_
 refine gs ?_
 obtain ⟨i19,e1,e0⟩:=be e0
 refine C_cut (ι := Bool) (fun i => [(5, sB i)]) (fun i => boxA b3 49 [sP b4 0] :: bx5 b4 a5 a6 a7 a8 a9 a10 a11 a12 a13 a14 q15 q17 :: ownA (sl q15) 3 .int a16 :: ownA (sl q17) 3 .int a18 :: F) (fun i => i19 = i) ?_ ?_
 refine C_draw2 [(0,pu),(1,fr),(2,fr),(3,fr),(4,pu),(5,fr),(6,fr),(7,fr),(8,fr),(9,pu),(10,fr),(11,fr),(12,fr),(13,pu),(14,fr),(15,fr),(16,fr),(17,fr),(18,fr),(19,fr),(20,pu),(21,fr),(22,fr),(23,fr),(24,pu),(25,fr),(26,fr),(27,fr),(28,fr),(29,pu),(30,fr),(31,fr),(32,fr),(33,pu),(34,fr),(35,fr),(36,fr),(37,fr),(38,fr),(39,fr),(40,fr)] [false, false, false, false] [] (boxA b3 49 [sP b4 0] :: bx5 b4 a5 a6 a7 a8 a9 a10 a11 a12 a13 a14 q15 q17 :: ownA (sl q15) 3 .int a16 :: ownA (sl q17) 3 .int a18 :: F) rfl rfl rfl (by kernel_rfl) rfl ?_
 refine gd ?_
 obtain ⟨x20,w20,e1⟩:=be e1
 refine D_free rfl rfl (fun G => O_indexAddr (k := .node) (z := x20) tyL_22 (lk rfl rfl) (lk rfl rfl) (idx_e w20).1 (idx_e w20).2 ⟨rfl, rfl⟩) ?_
 refine gd ?_
 obtain ⟨x21,w21,e1⟩:=be e1
 refine D_free rfl rfl (fun G => O_indexAddr (k := .node) (z := x21) tyL_22 (lk rfl rfl) (lk rfl rfl) (idx_e w21).1 (idx_e w21).2 ⟨rfl, rfl⟩) ?_
 refine gd ?_
 obtain ⟨hg22, e1⟩ | ⟨hg22, e1⟩ := bc e1
 refine gd ?_
 refine D_freeT rfl rfl rfl (lg rfl rfl) hg22 (fun G => O_indexAddr (k := .node) (z := x20) tyL_22 (lk rfl rfl) (lk rfl rfl) (idx_e w20).1 (idx_e w20).2 ⟨rfl, rfl⟩) ?_
 refine gd ?_
 refine D_freeT rfl rfl rfl (lg rfl rfl) hg22 (fun G => O_indexAddr (k := .node) (z := x21) tyL_22 (lk rfl rfl) (lk rfl rfl) (idx_e w21).1 (idx_e w21).2 ⟨rfl, rfl⟩) ?_
 refine gd ?_
 refine D_freeT rfl rfl rfl (lg rfl rfl) hg22 (fun G => O_seq (lk rfl rfl) (lk rfl rfl) ⟨rfl, rfl⟩) ?_
 refine gd ?_
 refine D_nil ?_
 exact jm e1 (tl [0, 0, 0, 0] 0 rfl rfl)
 refine gd ?_
 refine D_nil ?_
 exact jm e1 (tl [0, 0, 0, 0] 0 rfl rfl)
 rintro z hi
 subst hi
 refine go ?_
 obtain rfl := so e0
 refine go ?_
 exact rt [0, 0, 0, 0] 0 ⟨rfl, rfl⟩ rfl rfl
def F47v1_l149 (fuel : Nat) (a1 : List Int) (a2 : List Int) (a5 : List Tree) (a6 : List Int) (a7 : List Int) (a8 : List (List Int)) (a9 : List Tree) (a10 : List Int) (a11 : List Int) (a12 : List (List Int)) (a13 : List Int) (a14 : List Int) (a16 : List Int) (a18 : List Int) (i42 : List (List Int)) : Nat → (List (Int × Int)) → Int → Int → Option ((List (Int × Int)))
 | 0, _, _, _ => none
 | n + 1, y182, y183, y184 =>
 Option.bind (α := Bool) (
 bif (decide (y183 < (a1.length : Int))) then (
 some (decide (y184 < (a2.length : Int)))) else (
 some false)) fun i186 =>
 bif i186 then (
 Option.bind (α := Bool) (
 (idx a1 y183).bind fun x190 =>
 (idx a2 y184).bind fun x191 =>
 (F44 fuel x190 x191 a5 a6 a7 a8 a9 a10 a11 a12 a13 a14 a16 a18).bind fun r192 =>
 bif r192 then (
 (idx i42 y183).bind fun x194 =>
 (idx x194 y184).bind fun x195 =>
 (ck (y183 + (1 : Int))).bind fun x196 =>
 (idx i42 x196).bind fun x197 =>
 (ck (y184 + (1 : Int))).bind fun x198 =>
 (idx x197 x198).bind fun x199 =>
 (ck (x199 + (1 : Int))).bind fun x200 =>
 some (x195 == x200)) else (
 some false)) fun i189 =>
 bif i189 then (
 (idx a1 y183).bind fun x202 =>
 (idx a2 y184).bind fun x203 =>
 if ((y182).length + ([(x202, x203)]).length) * 16 ≤ 140737488355328 then (
 (ck (y183 + (1 : Int))).bind fun x207 =>
 (ck (y184 + (1 : Int))).bind fun x208 =>
 F47v1_l149 fuel a1 a2 a5 a6 a7 a8 a9 a10 a11 a12 a13 a14 a16 a18 i42 n (y182 ++ [(x202, x203)]) x207 x208) else none) else (
 (ck (y183 + (1 : Int))).bind fun x209 =>
 (idx i42 x209).bind fun x210 =>
 (idx x210 y184).bind fun x211 =>
 (idx i42 y183).bind fun x212 =>
 (ck (y184 + (1 : Int))).bind fun x213 =>
 (idx x212 x213).bind fun x214 =>
 bif (decide (x211 ≥ x214)) then (
 F47v1_l149 fuel a1 a2 a5 a6 a7 a8 a9 a10 a11 a12 a13 a14 a16 a18 i42 n y182 x209 y184) else (
 F47v1_l149 fuel a1 a2 a5 a6 a7 a8 a9 a10 a11 a12 a13 a14 a16 a18 i42 n y182 y183 x213))) else (
 some y182)
def F47v1_l101 (fuel : Nat) (a1 : List Int) (a2 : List Int) (a5 : List Tree) (a6 : List Int) (a7 : List Int) (a8 : List (List Int)) (a9 : List Tree) (a10 : List Int) (a11 : List Int) (a12 : List (List Int)) (a13 : List Int) (a14 : List Int) (a16 : List Int) (a18 : List Int) (y97 : Int) : Nat → List (List Int) → Int → Option (List (List Int))
 | 0, _, _ => none
 | n + 1, y124, y125 =>
 bif (decide (y125 ≥ (0 : Int))) then (
 Option.bind (α := List (List Int)) (
 (idx a1 y97).bind fun x128 =>
 (idx a2 y125).bind fun x129 =>
 (F44 fuel x128 x129 a5 a6 a7 a8 a9 a10 a11 a12 a13 a14 a16 a18).bind fun r130 =>
 bif r130 then (
 (idx y124 y97).bind fun x132 =>
 (ck (y97 + (1 : Int))).bind fun x133 =>
 (idx y124 x133).bind fun x134 =>
 (ck (y125 + (1 : Int))).bind fun x135 =>
 (idx x134 x135).bind fun x136 =>
 (ck (x136 + (1 : Int))).bind fun x137 =>
 (idx x132 y125).bind fun x138 =>
 some (y124.set (y97).toNat (x132.set (y125).toNat x137))) else (
 (idx y124 y97).bind fun x139 =>
 (ck (y97 + (1 : Int))).bind fun x140 =>
 (idx y124 x140).bind fun x141 =>
 (idx x141 y125).bind fun x142 =>
 (ck (y125 + (1 : Int))).bind fun x143 =>
 (idx x139 x143).bind fun x144 =>
 (idx x139 y125).bind fun x145 =>
 some (y124.set (y97).toNat (x139.set (y125).toNat (if x144 > x142 then x144 else x142))))) fun i127 =>
 (ck (y125 - (1 : Int))).bind fun x146 =>
 F47v1_l101 fuel a1 a2 a5 a6 a7 a8 a9 a10 a11 a12 a13 a14 a16 a18 y97 n i127 x146) else (
 some y124)
def F47v1_l44 (fuel : Nat) (a1 : List Int) (a2 : List Int) (a5 : List Tree) (a6 : List Int) (a7 : List Int) (a8 : List (List Int)) (a9 : List Tree) (a10 : List Int) (a11 : List Int) (a12 : List (List Int)) (a13 : List Int) (a14 : List Int) (a16 : List Int) (a18 : List Int) : Nat → List (List Int) → Int → Option (List (List Int))
 | 0, _, _ => none
 | n + 1, y96, y97 =>
 bif (decide (y97 ≥ (0 : Int))) then (
 Option.bind (α := List (List Int)) (
 (ck ((a2.length : Int) - (1 : Int))).bind fun x100 =>
 F47v1_l101 fuel a1 a2 a5 a6 a7 a8 a9 a10 a11 a12 a13 a14 a16 a18 y97 fuel y96 x100) fun i99 =>
 (ck (y97 - (1 : Int))).bind fun x147 =>
 F47v1_l44 fuel a1 a2 a5 a6 a7 a8 a9 a10 a11 a12 a13 a14 a16 a18 n i99 x147) else (
 some y96)
def F47v1_l23 (fuel : Nat) (a2 : List Int) (x19 : Int) : Nat → List (List Int) → Int → Option (List (List Int))
 | 0, _, _ => none
 | n + 1, y32, y33 =>
 bif (decide (y33 < ((List.replicate (x19).toNat ([] : List Int)).length : Int))) then (
 (ck ((a2.length : Int) + (1 : Int))).bind fun x36 =>
 if 0 ≤ x36 ∧ x36 ≤ x36 ∧ (8 : Int) * x36 ≤ 281474976710656 ∧ x36 ≤ 1000000000 then (
 (idx y32 y33).bind fun x39 =>
 (ck (y33 + (1 : Int))).bind fun x40 =>
 F47v1_l23 fuel a2 x19 n (y32.set (y33).toNat (List.replicate (x36).toNat (0 : Int))) x40) else none) else (
 some y32)
def F47v1 (fuel : Nat) (a1 : List Int) (a2 : List Int) (a5 : List Tree) (a6 : List Int) (a7 : List Int) (a8 : List (List Int)) (a9 : List Tree) (a10 : List Int) (a11 : List Int) (a12 : List (List Int)) (a13 : List Int) (a14 : List Int) (a16 : List Int) (a18 : List Int) : Option ((List (Int × Int))) :=
 (ck ((a1.length : Int) + (1 : Int))).bind fun x19 =>
 if 0 ≤ x19 ∧ x19 ≤ x19 ∧ (24 : Int) * x19 ≤ 281474976710656 ∧ x19 ≤ 1000000000 then (
 Option.bind (α := List (List Int)) (
 F47v1_l23 fuel a2 x19 fuel (List.replicate (x19).toNat ([] : List Int)) (0 : Int)) fun i22 =>
 Option.bind (α := List (List Int)) (
 (ck ((a1.length : Int) - (1 : Int))).bind fun x43 =>
 F47v1_l44 fuel a1 a2 a5 a6 a7 a8 a9 a10 a11 a12 a13 a14 a16 a18 fuel i22 x43) fun i42 =>
 Option.bind (α := (List (Int × Int))) (
 F47v1_l149 fuel a1 a2 a5 a6 a7 a8 a9 a10 a11 a12 a13 a14 a16 a18 i42 fuel [] (0 : Int) (0 : Int)) fun i148 =>
 some i148) else none
theorem F47v1_ok {w0 : World} (hG : Globs w0) (fuel : Nat) : ∀ (a1 : List Int) (a2 : List Int) (a5 : List Tree) (a6 : List Int) (a7 : List Int) (a8 : List (List Int)) (a9 : List Tree) (a10 : List Int) (a11 : List Int) (a12 : List (List Int)) (a13 : List Int) (a14 : List Int) (a16 : List Int) (a18 : List Int) (b3 : Nat) (b4 : Nat) (q15 : Hnd) (q17 : Hnd) {r : (List (Int × Int))} (e0 : F47v1 fuel a1 a2 a5 a6 a7 a8 a9 a10 a11 a12 a13 a14 a16 a18 = some r), Fn w0 prog 47 [.isl .int a1, .isl .int a2, .val (.func (.func 44) #[] #[.pointer (some ⟨b3, 0, none⟩)])] [boxA b3 49 [sP b4 0], bx5 b4 a5 a6 a7 a8 a9 a10 a11 a12 a13 a14 q15 q17, ownA (sl q15) 3 .int a16, ownA (sl q17) 3 .int a18] (fun s H => s = .isl .pair r ∧ H = [boxA b3 49 [sP b4 0], bx5 b4 a5 a6 a7 a8 a9 a10 a11 a12 a13 a14 q15 q17, ownA (sl q15) 3 .int a16, ownA (sl q17) 3 .int a18]) := by
 intro a1 a2 a5 a6 a7 a8 a9 a10 a11 a12 a13 a14 a16 a18 b3 b4 q15 q17 r e0
 rw [F47v1] at e0
 refine fn_intro2 174 [.tmp 6] func47 rfl rfl rfl rfl fun X hX F => ?_
 refine C_turn (T_start [(0, .isl .int a1),(1, .isl .int a2),(2, .val (.func (.func 44) #[] #[.pointer (some ⟨b3, 0, none⟩)]))] rfl (boxA b3 49 [sP b4 0] :: bx5 b4 a5 a6 a7 a8 a9 a10 a11 a12 a13 a14 q15 q17 :: ownA (sl q15) 3 .int a16 :: ownA (sl q17) 3 .int a18 :: F) rfl) ?_
 refine gs ?_
 refine gs ?_
 obtain ⟨x19,w19,e0⟩:=be e0
 refine W rfl (O_arI rfl rfl rfl (ck_e w19).2 (W_re (congrArg sI (ck_e w19).1) ?_))
 obtain ⟨h20, e0⟩ := req_e e0
 refine W rfl (O_make2 (e := 3) (k := .int) (by_ := 24) tyE_29 tyZ_28 rfl rfl h20 fun q21 => ?_)
 refine go ?_
 obtain ⟨i22,e1,e0⟩:=be e0
 refine C_cut (ι := List (List Int) × List Hnd) (fun i => [(0, .isl .int a1),(1, .isl .int a2),(2, .val (.func (.func 44) #[] #[.pointer (some ⟨b3, 0, none⟩)])),(7, .val (sl q21))]) (fun i => boxA b3 49 [sP b4 0] :: bx5 b4 a5 a6 a7 a8 a9 a10 a11 a12 a13 a14 q15 q17 :: ownA (sl q15) 3 .int a16 :: ownA (sl q17) 3 .int a18 :: own2A (sl q21) 28 3 .int i.2 i.1 :: F) (fun i => i22 = i.1) ?_ ?_
 refine gs ?_
 refine W rfl (O_len_own2 tyl_29 rfl ?_)
 refine go ?_
 refine C_loopF (κ := (List (List Int) × Int) × List Hnd) (fun d => [(0, .isl .int a1),(1, .isl .int a2),(2, .val (.func (.func 44) #[] #[.pointer (some ⟨b3, 0, none⟩)])),(7, .val (sl q21)),(19, sI ((List.replicate (x19).toNat ([] : List Int)).length : Int)),(20, sI d.1.2)]) (fun d => boxA b3 49 [sP b4 0] :: bx5 b4 a5 a6 a7 a8 a9 a10 a11 a12 a13 a14 q15 q17 :: ownA (sl q15) 3 .int a16 :: ownA (sl q17) 3 .int a18 :: own2A (sl q21) 28 3 .int d.2 d.1.1 :: F) (fun n d => F47v1_l23 fuel a2 x19 n d.1.1 d.1.2) i22 fuel (((List.replicate (x19).toNat ([] : List Int)),(0 : Int)),(List.replicate (x19).toNat nilH)) e1 (tl [1, 1, 1, 1, 0] 0 rfl rfl) (fun _ => rfl) ?_
 rintro n ⟨⟨y32, y33⟩, q34⟩ hF
 have e1 : F47v1_l23 fuel a2 x19 (n + 1) y32 y33 = some i22 := hF
 rw [F47v1_l23] at e1
 clear hF
 refine gs ?_
 refine C_seq ?_
 refine C_cd rfl e1 (fun e1 => ?_) (fun e1 => ?_)
 refine go ?_
 refine gs ?_
 refine gs ?_
 obtain ⟨x36,w36,e1⟩:=be e1
 refine W rfl (O_arI rfl rfl rfl (ck_e w36).2 (W_re (congrArg sI (ck_e w36).1) ?_))
 obtain ⟨h37, e1⟩ := req_e e1
 refine W rfl (O_make (by_ := 8) (k := .int) (0 : Int) tyE_28 tyZ_3 (RepImpL.cons (RepImp.refl _) RepImpL.nil) rfl rfl h37 fun q38 => ?_)
 obtain ⟨x39,w39,e1⟩:=be e1
 refine W rfl (O_idx_own2 tyL_29 rfl rfl (idx_lt w39).1 (idx_lt w39).2 ?_)
 refine Wn (O_store_row2 (i := (y33).toNat) tyS_28 rfl rfl rfl (idx_e w39).2 ?_)
 refine go ?_
 obtain ⟨x40,w40,e1⟩:=be e1
 refine W rfl (O_arI rfl rfl rfl (ck_e w40).2 (W_re (congrArg sI (ck_e w40).1) ?_))
 refine go ?_
 exact jmpL (((y32.set (y33).toNat (List.replicate (x36).toNat (0 : Int))), x40),(q34.set (y33).toNat q38)) e1 (tl [0, 0, 0, 0, 0] 0 rfl rfl)
 refine go ?_
 obtain rfl := so e1
 exact jmp (y32, q34) rfl (tl [0, 0, 0, 0, 0] 0 rfl rfl)
 rintro ⟨z, q41⟩ hi
 subst hi
 obtain ⟨i42,e1,e0⟩:=be e0
 refine C_cut (ι := List (List Int)) (fun i => [(0, .isl .int a1),(1, .isl .int a2),(2, .val (.func (.func 44) #[] #[.pointer (some ⟨b3, 0, none⟩)])),(7, .val (sl q21))]) (fun i => boxA b3 49 [sP b4 0] :: bx5 b4 a5 a6 a7 a8 a9 a10 a11 a12 a13 a14 q15 q17 :: ownA (sl q15) 3 .int a16 :: ownA (sl q17) 3 .int a18 :: own2A (sl q21) 28 3 .int q41 i :: F) (fun i => i42 = i) ?_ ?_
 refine gs ?_
 obtain ⟨x43,w43,e1⟩:=be e1
 refine W rfl (O_arI rfl rfl rfl (ck_e w43).2 (W_re (congrArg sI (ck_e w43).1) ?_))
 refine go ?_
 refine C_loopF (κ := (List (List Int) × Int)) (fun d => [(0, .isl .int a1),(1, .isl .int a2),(2, .val (.func (.func 44) #[] #[.pointer (some ⟨b3, 0, none⟩)])),(7, .val (sl q21)),(9, sI d.2)]) (fun d => boxA b3 49 [sP b4 0] :: bx5 b4 a5 a6 a7 a8 a9 a10 a11 a12 a13 a14 q15 q17 :: ownA (sl q15) 3 .int a16 :: ownA (sl q17) 3 .int a18 :: own2A (sl q21) 28 3 .int q41 d.1 :: F) (fun n d => F47v1_l44 fuel a1 a2 a5 a6 a7 a8 a9 a10 a11 a12 a13 a14 a16 a18 n d.1 d.2) i42 fuel (i22, x43) e1 (tl [0, 0, 0, 0, 0] 0 rfl rfl) (fun _ => rfl) ?_
 rintro n ⟨y96, y97⟩ hF
 have e1 : F47v1_l44 fuel a1 a2 a5 a6 a7 a8 a9 a10 a11 a12 a13 a14 a16 a18 (n + 1) y96 y97 = some i42 := hF
 rw [F47v1_l44] at e1
 clear hF
 refine C_seq ?_
 refine gs ?_
 refine C_cd rfl e1 (fun e1 => ?_) (fun e1 => ?_)
 refine go ?_
 obtain ⟨i99,e2,e1⟩:=be e1
 refine C_cut (ι := List (List Int)) (fun i => [(0, .isl .int a1),(1, .isl .int a2),(2, .val (.func (.func 44) #[] #[.pointer (some ⟨b3, 0, none⟩)])),(7, .val (sl q21)),(9, sI y97)]) (fun i => boxA b3 49 [sP b4 0] :: bx5 b4 a5 a6 a7 a8 a9 a10 a11 a12 a13 a14 q15 q17 :: ownA (sl q15) 3 .int a16 :: ownA (sl q17) 3 .int a18 :: own2A (sl q21) 28 3 .int q41 i :: F) (fun i => i99 = i) ?_ ?_
 refine go ?_
 refine gs ?_
 obtain ⟨x100,w100,e2⟩:=be e2
 refine W rfl (O_arI rfl rfl rfl (ck_e w100).2 (W_re (congrArg sI (ck_e w100).1) ?_))
 refine go ?_
 refine C_loopF (κ := (List (List Int) × Int)) (fun d => [(0, .isl .int a1),(1, .isl .int a2),(2, .val (.func (.func 44) #[] #[.pointer (some ⟨b3, 0, none⟩)])),(7, .val (sl q21)),(9, sI y97),(10, sI d.2)]) (fun d => boxA b3 49 [sP b4 0] :: bx5 b4 a5 a6 a7 a8 a9 a10 a11 a12 a13 a14 q15 q17 :: ownA (sl q15) 3 .int a16 :: ownA (sl q17) 3 .int a18 :: own2A (sl q21) 28 3 .int q41 d.1 :: F) (fun n d => F47v1_l101 fuel a1 a2 a5 a6 a7 a8 a9 a10 a11 a12 a13 a14 a16 a18 y97 n d.1 d.2) i99 fuel (y96, x100) e2 (tl [0, 0, 0, 0, 0] 0 rfl rfl) (fun _ => rfl) ?_
 rintro n ⟨y124, y125⟩ hF
 have e2 : F47v1_l101 fuel a1 a2 a5 a6 a7 a8 a9 a10 a11 a12 a13 a14 a16 a18 y97 (n + 1) y124 y125 = some i99 := hF
 rw [F47v1_l101] at e2
 clear hF
 refine C_seq ?_
 refine gs ?_
 refine C_cd rfl e2 (fun e2 => ?_) (fun e2 => ?_)
 refine go ?_
 obtain ⟨i127,e3,e2⟩:=be e2
 refine C_cut (ι := List (List Int)) (fun i => [(0, .isl .int a1),(1, .isl .int a2),(2, .val (.func (.func 44) #[] #[.pointer (some ⟨b3, 0, none⟩)])),(7, .val (sl q21)),(9, sI y97),(10, sI y125)]) (fun i => boxA b3 49 [sP b4 0] :: bx5 b4 a5 a6 a7 a8 a9 a10 a11 a12 a13 a14 q15 q17 :: ownA (sl q15) 3 .int a16 :: ownA (sl q17) 3 .int a18 :: own2A (sl q21) 28 3 .int q41 i :: F) (fun i => i127 = i) ?_ ?_
 refine go ?_
 refine C_seq ?_
 refine C_draw2 [(0,fr),(1,fr),(2,fr),(3,fr),(4,fr),(5,fr),(6,fr),(7,fr),(8,fr),(9,mn)] [true, true, true, true, false] [boxA b3 49 [sP b4 0], bx5 b4 a5 a6 a7 a8 a9 a10 a11 a12 a13 a14 q15 q17, ownA (sl q15) 3 .int a16, ownA (sl q17) 3 .int a18] (own2A (sl q21) 28 3 .int q41 y124 :: F) rfl rfl rfl (by kernel_rfl) rfl ?_
 refine gd ?_
 obtain ⟨x128,w128,e3⟩:=be e3
 refine D_free rfl rfl (fun G => O_indexAddr (k := .int) (z := x128) tyL_28 (lk rfl rfl) (lk rfl rfl) (idx_e w128).1 (idx_e w128).2 ⟨rfl, rfl⟩) ?_
 refine gd ?_
 obtain ⟨x129,w129,e3⟩:=be e3
 refine D_free rfl rfl (fun G => O_indexAddr (k := .int) (z := x129) tyL_28 (lk rfl rfl) (lk rfl rfl) (idx_e w129).1 (idx_e w129).2 ⟨rfl, rfl⟩) ?_
 refine gd ?_
 obtain ⟨r130,hr130,e3⟩:=be e3
 refine D_main rfl (D_mainX rfl fun G => O_callV0 (ss := [sI x128, sI x129]) (F := ((own2A (sl q21) 28 3 .int q41 y124 :: F) ++ G)) (lk rfl rfl) fn_44 rfl (F44_ok hG fuel x128 x129 a5 a6 a7 a8 a9 a10 a11 a12 a13 a14 a16 a18 b3 b4 q15 q17 hr130) (sel_perm [0, 0, 0, 0] _) (D_end ?_))
 refine D_nil ?_
 refine C_cd rfl e3 (fun e3 => ?_) (fun e3 => ?_)
 refine C_draw2 [(0,fr),(1,fr),(2,pu),(3,pu),(4,fr),(5,fr),(6,fr),(7,fr),(8,pu),(9,pu),(10,fr),(11,fr),(12,pu),(13,pu),(14,fr),(15,pu),(16, .open_)] [false, false, false, false, false] [] (boxA b3 49 [sP b4 0] :: bx5 b4 a5 a6 a7 a8 a9 a10 a11 a12 a13 a14 q15 q17 :: ownA (sl q15) 3 .int a16 :: ownA (sl q17) 3 .int a18 :: own2A (sl q21) 28 3 .int q41 y124 :: F) rfl rfl rfl (by kernel_rfl) rfl ?_
 refine gd ?_
 obtain ⟨x132,w132,e3⟩:=be e3
 refine D_pure rfl rfl (fun G => O_idx_own2 tyL_29 (lk rfl rfl) (lk rfl rfl) (idx_lt w132).1 (idx_lt w132).2 ⟨rfl, rfl⟩) ?_
 refine D_pure rfl rfl (fun G => O_load_row2 (i := (y97).toNat) ty1_28 (lk rfl rfl) rfl (idx_e w132).2 ⟨rfl, rfl⟩) ?_
 refine gd ?_
 obtain ⟨x133,w133,e3⟩:=be e3
 refine D_free rfl rfl (fun G => O_arI (lk rfl rfl) (lk rfl rfl) rfl (ck_e w133).2 ⟨rfl, rfl⟩) (D_re (congrArg sI (ck_e w133).1) ?_)
 obtain ⟨x134,w134,e3⟩:=be e3
 refine D_pure rfl rfl (fun G => O_idx_own2 tyL_29 (lk rfl rfl) (lk rfl rfl) (idx_lt w134).1 (idx_lt w134).2 ⟨rfl, rfl⟩) ?_
 refine D_pure rfl rfl (fun G => O_load_row2 (i := (x133).toNat) ty1_28 (lk rfl rfl) rfl (idx_e w134).2 ⟨rfl, rfl⟩) ?_
 refine gd ?_
 obtain ⟨x135,w135,e3⟩:=be e3
 refine D_free rfl rfl (fun G => O_arI (lk rfl rfl) (lk rfl rfl) rfl (ck_e w135).2 ⟨rfl, rfl⟩) (D_re (congrArg sI (ck_e w135).1) ?_)
 obtain ⟨x136,w136,e3⟩:=be e3
 refine D_pure rfl rfl (fun G => O_idx_sub (i := (x133).toNat) (k := .int) tyL_28 (lk rfl rfl) (lk rfl rfl) (idx_e w134).2 (idx_lt w136).1 (idx_lt w136).2 ⟨rfl, rfl⟩) ?_
 refine D_pure rfl rfl (fun G => O_load_sub (i := (x133).toNat) (m := (x135).toNat) (j := 0) ty1_3 (lk rfl rfl) (idx_e w134).2 rfl (idx_e w136).2 rfl ⟨rfl, rfl⟩) ?_
 obtain ⟨x137,w137,e3⟩:=be e3
 refine D_free rfl rfl (fun G => O_arI (lk rfl rfl) (lk rfl rfl) rfl (ck_e w137).2 ⟨rfl, rfl⟩) (D_re (congrArg sI (ck_e w137).1) ?_)
 obtain ⟨x138,w138,e3⟩:=be e3
 refine D_pure rfl rfl (fun G => O_idx_sub (i := (y97).toNat) (k := .int) tyL_28 (lk rfl rfl) (lk rfl rfl) (idx_e w132).2 (idx_lt w138).1 (idx_lt w138).2 ⟨rfl, rfl⟩) ?_
 refine D_open2 (boxA b3 49 [sP b4 0] :: bx5 b4 a5 a6 a7 a8 a9 a10 a11 a12 a13 a14 q15 q17 :: ownA (sl q15) 3 .int a16 :: ownA (sl q17) 3 .int a18 :: own2A (sl q21) 28 3 .int q41 y124 :: F) rfl rfl (D_mainX rfl fun G => O_store_sub (i := (y97).toNat) (m := (y125).toNat) (j := 0) (z' := x137) tyS_3 (lk rfl rfl) (lk rfl rfl) rfl rfl (idx_e w132).2 rfl (idx_e w138).2 rfl (by decide) (D_end ?_))
 refine D_nil0 ?_
 exact jm e3 (tl [0, 0, 0, 0, 0] 0 rfl rfl)
 refine C_draw2 [(0,fr),(1,fr),(2,pu),(3,pu),(4,fr),(5,fr),(6,fr),(7,fr),(8,pu),(9,pu),(10,fr),(11,pu),(12,pu),(13,fr),(14,fr),(15,pu),(16,pu),(17,fr),(18,fr),(19,pu),(20,pu),(21,fr),(22,pu),(23, .open_)] [false, false, false, false, false] [] (boxA b3 49 [sP b4 0] :: bx5 b4 a5 a6 a7 a8 a9 a10 a11 a12 a13 a14 q15 q17 :: ownA (sl q15) 3 .int a16 :: ownA (sl q17) 3 .int a18 :: own2A (sl q21) 28 3 .int q41 y124 :: F) rfl rfl rfl (by kernel_rfl) rfl ?_
 refine gd ?_
 obtain ⟨x139,w139,e3⟩:=be e3
 refine D_pure rfl rfl (fun G => O_idx_own2 tyL_29 (lk rfl rfl) (lk rfl rfl) (idx_lt w139).1 (idx_lt w139).2 ⟨rfl, rfl⟩) ?_
 refine D_pure rfl rfl (fun G => O_load_row2 (i := (y97).toNat) ty1_28 (lk rfl rfl) rfl (idx_e w139).2 ⟨rfl, rfl⟩) ?_
 refine gd ?_
 obtain ⟨x140,w140,e3⟩:=be e3
 refine D_free rfl rfl (fun G => O_arI (lk rfl rfl) (lk rfl rfl) rfl (ck_e w140).2 ⟨rfl, rfl⟩) (D_re (congrArg sI (ck_e w140).1) ?_)
 obtain ⟨x141,w141,e3⟩:=be e3
 refine D_pure rfl rfl (fun G => O_idx_own2 tyL_29 (lk rfl rfl) (lk rfl rfl) (idx_lt w141).1 (idx_lt w141).2 ⟨rfl, rfl⟩) ?_
 refine D_pure rfl rfl (fun G => O_load_row2 (i := (x140).toNat) ty1_28 (lk rfl rfl) rfl (idx_e w141).2 ⟨rfl, rfl⟩) ?_
 refine gd ?_
 obtain ⟨x142,w142,e3⟩:=be e3
 refine D_pure rfl rfl (fun G => O_idx_sub (i := (x140).toNat) (k := .int) tyL_28 (lk rfl rfl) (lk rfl rfl) (idx_e w141).2 (idx_lt w142).1 (idx_lt w142).2 ⟨rfl, rfl⟩) ?_
 refine D_pure rfl rfl (fun G => O_load_sub (i := (x140).toNat) (m := (y125).toNat) (j := 0) ty1_3 (lk rfl rfl) (idx_e w141).2 rfl (idx_e w142).2 rfl ⟨rfl, rfl⟩) ?_
 refine gd ?_
 refine D_pure rfl rfl (fun G => O_idx_own2 tyL_29 (lk rfl rfl) (lk rfl rfl) (idx_lt w139).1 (idx_lt w139).2 ⟨rfl, rfl⟩) ?_
 refine D_pure rfl rfl (fun G => O_load_row2 (i := (y97).toNat) ty1_28 (lk rfl rfl) rfl (idx_e w139).2 ⟨rfl, rfl⟩) ?_
 refine gd ?_
 obtain ⟨x143,w143,e3⟩:=be e3
 refine D_free rfl rfl (fun G => O_arI (lk rfl rfl) (lk rfl rfl) rfl (ck_e w143).2 ⟨rfl, rfl⟩) (D_re (congrArg sI (ck_e w143).1) ?_)
 obtain ⟨x144,w144,e3⟩:=be e3
 refine D_pure rfl rfl (fun G => O_idx_sub (i := (y97).toNat) (k := .int) tyL_28 (lk rfl rfl) (lk rfl rfl) (idx_e w139).2 (idx_lt w144).1 (idx_lt w144).2 ⟨rfl, rfl⟩) ?_
 refine D_pure rfl rfl (fun G => O_load_sub (i := (y97).toNat) (m := (x143).toNat) (j := 0) ty1_3 (lk rfl rfl) (idx_e w139).2 rfl (idx_e w144).2 rfl ⟨rfl, rfl⟩) ?_
 refine D_free rfl rfl (fun G => O_max (lk rfl rfl) (lk rfl rfl) ⟨rfl, rfl⟩) ?_
 obtain ⟨x145,w145,e3⟩:=be e3
 refine D_pure rfl rfl (fun G => O_idx_sub (i := (y97).toNat) (k := .int) tyL_28 (lk rfl rfl) (lk rfl rfl) (idx_e w139).2 (idx_lt w145).1 (idx_lt w145).2 ⟨rfl, rfl⟩) ?_
 refine D_open2 (boxA b3 49 [sP b4 0] :: bx5 b4 a5 a6 a7 a8 a9 a10 a11 a12 a13 a14 q15 q17 :: ownA (sl q15) 3 .int a16 :: ownA (sl q17) 3 .int a18 :: own2A (sl q21) 28 3 .int q41 y124 :: F) rfl rfl (D_mainX rfl fun G => O_store_sub (i := (y97).toNat) (m := (y125).toNat) (j := 0) (z' := (if x144 > x142 then x144 else x142)) tyS_3 (lk rfl rfl) (lk rfl rfl) rfl rfl (idx_e w139).2 rfl (idx_e w145).2 rfl (by decide) (D_end ?_))
 refine D_nil0 ?_
 exact jm e3 (tl [0, 0, 0, 0, 0] 0 rfl rfl)
 rintro z hi
 subst hi
 refine go ?_
 obtain ⟨x146,w146,e2⟩:=be e2
 refine W rfl (O_arI rfl rfl rfl (ck_e w146).2 (W_re (congrArg sI (ck_e w146).1) ?_))
 refine go ?_
 exact jmpL (i127, x146) e2 (tl [0, 0, 0, 0, 0] 0 rfl rfl)
 refine go ?_
 exact jm e2 (tl [0, 0, 0, 0, 0] 0 rfl rfl)
 rintro z hi
 subst hi
 refine go ?_
 obtain ⟨x147,w147,e1⟩:=be e1
 refine W rfl (O_arI rfl rfl rfl (ck_e w147).2 (W_re (congrArg sI (ck_e w147).1) ?_))
 refine go ?_
 exact jmpL (i99, x147) e1 (tl [0, 0, 0, 0, 0] 0 rfl rfl)
 refine go ?_
 exact jm e1 (tl [0, 0, 0, 0, 0] 0 rfl rfl)
 rintro z hi
 subst hi
 refine gs ?_
 obtain ⟨i148,e1,e0⟩:=be e0
 refine C_cut (ι := ((List (Int × Int))) × Hnd) (fun i => [(11, .val (sl i.2))]) (fun i => boxA b3 49 [sP b4 0] :: bx5 b4 a5 a6 a7 a8 a9 a10 a11 a12 a13 a14 q15 q17 :: ownA (sl q15) 3 .int a16 :: ownA (sl q17) 3 .int a18 :: ownA (sl i.2) 39 .pair i.1 :: F) (fun i => i148 = i.1) ?_ ?_
 refine gs ?_
 refine C_loopF (κ := ((List (Int × Int)) × Int × Int) × Hnd) (fun d => [(0, .isl .int a1),(1, .isl .int a2),(2, .val (.func (.func 44) #[] #[.pointer (some ⟨b3, 0, none⟩)])),(7, .val (sl q21)),(11, .val (sl d.2)),(12, sI d.1.2.1),(13, sI d.1.2.2)]) (fun d => boxA b3 49 [sP b4 0] :: bx5 b4 a5 a6 a7 a8 a9 a10 a11 a12 a13 a14 q15 q17 :: ownA (sl q15) 3 .int a16 :: ownA (sl q17) 3 .int a18 :: own2A (sl q21) 28 3 .int q41 i42 :: ownA (sl d.2) 39 .pair d.1.1 :: F) (fun n d => F47v1_l149 fuel a1 a2 a5 a6 a7 a8 a9 a10 a11 a12 a13 a14 a16 a18 i42 n d.1.1 d.1.2.1 d.1.2.2) i148 fuel (([], (0 : Int),(0 : Int)),(none, 0, 0)) e1 (Turn.trans (T_nil 39 .pair) (tl [1, 1, 1, 1, 1, 0] 0 rfl rfl)) (fun _ => rfl) ?_
 rintro n ⟨⟨y182, y183, y184⟩, q185⟩ hF
 have e1 : F47v1_l149 fuel a1 a2 a5 a6 a7 a8 a9 a10 a11 a12 a13 a14 a16 a18 i42 (n + 1) y182 y183 y184 = some i148 := hF
 rw [F47v1_l149] at e1
 clear hF
 refine C_seq ?_
 obtain ⟨i186,e2,e1⟩:=be e1
 refine C_cut (ι := Bool) (fun i => [(0, .isl .int a1),(1, .isl .int a2),(2, .val (.func (.func 44) #[] #[.pointer (some ⟨b3, 0, none⟩)])),(7, .val (sl q21)),(11, .val (sl q185)),(12, sI y183),(13, sI y184),(103, sB i)]) (fun i => boxA b3 49 [sP b4 0] :: bx5 b4 a5 a6 a7 a8 a9 a10 a11 a12 a13 a14 q15 q17 :: ownA (sl q15) 3 .int a16 :: ownA (sl q17) 3 .int a18 :: own2A (sl q21) 28 3 .int q41 i42 :: ownA (sl q185) 39 .pair y182 :: F) (fun i => i186 = i) ?_ ?_
 refine go ?_
 obtain ⟨hg187, e2⟩ | ⟨hg187, e2⟩ := bc e2
 refine Wt rfl rfl rfl hg187 rfl rfl (O_move rfl ?_)
 refine Wt rfl rfl rfl hg187 rfl rfl (O_move rfl ?_)
 refine Wt rfl rfl rfl hg187 rfl rfl (O_len_isl tyl_28 rfl ?_)
 refine Wt rfl rfl rfl hg187 rfl rfl (O_cmp rfl rfl rfl ?_)
 refine go ?_
 exact jm e2 (tl [0, 0, 0, 0, 0, 0] 0 rfl rfl)
 refine go ?_
 exact jm e2 (tl [0, 0, 0, 0, 0, 0] 0 rfl rfl)
 rintro z hi
 subst hi
 refine C_cd rfl e1 (fun e1 => ?_) (fun e1 => ?_)
 refine go ?_
 obtain ⟨i189,e2,e1⟩:=be e1
 refine C_cut (ι := Bool) (fun i => [(0, .isl .int a1),(1, .isl .int a2),(2, .val (.func (.func 44) #[] #[.pointer (some ⟨b3, 0, none⟩)])),(7, .val (sl q21)),(11, .val (sl q185)),(12, sI y183),(13, sI y184),(106, sB i)]) (fun i => boxA b3 49 [sP b4 0] :: bx5 b4 a5 a6 a7 a8 a9 a10 a11 a12 a13 a14 q15 q17 :: ownA (sl q15) 3 .int a16 :: ownA (sl q17) 3 .int a18 :: own2A (sl q21) 28 3 .int q41 i42 :: ownA (sl q185) 39 .pair y182 :: F) (fun i => i189 = i) ?_ ?_
 refine C_draw2 [(0,fr),(1,fr),(2,fr),(3,fr),(4,fr),(5,fr),(6,fr),(7,fr),(8,fr),(9,mn),(10,fr),(11,fr),(12,fr),(13,pu),(14,pu),(15,fr),(16,pu),(17,pu),(18,fr),(19,fr),(20,fr),(21,pu),(22,pu),(23,fr),(24,fr),(25,pu),(26,pu),(27,fr),(28,fr),(29,fr),(30,fr)] [true, true, true, true, false, false] [boxA b3 49 [sP b4 0], bx5 b4 a5 a6 a7 a8 a9 a10 a11 a12 a13 a14 q15 q17, ownA (sl q15) 3 .int a16, ownA (sl q17) 3 .int a18] (own2A (sl q21) 28 3 .int q41 i42 :: ownA (sl q185) 39 .pair y182 :: F) rfl rfl rfl (by kernel_rfl) rfl ?_
 refine gd ?_
 obtain ⟨x190,w190,e2⟩:=be e2
 refine D_free rfl rfl (fun G => O_indexAddr (k := .int) (z := x190) tyL_28 (lk rfl rfl) (lk rfl rfl) (idx_e w190).1 (idx_e w190).2 ⟨rfl, rfl⟩) ?_
 refine gd ?_
 obtain ⟨x191,w191,e2⟩:=be e2
 refine D_free rfl rfl (fun G => O_indexAddr (k := .int) (z := x191) tyL_28 (lk rfl rfl) (lk rfl rfl) (idx_e w191).1 (idx_e w191).2 ⟨rfl, rfl⟩) ?_
 refine gd ?_
 obtain ⟨r192,hr192,e2⟩:=be e2
 refine D_main rfl (D_mainX rfl fun G => O_callV0 (ss := [sI x190, sI x191]) (F := ((own2A (sl q21) 28 3 .int q41 i42 :: ownA (sl q185) 39 .pair y182 :: F) ++ G)) (lk rfl rfl) fn_44 rfl (F44_ok hG fuel x190 x191 a5 a6 a7 a8 a9 a10 a11 a12 a13 a14 a16 a18 b3 b4 q15 q17 hr192) (sel_perm [0, 0, 0, 0] _) (D_end ?_))
 refine gd ?_
 obtain ⟨hg193, e2⟩ | ⟨hg193, e2⟩ := bc e2
 refine gd ?_
 obtain ⟨x194,w194,e2⟩:=be e2
 refine D_pureT rfl rfl rfl (lg rfl rfl) hg193 (fun G => O_idx_own2 tyL_29 (lk rfl rfl) (lk rfl rfl) (idx_lt w194).1 (idx_lt w194).2 ⟨rfl, rfl⟩) ?_
 refine D_pureT rfl rfl rfl (lg rfl rfl) hg193 (fun G => O_load_row2 (i := (y183).toNat) ty1_28 (lk rfl rfl) rfl (idx_e w194).2 ⟨rfl, rfl⟩) ?_
 refine gd ?_
 obtain ⟨x195,w195,e2⟩:=be e2
 refine D_pureT rfl rfl rfl (lg rfl rfl) hg193 (fun G => O_idx_sub (i := (y183).toNat) (k := .int) tyL_28 (lk rfl rfl) (lk rfl rfl) (idx_e w194).2 (idx_lt w195).1 (idx_lt w195).2 ⟨rfl, rfl⟩) ?_
 refine D_pureT rfl rfl rfl (lg rfl rfl) hg193 (fun G => O_load_sub (i := (y183).toNat) (m := (y184).toNat) (j := 0) ty1_3 (lk rfl rfl) (idx_e w194).2 rfl (idx_e w195).2 rfl ⟨rfl, rfl⟩) ?_
 refine gd ?_
 obtain ⟨x196,w196,e2⟩:=be e2
 refine D_freeT rfl rfl rfl (lg rfl rfl) hg193 (fun G => O_arI (lk rfl rfl) (lk rfl rfl) rfl (ck_e w196).2 ⟨rfl, rfl⟩) (D_re (congrArg sI (ck_e w196).1) ?_)
 obtain ⟨x197,w197,e2⟩:=be e2
 refine D_pureT rfl rfl rfl (lg rfl rfl) hg193 (fun G => O_idx_own2 tyL_29 (lk rfl rfl) (lk rfl rfl) (idx_lt w197).1 (idx_lt w197).2 ⟨rfl, rfl⟩) ?_
 refine D_pureT rfl rfl rfl (lg rfl rfl) hg193 (fun G => O_load_row2 (i := (x196).toNat) ty1_28 (lk rfl rfl) rfl (idx_e w197).2 ⟨rfl, rfl⟩) ?_
 refine gd ?_
 obtain ⟨x198,w198,e2⟩:=be e2
 refine D_freeT rfl rfl rfl (lg rfl rfl) hg193 (fun G => O_arI (lk rfl rfl) (lk rfl rfl) rfl (ck_e w198).2 ⟨rfl, rfl⟩) (D_re (congrArg sI (ck_e w198).1) ?_)
 obtain ⟨x199,w199,e2⟩:=be e2
 refine D_pureT rfl rfl rfl (lg rfl rfl) hg193 (fun G => O_idx_sub (i := (x196).toNat) (k := .int) tyL_28 (lk rfl rfl) (lk rfl rfl) (idx_e w197).2 (idx_lt w199).1 (idx_lt w199).2 ⟨rfl, rfl⟩) ?_
 refine D_pureT rfl rfl rfl (lg rfl rfl) hg193 (fun G => O_load_sub (i := (x196).toNat) (m := (x198).toNat) (j := 0) ty1_3 (lk rfl rfl) (idx_e w197).2 rfl (idx_e w199).2 rfl ⟨rfl, rfl⟩) ?_
 obtain ⟨x200,w200,e2⟩:=be e2
 refine D_freeT rfl rfl rfl (lg rfl rfl) hg193 (fun G => O_arI (lk rfl rfl) (lk rfl rfl) rfl (ck_e w200).2 ⟨rfl, rfl⟩) (D_re (congrArg sI (ck_e w200).1) ?_)
 refine gd ?_
 refine D_nil ?_
 exact jm e2 (tl [0, 0, 0, 0, 0, 0] 0 rfl rfl)
 refine gd ?_
 refine D_nil ?_
 exact jm e2 (tl [0, 0, 0, 0, 0, 0] 0 rfl rfl)
 rintro z hi
 subst hi
 refine C_cd rfl e1 (fun e1 => ?_) (fun e1 => ?_)
 refine C_seq ?_
 refine C_draw2 [(0,fr),(1,fr),(2,fr),(3,fr),(4,fr),(5,fr),(6,fr),(7,fr),(8,fr),(9,fr),(10,nw),(11, .take),(12,fr)] [false, false, false, false, false, true] [ownA (sl q185) 39 .pair y182] (boxA b3 49 [sP b4 0] :: bx5 b4 a5 a6 a7 a8 a9 a10 a11 a12 a13 a14 q15 q17 :: ownA (sl q15) 3 .int a16 :: ownA (sl q17) 3 .int a18 :: own2A (sl q21) 28 3 .int q41 i42 :: F) rfl rfl rfl (by kernel_rfl) rfl ?_
 refine gd ?_
 obtain ⟨x202,w202,e1⟩:=be e1
 refine D_free rfl rfl (fun G => O_indexAddr (k := .int) (z := x202) tyL_28 (lk rfl rfl) (lk rfl rfl) (idx_e w202).1 (idx_e w202).2 ⟨rfl, rfl⟩) ?_
 refine gd ?_
 obtain ⟨x203,w203,e1⟩:=be e1
 refine D_free rfl rfl (fun G => O_indexAddr (k := .int) (z := x203) tyL_28 (lk rfl rfl) (lk rfl rfl) (idx_e w203).1 (idx_e w203).2 ⟨rfl, rfl⟩) ?_
 refine gd ?_
 refine D_free rfl rfl (fun G => O_build (ss := [(0, sI x202),(1, sI x203)]) tyZ_39 tyP_39 rfl rfl rfl ⟨rfl, rfl⟩) ?_
 refine D_new rfl rfl ⟨10, Hnd, fun q204 => .val (sl q204), fun q204 => ownA (sl q204) 39 .pair [(x202, x203)]⟩ rfl (fun G => A_build 39 16 .pair [(x202, x203)] (ss := [(0, .agg [sI x202, sI x203])]) tyE_25 tyZ_39 rfl rfl rfl rfl rfl rfl fun q204 => ⟨q204, rfl, rfl⟩) ?_
 obtain ⟨h205, e1⟩ := req_e e1
 refine D_take _ _ rfl rfl rfl (fun q204 => ?_)
 refine D_mainX rfl fun G => A_own (k := .pair) (by_ := 16) tyE_25 rfl rfl (lk rfl rfl) (lk rfl rfl) h205 fun q206 => (D_end ?_)
 refine gd ?_
 refine D_nil ?_
 refine go ?_
 obtain ⟨x207,w207,e1⟩:=be e1
 refine W rfl (O_arI rfl rfl rfl (ck_e w207).2 (W_re (congrArg sI (ck_e w207).1) ?_))
 refine go ?_
 obtain ⟨x208,w208,e1⟩:=be e1
 refine W rfl (O_arI rfl rfl rfl (ck_e w208).2 (W_re (congrArg sI (ck_e w208).1) ?_))
 refine go ?_
 exact jmpL (((y182 ++ [(x202, x203)]), x207, x208), q206) e1 (tl [1, 1, 1, 1, 1, 0] 0 rfl rfl)
 refine C_seq ?_
 refine C_draw2 [(0,fr),(1,fr),(2,fr),(3,pu),(4,pu),(5,fr),(6,pu),(7,pu),(8,fr),(9,fr),(10,pu),(11,pu),(12,fr),(13,fr),(14,pu),(15,pu),(16,fr),(17,fr)] [false, false, false, false, false, false] [] (boxA b3 49 [sP b4 0] :: bx5 b4 a5 a6 a7 a8 a9 a10 a11 a12 a13 a14 q15 q17 :: ownA (sl q15) 3 .int a16 :: ownA (sl q17) 3 .int a18 :: own2A (sl q21) 28 3 .int q41 i42 :: ownA (sl q185) 39 .pair y182 :: F) rfl rfl rfl (by kernel_rfl) rfl ?_
 refine gd ?_
 obtain ⟨x209,w209,e1⟩:=be e1
 refine D_free rfl rfl (fun G => O_arI (lk rfl rfl) (lk rfl rfl) rfl (ck_e w209).2 ⟨rfl, rfl⟩) (D_re (congrArg sI (ck_e w209).1) ?_)
 obtain ⟨x210,w210,e1⟩:=be e1
 refine D_pure rfl rfl (fun G => O_idx_own2 tyL_29 (lk rfl rfl) (lk rfl rfl) (idx_lt w210).1 (idx_lt w210).2 ⟨rfl, rfl⟩) ?_
 refine D_pure rfl rfl (fun G => O_load_row2 (i := (x209).toNat) ty1_28 (lk rfl rfl) rfl (idx_e w210).2 ⟨rfl, rfl⟩) ?_
 refine gd ?_
 obtain ⟨x211,w211,e1⟩:=be e1
 refine D_pure rfl rfl (fun G => O_idx_sub (i := (x209).toNat) (k := .int) tyL_28 (lk rfl rfl) (lk rfl rfl) (idx_e w210).2 (idx_lt w211).1 (idx_lt w211).2 ⟨rfl, rfl⟩) ?_
 refine D_pure rfl rfl (fun G => O_load_sub (i := (x209).toNat) (m := (y184).toNat) (j := 0) ty1_3 (lk rfl rfl) (idx_e w210).2 rfl (idx_e w211).2 rfl ⟨rfl, rfl⟩) ?_
 refine gd ?_
 obtain ⟨x212,w212,e1⟩:=be e1
 refine D_pure rfl rfl (fun G => O_idx_own2 tyL_29 (lk rfl rfl) (lk rfl rfl) (idx_lt w212).1 (idx_lt w212).2 ⟨rfl, rfl⟩) ?_
 refine D_pure rfl rfl (fun G => O_load_row2 (i := (y183).toNat) ty1_28 (lk rfl rfl) rfl (idx_e w212).2 ⟨rfl, rfl⟩) ?_
 refine gd ?_
 obtain ⟨x213,w213,e1⟩:=be e1
 refine D_free rfl rfl (fun G => O_arI (lk rfl rfl) (lk rfl rfl) rfl (ck_e w213).2 ⟨rfl, rfl⟩) (D_re (congrArg sI (ck_e w213).1) ?_)
 obtain ⟨x214,w214,e1⟩:=be e1
 refine D_pure rfl rfl (fun G => O_idx_sub (i := (y183).toNat) (k := .int) tyL_28 (lk rfl rfl) (lk rfl rfl) (idx_e w212).2 (idx_lt w214).1 (idx_lt w214).2 ⟨rfl, rfl⟩) ?_
 refine D_pure rfl rfl (fun G => O_load_sub (i := (y183).toNat) (m := (x213).toNat) (j := 0) ty1_3 (lk rfl rfl) (idx_e w212).2 rfl (idx_e w214).2 rfl ⟨rfl, rfl⟩) ?_
 refine gd ?_
 refine D_nil ?_
 refine C_cd rfl e1 (fun e1 => ?_) (fun e1 => ?_)
 refine go ?_
 refine W rfl (O_arI rfl rfl rfl (ck_e w209).2 (W_re (congrArg sI (ck_e w209).1) ?_))
 refine go ?_
 exact jmpL ((y182, x209, y184), q185) e1 (tl [0, 0, 0, 0, 0, 0] 0 rfl rfl)
 refine go ?_
 refine W rfl (O_arI rfl rfl rfl (ck_e w213).2 (W_re (congrArg sI (ck_e w213).1) ?_))
 refine go ?_
 exact jmpL ((y182, y183, x213), q185) e1 (tl [0, 0, 0, 0, 0, 0] 0 rfl rfl)
 refine go ?_
 obtain rfl := so e1
 exact jmp (y182, q185) rfl (tl [0, 0, 0, 0, 1] 1 rfl rfl)
 rintro ⟨z, q216⟩ hi
 subst hi
 refine gs ?_
 obtain rfl := so e0
 refine go ?_
 exact ret_ok (Turn.trans (T_freezeL (sl q216) (k := .pair) (.cons 6 rfl .here (.cons 173 rfl .here (.cons 11 rfl .here .nil)))) (T_le (E' := [(6, .isl .pair i148)]) (.mk [0, 0, 0, 0] 0 rfl ⟨rfl, trivial⟩))) [0, 0, 0, 0] 0 [.isl .pair i148] [boxA b3 49 [sP b4 0], bx5 b4 a5 a6 a7 a8 a9 a10 a11 a12 a13 a14 q15 q17, ownA (sl q15) 3 .int a16, ownA (sl q17) 3 .int a18] (.tmp (t := 6) _ rfl .nil) rfl ⟨rfl, rfl⟩
def F45 (fuel : Nat) (a1 : Int) (a2 : Int) (a5 : List Tree) (a6 : List Int) (a7 : List Int) (a8 : List (List Int)) (a9 : List Tree) (a10 : List Int) (a11 : List Int) (a12 : List (List Int)) (a13 : List Int) (a14 : List Int) (a16 : List Int) (a18 : List Int) : Option (Bool) :=
 (idx a5 a1).bind fun x19 =>
 (idx a9 a2).bind fun x20 =>
 some (x19.kind == x20.kind)
theorem F45_ok {w0 : World} (hG : Globs w0) (fuel : Nat) : ∀ (a1 : Int) (a2 : Int) (a5 : List Tree) (a6 : List Int) (a7 : List Int) (a8 : List (List Int)) (a9 : List Tree) (a10 : List Int) (a11 : List Int) (a12 : List (List Int)) (a13 : List Int) (a14 : List Int) (a16 : List Int) (a18 : List Int) (b3 : Nat) (b4 : Nat) (q15 : Hnd) (q17 : Hnd) {r : Bool} (e0 : F45 fuel a1 a2 a5 a6 a7 a8 a9 a10 a11 a12 a13 a14 a16 a18 = some r), Fn w0 prog 45 [sI a1, sI a2, sP b3 0] [boxA b3 49 [sP b4 0], bx5 b4 a5 a6 a7 a8 a9 a10 a11 a12 a13 a14 q15 q17, ownA (sl q15) 3 .int a16, ownA (sl q17) 3 .int a18] (fun s H => s = sB r ∧ H = [boxA b3 49 [sP b4 0], bx5 b4 a5 a6 a7 a8 a9 a10 a11 a12 a13 a14 q15 q17, ownA (sl q15) 3 .int a16, ownA (sl q17) 3 .int a18]) := by
 intro a1 a2 a5 a6 a7 a8 a9 a10 a11 a12 a13 a14 a16 a18 b3 b4 q15 q17 r e0
 rw [F45] at e0
 refine fn_intro2 25 [.tmp 5] func45 rfl rfl rfl rfl fun X hX F => ?_
 refine C_turn (T_start [(0, sI a1),(1, sI a2),(2, sP b3 0)] rfl (boxA b3 49 [sP b4 0] :: bx5 b4 a5 a6 a7 a8 a9 a10 a11 a12 a13 a14 q15 q17 :: ownA (sl q15) 3 .int a16 :: ownA (sl q17) 3 .int a18 :: F) rfl) ?_
 refine gs ?_
 refine C_seq ?_
 refine C_draw2 [(0,pu),(1,fr),(2,fr),(3,fr),(4,pu),(5,fr),(6,fr),(7,fr),(8,fr),(9,pu),(10,fr),(11,fr),(12,fr),(13,pu),(14,fr),(15,fr),(16,fr),(17,fr),(18,fr),(19,fr)] [false, false, false, false] [] (boxA b3 49 [sP b4 0] :: bx5 b4 a5 a6 a7 a8 a9 a10 a11 a12 a13 a14 q15 q17 :: ownA (sl q15) 3 .int a16 :: ownA (sl q17) 3 .int a18 :: F) rfl rfl rfl (by kernel_rfl) rfl ?_
 refine gd ?_
 obtain ⟨x19,w19,e0⟩:=be e0
 refine D_free rfl rfl (fun G => O_indexAddr (k := .node) (z := x19) tyL_22 (lk rfl rfl) (lk rfl rfl) (idx_e w19).1 (idx_e w19).2 ⟨rfl, rfl⟩) ?_
 refine gd ?_
 obtain ⟨x20,w20,e0⟩:=be e0
 refine D_free rfl rfl (fun G => O_indexAddr (k := .node) (z := x20) tyL_22 (lk rfl rfl) (lk rfl rfl) (idx_e w20).1 (idx_e w20).2 ⟨rfl, rfl⟩) ?_
 refine gd ?_
 refine D_nil ?_
 refine go ?_
 obtain rfl := so e0
 refine go ?_
 exact rt [0, 0, 0, 0] 0 ⟨rfl, rfl⟩ rfl rfl
def F47v2_l149 (fuel : Nat) (a1 : List Int) (a2 : List Int) (a5 : List Tree) (a6 : List Int) (a7 : List Int) (a8 : List (List Int)) (a9 : List Tree) (a10 : List Int) (a11 : List Int) (a12 : List (List Int)) (a13 : List Int) (a14 : List Int) (a16 : List Int) (a18 : List Int) (i42 : List (List Int)) : Nat → (List (Int × Int)) → Int → Int → Option ((List (Int × Int)))
 | 0, _, _, _ => none
 | n + 1, y182, y183, y184 =>
 Option.bind (α := Bool) (
 bif (decide (y183 < (a1.length : Int))) then (
 some (decide (y184 < (a2.length : Int)))) else (
 some false)) fun i186 =>
 bif i186 then (
 Option.bind (α := Bool) (
 (idx a1 y183).bind fun x190 =>
 (idx a2 y184).bind fun x191 =>
 (F45 fuel x190 x191 a5 a6 a7 a8 a9 a10 a11 a12 a13 a14 a16 a18).bind fun r192 =>
 bif r192 then (
 (idx i42 y183).bind fun x194 =>
 (idx x194 y184).bind fun x195 =>
 (ck (y183 + (1 : Int))).bind fun x196 =>
 (idx i42 x196).bind fun x197 =>
 (ck (y184 + (1 : Int))).bind fun x198 =>
 (idx x197 x198).bind fun x199 =>
 (ck (x199 + (1 : Int))).bind fun x200 =>
 some (x195 == x200)) else (
 some false)) fun i189 =>
 bif i189 then (
 (idx a1 y183).bind fun x202 =>
 (idx a2 y184).bind fun x203 =>
 if ((y182).length + ([(x202, x203)]).length) * 16 ≤ 140737488355328 then (
 (ck (y183 + (1 : Int))).bind fun x207 =>
 (ck (y184 + (1 : Int))).bind fun x208 =>
 F47v2_l149 fuel a1 a2 a5 a6 a7 a8 a9 a10 a11 a12 a13 a14 a16 a18 i42 n (y182 ++ [(x202, x203)]) x207 x208) else none) else (
 (ck (y183 + (1 : Int))).bind fun x209 =>
 (idx i42 x209).bind fun x210 =>
 (idx x210 y184).bind fun x211 =>
 (idx i42 y183).bind fun x212 =>
 (ck (y184 + (1 : Int))).bind fun x213 =>
 (idx x212 x213).bind fun x214 =>
 bif (decide (x211 ≥ x214)) then (
 F47v2_l149 fuel a1 a2 a5 a6 a7 a8 a9 a10 a11 a12 a13 a14 a16 a18 i42 n y182 x209 y184) else (
 F47v2_l149 fuel a1 a2 a5 a6 a7 a8 a9 a10 a11 a12 a13 a14 a16 a18 i42 n y182 y183 x213))) else (
 some y182)
def F47v2_l101 (fuel : Nat) (a1 : List Int) (a2 : List Int) (a5 : List Tree) (a6 : List Int) (a7 : List Int) (a8 : List (List Int)) (a9 : List Tree) (a10 : List Int) (a11 : List Int) (a12 : List (List Int)) (a13 : List Int) (a14 : List Int) (a16 : List Int) (a18 : List Int) (y97 : Int) : Nat → List (List Int) → Int → Option (List (List Int))
 | 0, _, _ => none
 | n + 1, y124, y125 =>
 bif (decide (y125 ≥ (0 : Int))) then (
 Option.bind (α := List (List Int)) (
 (idx a1 y97).bind fun x128 =>
 (idx a2 y125).bind fun x129 =>
 (F45 fuel x128 x129 a5 a6 a7 a8 a9 a10 a11 a12 a13 a14 a16 a18).bind fun r130 =>
 bif r130 then (
 (idx y124 y97).bind fun x132 =>
 (ck (y97 + (1 : Int))).bind fun x133 =>
 (idx y124 x133).bind fun x134 =>
 (ck (y125 + (1 : Int))).bind fun x135 =>
 (idx x134 x135).bind fun x136 =>
 (ck (x136 + (1 : Int))).bind fun x137 =>
 (idx x132 y125).bind fun x138 =>
 some (y124.set (y97).toNat (x132.set (y125).toNat x137))) else (
 (idx y124 y97).bind fun x139 =>
 (ck (y97 + (1 : Int))).bind fun x140 =>
 (idx y124 x140).bind fun x141 =>
 (idx x141 y125).bind fun x142 =>
 (ck (y125 + (1 : Int))).bind fun x143 =>
 (idx x139 x143).bind fun x144 =>
 (idx x139 y125).bind fun x145 =>
 some (y124.set (y97).toNat (x139.set (y125).toNat (if x144 > x142 then x144 else x142))))) fun i127 =>
 (ck (y125 - (1 : Int))).bind fun x146 =>
 F47v2_l101 fuel a1 a2 a5 a6 a7 a8 a9 a10 a11 a12 a13 a14 a16 a18 y97 n i127 x146) else (
 some y124)
def F47v2_l44 (fuel : Nat) (a1 : List Int) (a2 : List Int) (a5 : List Tree) (a6 : List Int) (a7 : List Int) (a8 : List (List Int)) (a9 : List Tree) (a10 : List Int) (a11 : List Int) (a12 : List (List Int)) (a13 : List Int) (a14 : List Int) (a16 : List Int) (a18 : List Int) : Nat → List (List Int) → Int → Option (List (List Int))
 | 0, _, _ => none
 | n + 1, y96, y97 =>
 bif (decide (y97 ≥ (0 : Int))) then (
 Option.bind (α := List (List Int)) (
 (ck ((a2.length : Int) - (1 : Int))).bind fun x100 =>
 F47v2_l101 fuel a1 a2 a5 a6 a7 a8 a9 a10 a11 a12 a13 a14 a16 a18 y97 fuel y96 x100) fun i99 =>
 (ck (y97 - (1 : Int))).bind fun x147 =>
 F47v2_l44 fuel a1 a2 a5 a6 a7 a8 a9 a10 a11 a12 a13 a14 a16 a18 n i99 x147) else (
 some y96)
def F47v2_l23 (fuel : Nat) (a2 : List Int) (x19 : Int) : Nat → List (List Int) → Int → Option (List (List Int))
 | 0, _, _ => none
 | n + 1, y32, y33 =>
 bif (decide (y33 < ((List.replicate (x19).toNat ([] : List Int)).length : Int))) then (
 (ck ((a2.length : Int) + (1 : Int))).bind fun x36 =>
 if 0 ≤ x36 ∧ x36 ≤ x36 ∧ (8 : Int) * x36 ≤ 281474976710656 ∧ x36 ≤ 1000000000 then (
 (idx y32 y33).bind fun x39 =>
 (ck (y33 + (1 : Int))).bind fun x40 =>
 F47v2_l23 fuel a2 x19 n (y32.set (y33).toNat (List.replicate (x36).toNat (0 : Int))) x40) else none) else (
 some y32)
def F47v2 (fuel : Nat) (a1 : List Int) (a2 : List Int) (a5 : List Tree) (a6 : List Int) (a7 : List Int) (a8 : List (List Int)) (a9 : List Tree) (a10 : List Int) (a11 : List Int) (a12 : List (List Int)) (a13 : List Int) (a14 : List Int) (a16 : List Int) (a18 : List Int) : Option ((List (Int × Int))) :=
 (ck ((a1.length : Int) + (1 : Int))).bind fun x19 =>
 if 0 ≤ x19 ∧ x19 ≤ x19 ∧ (24 : Int) * x19 ≤ 281474976710656 ∧ x19 ≤ 1000000000 then (
 Option.bind (α := List (List Int)) (
 F47v2_l23 fuel a2 x19 fuel (List.replicate (x19).toNat ([] : List Int)) (0 : Int)) fun i22 =>
 Option.bind (α := List (List Int)) (
 (ck ((a1.length : Int) - (1 : Int))).bind fun x43 =>
 F47v2_l44 fuel a1 a2 a5 a6 a7 a8 a9 a10 a11 a12 a13 a14 a16 a18 fuel i22 x43) fun i42 =>
 Option.bind (α := (List (Int × Int))) (
 F47v2_l149 fuel a1 a2 a5 a6 a7 a8 a9 a10 a11 a12 a13 a14 a16 a18 i42 fuel [] (0 : Int) (0 : Int)) fun i148 =>
 some i148) else none
theorem F47v2_ok {w0 : World} (hG : Globs w0) (fuel : Nat) : ∀ (a1 : List Int) (a2 : List Int) (a5 : List Tree) (a6 : List Int) (a7 : List Int) (a8 : List (List Int)) (a9 : List Tree) (a10 : List Int) (a11 : List Int) (a12 : List (List Int)) (a13 : List Int) (a14 : List Int) (a16 : List Int) (a18 : List Int) (b3 : Nat) (b4 : Nat) (q15 : Hnd) (q17 : Hnd) {r : (List (Int × Int))} (e0 : F47v2 fuel a1 a2 a5 a6 a7 a8 a9 a10 a11 a12 a13 a14 a16 a18 = some r), Fn w0 prog 47 [.isl .int a1, .isl .int a2, .val (.func (.func 45) #[] #[.pointer (some ⟨b3, 0, none⟩)])] [boxA b3 49 [sP b4 0], bx5 b4 a5 a6 a7 a8 a9 a10 a11 a12 a13 a14 q15 q17, ownA (sl q15) 3 .int a16, ownA (sl q17) 3 .int a18] (fun s H => s = .isl .pair r ∧ H = [boxA b3 49 [sP b4 0], bx5 b4 a5 a6 a7 a8 a9 a10 a11 a12 a13 a14 q15 q17, ownA (sl q15) 3 .int a16, ownA (sl q17) 3 .int a18]) := by
 intro a1 a2 a5 a6 a7 a8 a9 a10 a11 a12 a13 a14 a16 a18 b3 b4 q15 q17 r e0
 rw [F47v2] at e0
 refine fn_intro2 174 [.tmp 6] func47 rfl rfl rfl rfl fun X hX F => ?_
 refine C_turn (T_start [(0, .isl .int a1),(1, .isl .int a2),(2, .val (.func (.func 45) #[] #[.pointer (some ⟨b3, 0, none⟩)]))] rfl (boxA b3 49 [sP b4 0] :: bx5 b4 a5 a6 a7 a8 a9 a10 a11 a12 a13 a14 q15 q17 :: ownA (sl q15) 3 .int a16 :: ownA (sl q17) 3 .int a18 :: F) rfl) ?_
 refine gs ?_
 refine gs ?_
 obtain ⟨x19,w19,e0⟩:=be e0
 refine W rfl (O_arI rfl rfl rfl (ck_e w19).2 (W_re (congrArg sI (ck_e w19).1) ?_))
 obtain ⟨h20, e0⟩ := req_e e0
 refine W rfl (O_make2 (e := 3) (k := .int) (by_ := 24) tyE_29 tyZ_28 rfl rfl h20 fun q21 => ?_)
 refine go ?_
 obtain ⟨i22,e1,e0⟩:=be e0
 refine C_cut (ι := List (List Int) × List Hnd) (fun i => [(0, .isl .int a1),(1, .isl .int a2),(2, .val (.func (.func 45) #[] #[.pointer (some ⟨b3, 0, none⟩)])),(7, .val (sl q21))]) (fun i => boxA b3 49 [sP b4 0] :: bx5 b4 a5 a6 a7 a8 a9 a10 a11 a12 a13 a14 q15 q17 :: ownA (sl q15) 3 .int a16 :: ownA (sl q17) 3 .int a18 :: own2A (sl q21) 28 3 .int i.2 i.1 :: F) (fun i => i22 = i.1) ?_ ?_
 refine gs ?_
 refine W rfl (O_len_own2 tyl_29 rfl ?_)
 refine go ?_
 refine C_loopF (κ := (List (List Int) × Int) × List Hnd) (fun d => [(0, .isl .int a1),(1, .isl .int a2),(2, .val (.func (.func 45) #[] #[.pointer (some ⟨b3, 0, none⟩)])),(7, .val (sl q21)),(19, sI ((List.replicate (x19).toNat ([] : List Int)).length : Int)),(20, sI d.1.2)]) (fun d => boxA b3 49 [sP b4 0] :: bx5 b4 a5 a6 a7 a8 a9 a10 a11 a12 a13 a14 q15 q17 :: ownA (sl q15) 3 .int a16 :: ownA (sl q17) 3 .int a18 :: own2A (sl q21) 28 3 .int d.2 d.1.1 :: F) (fun n d => F47v2_l23 fuel a2 x19 n d.1.1 d.1.2) i22 fuel (((List.replicate (x19).toNat ([] : List Int)),(0 : Int)),(List.replicate (x19).toNat nilH)) e1 (tl [1, 1, 1, 1, 0] 0 rfl rfl) (fun _ => rfl) ?_
 rintro n ⟨⟨y32, y33⟩, q34⟩ hF
 have e1 : F47v2_l23 fuel a2 x19 (n + 1) y32 y33 = some i22 := hF
 rw [F47v2_l23] at e1
 clear hF
 refine gs ?_
 refine C_seq ?_
 refine C_cd rfl e1 (fun e1 => ?_) (fun e1 => ?_)
 refine go ?_
 refine gs ?_
 refine gs ?_
 obtain ⟨x36,w36,e1⟩:=be e1
 refine W rfl (O_arI rfl rfl rfl (ck_e w36).2 (W_re (congrArg sI (ck_e w36).1) ?_))
 obtain ⟨h37, e1⟩ := req_e e1
 refine W rfl (O_make (by_ := 8) (k := .int) (0 : Int) tyE_28 tyZ_3 (RepImpL.cons (RepImp.refl _) RepImpL.nil) rfl rfl h37 fun q38 => ?_)
 obtain ⟨x39,w39,e1⟩:=be e1
 refine W rfl (O_idx_own2 tyL_29 rfl rfl (idx_lt w39).1 (idx_lt w39).2 ?_)
 refine Wn (O_store_row2 (i := (y33).toNat) tyS_28 rfl rfl rfl (idx_e w39).2 ?_)
 refine go ?_
 obtain ⟨x40,w40,e1⟩:=be e1
 refine W rfl (O_arI rfl rfl rfl (ck_e w40).2 (W_re (congrArg sI (ck_e w40).1) ?_))
 refine go ?_
 exact jmpL (((y32.set (y33).toNat (List.replicate (x36).toNat (0 : Int))), x40),(q34.set (y33).toNat q38)) e1 (tl [0, 0, 0, 0, 0] 0 rfl rfl)
 refine go ?_
 obtain rfl := so e1
 exact jmp (y32, q34) rfl (tl [0, 0, 0, 0, 0] 0 rfl rfl)
 rintro ⟨z, q41⟩ hi
 subst hi
 obtain ⟨i42,e1,e0⟩:=be e0
 refine C_cut (ι := List (List Int)) (fun i => [(0, .isl .int a1),(1, .isl .int a2),(2, .val (.func (.func 45) #[] #[.pointer (some ⟨b3, 0, none⟩)])),(7, .val (sl q21))]) (fun i => boxA b3 49 [sP b4 0] :: bx5 b4 a5 a6 a7 a8 a9 a10 a11 a12 a13 a14 q15 q17 :: ownA (sl q15) 3 .int a16 :: ownA (sl q17) 3 .int a18 :: own2A (sl q21) 28 3 .int q41 i :: F) (fun i => i42 = i) ?_ ?_
 refine gs ?_
 obtain ⟨x43,w43,e1⟩:=be e1
 refine W rfl (O_arI rfl rfl rfl (ck_e w43).2 (W_re (congrArg sI (ck_e w43).1) ?_))
 refine go ?_
 refine C_loopF (κ := (List (List Int) × Int)) (fun d => [(0, .isl .int a1),(1, .isl .int a2),(2, .val (.func (.func 45) #[] #[.pointer (some ⟨b3, 0, none⟩)])),(7, .val (sl q21)),(9, sI d.2)]) (fun d => boxA b3 49 [sP b4 0] :: bx5 b4 a5 a6 a7 a8 a9 a10 a11 a12 a13 a14 q15 q17 :: ownA (sl q15) 3 .int a16 :: ownA (sl q17) 3 .int a18 :: own2A (sl q21) 28 3 .int q41 d.1 :: F) (fun n d => F47v2_l44 fuel a1 a2 a5 a6 a7 a8 a9 a10 a11 a12 a13 a14 a16 a18 n d.1 d.2) i42 fuel (i22, x43) e1 (tl [0, 0, 0, 0, 0] 0 rfl rfl) (fun _ => rfl) ?_
 rintro n ⟨y96, y97⟩ hF
 have e1 : F47v2_l44 fuel a1 a2 a5 a6 a7 a8 a9 a10 a11 a12 a13 a14 a16 a18 (n + 1) y96 y97 = some i42 := hF
 rw [F47v2_l44] at e1
 clear hF
 refine C_seq ?_
 refine gs ?_
 refine C_cd rfl e1 (fun e1 => ?_) (fun e1 => ?_)
 refine go ?_
 obtain ⟨i99,e2,e1⟩:=be e1
 refine C_cut (ι := List (List Int)) (fun i => [(0, .isl .int a1),(1, .isl .int a2),(2, .val (.func (.func 45) #[] #[.pointer (some ⟨b3, 0, none⟩)])),(7, .val (sl q21)),(9, sI y97)]) (fun i => boxA b3 49 [sP b4 0] :: bx5 b4 a5 a6 a7 a8 a9 a10 a11 a12 a13 a14 q15 q17 :: ownA (sl q15) 3 .int a16 :: ownA (sl q17) 3 .int a18 :: own2A (sl q21) 28 3 .int q41 i :: F) (fun i => i99 = i) ?_ ?_
 refine go ?_
 refine gs ?_
 obtain ⟨x100,w100,e2⟩:=be e2
 refine W rfl (O_arI rfl rfl rfl (ck_e w100).2 (W_re (congrArg sI (ck_e w100).1) ?_))
 refine go ?_
 refine C_loopF (κ := (List (List Int) × Int)) (fun d => [(0, .isl .int a1),(1, .isl .int a2),(2, .val (.func (.func 45) #[] #[.pointer (some ⟨b3, 0, none⟩)])),(7, .val (sl q21)),(9, sI y97),(10, sI d.2)]) (fun d => boxA b3 49 [sP b4 0] :: bx5 b4 a5 a6 a7 a8 a9 a10 a11 a12 a13 a14 q15 q17 :: ownA (sl q15) 3 .int a16 :: ownA (sl q17) 3 .int a18 :: own2A (sl q21) 28 3 .int q41 d.1 :: F) (fun n d => F47v2_l101 fuel a1 a2 a5 a6 a7 a8 a9 a10 a11 a12 a13 a14 a16 a18 y97 n d.1 d.2) i99 fuel (y96, x100) e2 (tl [0, 0, 0, 0, 0] 0 rfl rfl) (fun _ => rfl) ?_
 rintro n ⟨y124, y125⟩ hF
 have e2 : F47v2_l101 fuel a1 a2 a5 a6 a7 a8 a9 a10 a11 a12 a13 a14 a16 a18 y97 (n + 1) y124 y125 = some i99 := hF
 rw [F47v2_l101] at e2
 clear hF
 refine C_seq ?_
 refine gs ?_
 refine C_cd rfl e2 (fun e2 => ?_) (fun e2 => ?_)
 refine go ?_
 obtain ⟨i127,e3,e2⟩:=be e2
 refine C_cut (ι := List (List Int)) (fun i => [(0, .isl .int a1),(1, .isl .int a2),(2, .val (.func (.func 45) #[] #[.pointer (some ⟨b3, 0, none⟩)])),(7, .val (sl q21)),(9, sI y97),(10, sI y125)]) (fun i => boxA b3 49 [sP b4 0] :: bx5 b4 a5 a6 a7 a8 a9 a10 a11 a12 a13 a14 q15 q17 :: ownA (sl q15) 3 .int a16 :: ownA (sl q17) 3 .int a18 :: own2A (sl q21) 28 3 .int q41 i :: F) (fun i => i127 = i) ?_ ?_
 refine go ?_
 refine C_seq ?_
 refine C_draw2 [(0,fr),(1,fr),(2,fr),(3,fr),(4,fr),(5,fr),(6,fr),(7,fr),(8,fr),(9,mn)] [true, true, true, true, false] [boxA b3 49 [sP b4 0], bx5 b4 a5 a6 a7 a8 a9 a10 a11 a12 a13 a14 q15 q17, ownA (sl q15) 3 .int a16, ownA (sl q17) 3 .int a18] (own2A (sl q21) 28 3 .int q41 y124 :: F) rfl rfl rfl (by kernel_rfl) rfl ?_
 refine gd ?_
 obtain ⟨x128,w128,e3⟩:=be e3
 refine D_free rfl rfl (fun G => O_indexAddr (k := .int) (z := x128) tyL_28 (lk rfl rfl) (lk rfl rfl) (idx_e w128).1 (idx_e w128).2 ⟨rfl, rfl⟩) ?_
 refine gd ?_
 obtain ⟨x129,w129,e3⟩:=be e3
 refine D_free rfl rfl (fun G => O_indexAddr (k := .int) (z := x129) tyL_28 (lk rfl rfl) (lk rfl rfl) (idx_e w129).1 (idx_e w129).2 ⟨rfl, rfl⟩) ?_
 refine gd ?_
 obtain ⟨r130,hr130,e3⟩:=be e3
 refine D_main rfl (D_mainX rfl fun G => O_callV0 (ss := [sI x128, sI x129]) (F := ((own2A (sl q21) 28 3 .int q41 y124 :: F) ++ G)) (lk rfl rfl) fn_45 rfl (F45_ok hG fuel x128 x129 a5 a6 a7 a8 a9 a10 a11 a12 a13 a14 a16 a18 b3 b4 q15 q17 hr130) (sel_perm [0, 0, 0, 0] _) (D_end ?_))
 refine D_nil ?_
 refine C_cd rfl e3 (fun e3 => ?_) (fun e3 => ?_)
 refine C_draw2 [(0,fr),(1,fr),(2,pu),(3,pu),(4,fr),(5,fr),(6,fr),(7,fr),(8,pu),(9,pu),(10,fr),(11,fr),(12,pu),(13,pu),(14,fr),(15,pu),(16, .open_)] [false, false, false, false, false] [] (boxA b3 49 [sP b4 0] :: bx5 b4 a5 a6 a7 a8 a9 a10 a11 a12 a13 a14 q15 q17 :: ownA (sl q15) 3 .int a16 :: ownA (sl q17) 3 .int a18 :: own2A (sl q21) 28 3 .int q41 y124 :: F) rfl rfl rfl (by kernel_rfl) rfl ?_
 refine gd ?_
 obtain ⟨x132,w132,e3⟩:=be e3
 refine D_pure rfl rfl (fun G => O_idx_own2 tyL_29 (lk rfl rfl) (lk rfl rfl) (idx_lt w132).1 (idx_lt w132).2 ⟨rfl, rfl⟩) ?_
 refine D_pure rfl rfl (fun G => O_load_row2 (i := (y97).toNat) ty1_28 (lk rfl rfl) rfl (idx_e w132).2 ⟨rfl, rfl⟩) ?_
 refine gd ?_
 obtain ⟨x133,w133,e3⟩:=be e3
 refine D_free rfl rfl (fun G => O_arI (lk rfl rfl) (lk rfl rfl) rfl (ck_e w133).2 ⟨rfl, rfl⟩) (D_re (congrArg sI (ck_e w133).1) ?_)
 obtain ⟨x134,w134,e3⟩:=be e3
 refine D_pure rfl rfl (fun G => O_idx_own2 tyL_29 (lk rfl rfl) (lk rfl rfl) (idx_lt w134).1 (idx_lt w134).2 ⟨rfl, rfl⟩) ?_
 refine D_pure rfl rfl (fun G => O_load_row2 (i := (x133).toNat) ty1_28 (lk rfl rfl) rfl (idx_e w134).2 ⟨rfl, rfl⟩) ?_
 refine gd ?_
 obtain ⟨x135,w135,e3⟩:=be e3
 refine D_free rfl rfl (fun G => O_arI (lk rfl rfl) (lk rfl rfl) rfl (ck_e w135).2 ⟨rfl, rfl⟩) (D_re (congrArg sI (ck_e w135).1) ?_)
 obtain ⟨x136,w136,e3⟩:=be e3
 refine D_pure rfl rfl (fun G => O_idx_sub (i := (x133).toNat) (k := .int) tyL_28 (lk rfl rfl) (lk rfl rfl) (idx_e w134).2 (idx_lt w136).1 (idx_lt w136).2 ⟨rfl, rfl⟩) ?_
 refine D_pure rfl rfl (fun G => O_load_sub (i := (x133).toNat) (m := (x135).toNat) (j := 0) ty1_3 (lk rfl rfl) (idx_e w134).2 rfl (idx_e w136).2 rfl ⟨rfl, rfl⟩) ?_
 obtain ⟨x137,w137,e3⟩:=be e3
 refine D_free rfl rfl (fun G => O_arI (lk rfl rfl) (lk rfl rfl) rfl (ck_e w137).2 ⟨rfl, rfl⟩) (D_re (congrArg sI (ck_e w137).1) ?_)
 obtain ⟨x138,w138,e3⟩:=be e3
 refine D_pure rfl rfl (fun G => O_idx_sub (i := (y97).toNat) (k := .int) tyL_28 (lk rfl rfl) (lk rfl rfl) (idx_e w132).2 (idx_lt w138).1 (idx_lt w138).2 ⟨rfl, rfl⟩) ?_
 refine D_open2 (boxA b3 49 [sP b4 0] :: bx5 b4 a5 a6 a7 a8 a9 a10 a11 a12 a13 a14 q15 q17 :: ownA (sl q15) 3 .int a16 :: ownA (sl q17) 3 .int a18 :: own2A (sl q21) 28 3 .int q41 y124 :: F) rfl rfl (D_mainX rfl fun G => O_store_sub (i := (y97).toNat) (m := (y125).toNat) (j := 0) (z' := x137) tyS_3 (lk rfl rfl) (lk rfl rfl) rfl rfl (idx_e w132).2 rfl (idx_e w138).2 rfl (by decide) (D_end ?_))
 refine D_nil0 ?_
 exact jm e3 (tl [0, 0, 0, 0, 0] 0 rfl rfl)
 refine C_draw2 [(0,fr),(1,fr),(2,pu),(3,pu),(4,fr),(5,fr),(6,fr),(7,fr),(8,pu),(9,pu),(10,fr),(11,pu),(12,pu),(13,fr),(14,fr),(15,pu),(16,pu),(17,fr),(18,fr),(19,pu),(20,pu),(21,fr),(22,pu),(23, .open_)] [false, false, false, false, false] [] (boxA b3 49 [sP b4 0] :: bx5 b4 a5 a6 a7 a8 a9 a10 a11 a12 a13 a14 q15 q17 :: ownA (sl q15) 3 .int a16 :: ownA (sl q17) 3 .int a18 :: own2A (sl q21) 28 3 .int q41 y124 :: F) rfl rfl rfl (by kernel_rfl) rfl ?_
 refine gd ?_
 obtain ⟨x139,w139,e3⟩:=be e3
 refine D_pure rfl rfl (fun G => O_idx_own2 tyL_29 (lk rfl rfl) (lk rfl rfl) (idx_lt w139).1 (idx_lt w139).2 ⟨rfl, rfl⟩) ?_
 refine D_pure rfl rfl (fun G => O_load_row2 (i := (y97).toNat) ty1_28 (lk rfl rfl) rfl (idx_e w139).2 ⟨rfl, rfl⟩) ?_
 refine gd ?_
 obtain ⟨x140,w140,e3⟩:=be e3
 refine D_free rfl rfl (fun G => O_arI (lk rfl rfl) (lk rfl rfl) rfl (ck_e w140).2 ⟨rfl, rfl⟩) (D_re (congrArg sI (ck_e w140).1) ?_)
 obtain ⟨x141,w141,e3⟩:=be e3
 refine D_pure rfl rfl (fun G => O_idx_own2 tyL_29 (lk rfl rfl) (lk rfl rfl) (idx_lt w141).1 (idx_lt w141).2 ⟨rfl, rfl⟩) ?_
 refine D_pure rfl rfl (fun G => O_load_row2 (i := (x140).toNat) ty1_28 (lk rfl rfl) rfl (idx_e w141).2 ⟨rfl, rfl⟩) ?_
 refine gd ?_
 obtain ⟨x142,w142,e3⟩:=be e3
 refine D_pure rfl rfl (fun G => O_idx_sub (i := (x140).toNat) (k := .int) tyL_28 (lk rfl rfl) (lk rfl rfl) (idx_e w141).2 (idx_lt w142).1 (idx_lt w142).2 ⟨rfl, rfl⟩) ?_
 refine D_pure rfl rfl (fun G => O_load_sub (i := (x140).toNat) (m := (y125).toNat) (j := 0) ty1_3 (lk rfl rfl) (idx_e w141).2 rfl (idx_e w142).2 rfl ⟨rfl, rfl⟩) ?_
 refine gd ?_
 refine D_pure rfl rfl (fun G => O_idx_own2 tyL_29 (lk rfl rfl) (lk rfl rfl) (idx_lt w139).1 (idx_lt w139).2 ⟨rfl, rfl⟩) ?_
 refine D_pure rfl rfl (fun G => O_load_row2 (i := (y97).toNat) ty1_28 (lk rfl rfl) rfl (idx_e w139).2 ⟨rfl, rfl⟩) ?_
 refine gd ?_
 obtain ⟨x143,w143,e3⟩:=be e3
 refine D_free rfl rfl (fun G => O_arI (lk rfl rfl) (lk rfl rfl) rfl (ck_e w143).2 ⟨rfl, rfl⟩) (D_re (congrArg sI (ck_e w143).1) ?_)
 obtain ⟨x144,w144,e3⟩:=be e3
 refine D_pure rfl rfl (fun G => O_idx_sub (i := (y97).toNat) (k := .int) tyL_28 (lk rfl rfl) (lk rfl rfl) (idx_e w139).2 (idx_lt w144).1 (idx_lt w144).2 ⟨rfl, rfl⟩) ?_
 refine D_pure rfl rfl (fun G => O_load_sub (i := (y97).toNat) (m := (x143).toNat) (j := 0) ty1_3 (lk rfl rfl) (idx_e w139).2 rfl (idx_e w144).2 rfl ⟨rfl, rfl⟩) ?_
 refine D_free rfl rfl (fun G => O_max (lk rfl rfl) (lk rfl rfl) ⟨rfl, rfl⟩) ?_
 obtain ⟨x145,w145,e3⟩:=be e3
 refine D_pure rfl rfl (fun G => O_idx_sub (i := (y97).toNat) (k := .int) tyL_28 (lk rfl rfl) (lk rfl rfl) (idx_e w139).2 (idx_lt w145).1 (idx_lt w145).2 ⟨rfl, rfl⟩) ?_
 refine D_open2 (boxA b3 49 [sP b4 0] :: bx5 b4 a5 a6 a7 a8 a9 a10 a11 a12 a13 a14 q15 q17 :: ownA (sl q15) 3 .int a16 :: ownA (sl q17) 3 .int a18 :: own2A (sl q21) 28 3 .int q41 y124 :: F) rfl rfl (D_mainX rfl fun G => O_store_sub (i := (y97).toNat) (m := (y125).toNat) (j := 0) (z' := (if x144 > x142 then x144 else x142)) tyS_3 (lk rfl rfl) (lk rfl rfl) rfl rfl (idx_e w139).2 rfl (idx_e w145).2 rfl (by decide) (D_end ?_))
 refine D_nil0 ?_
 exact jm e3 (tl [0, 0, 0, 0, 0] 0 rfl rfl)
 rintro z hi
 subst hi
 refine go ?_
 obtain ⟨x146,w146,e2⟩:=be e2
 refine W rfl (O_arI rfl rfl rfl (ck_e w146).2 (W_re (congrArg sI (ck_e w146).1) ?_))
 refine go ?_
 exact jmpL (i127, x146) e2 (tl [0, 0, 0, 0, 0] 0 rfl rfl)
 refine go ?_
 exact jm e2 (tl [0, 0, 0, 0, 0] 0 rfl rfl)
 rintro z hi
 subst hi
 refine go ?_
 obtain ⟨x147,w147,e1⟩:=be e1
 refine W rfl (O_arI rfl rfl rfl (ck_e w147).2 (W_re (congrArg sI (ck_e w147).1) ?_))
 refine go ?_
 exact jmpL (i99, x147) e1 (tl [0, 0, 0, 0, 0] 0 rfl rfl)
 refine go ?_
 exact jm e1 (tl [0, 0, 0, 0, 0] 0 rfl rfl)
 rintro z hi
 subst hi
 refine gs ?_
 obtain ⟨i148,e1,e0⟩:=be e0
 refine C_cut (ι := ((List (Int × Int))) × Hnd) (fun i => [(11, .val (sl i.2))]) (fun i => boxA b3 49 [sP b4 0] :: bx5 b4 a5 a6 a7 a8 a9 a10 a11 a12 a13 a14 q15 q17 :: ownA (sl q15) 3 .int a16 :: ownA (sl q17) 3 .int a18 :: ownA (sl i.2) 39 .pair i.1 :: F) (fun i => i148 = i.1) ?_ ?_
 refine gs ?_
 refine C_loopF (κ := ((List (Int × Int)) × Int × Int) × Hnd) (fun d => [(0, .isl .int a1),(1, .isl .int a2),(2, .val (.func (.func 45) #[] #[.pointer (some ⟨b3, 0, none⟩)])),(7, .val (sl q21)),(11, .val (sl d.2)),(12, sI d.1.2.1),(13, sI d.1.2.2)]) (fun d => boxA b3 49 [sP b4 0] :: bx5 b4 a5 a6 a7 a8 a9 a10 a11 a12 a13 a14 q15 q17 :: ownA (sl q15) 3 .int a16 :: ownA (sl q17) 3 .int a18 :: own2A (sl q21) 28 3 .int q41 i42 :: ownA (sl d.2) 39 .pair d.1.1 :: F) (fun n d => F47v2_l149 fuel a1 a2 a5 a6 a7 a8 a9 a10 a11 a12 a13 a14 a16 a18 i42 n d.1.1 d.1.2.1 d.1.2.2) i148 fuel (([], (0 : Int),(0 : Int)),(none, 0, 0)) e1 (Turn.trans (T_nil 39 .pair) (tl [1, 1, 1, 1, 1, 0] 0 rfl rfl)) (fun _ => rfl) ?_
 rintro n ⟨⟨y182, y183, y184⟩, q185⟩ hF
 have e1 : F47v2_l149 fuel a1 a2 a5 a6 a7 a8 a9 a10 a11 a12 a13 a14 a16 a18 i42 (n + 1) y182 y183 y184 = some i148 := hF
 rw [F47v2_l149] at e1
 clear hF
 refine C_seq ?_
 obtain ⟨i186,e2,e1⟩:=be e1
 refine C_cut (ι := Bool) (fun i => [(0, .isl .int a1),(1, .isl .int a2),(2, .val (.func (.func 45) #[] #[.pointer (some ⟨b3, 0, none⟩)])),(7, .val (sl q21)),(11, .val (sl q185)),(12, sI y183),(13, sI y184),(103, sB i)]) (fun i => boxA b3 49 [sP b4 0] :: bx5 b4 a5 a6 a7 a8 a9 a10 a11 a12 a13 a14 q15 q17 :: ownA (sl q15) 3 .int a16 :: ownA (sl q17) 3 .int a18 :: own2A (sl q21) 28 3 .int q41 i42 :: ownA (sl q185) 39 .pair y182 :: F) (fun i => i186 = i) ?_ ?_
 refine go ?_
 obtain ⟨hg187, e2⟩ | ⟨hg187, e2⟩ := bc e2
 refine Wt rfl rfl rfl hg187 rfl rfl (O_move rfl ?_)
 refine Wt rfl rfl rfl hg187 rfl rfl (O_move rfl ?_)
 refine Wt rfl rfl rfl hg187 rfl rfl (O_len_isl tyl_28 rfl ?_)
 refine Wt rfl rfl rfl hg187 rfl rfl (O_cmp rfl rfl rfl ?_)
 refine go ?_
 exact jm e2 (tl [0, 0, 0, 0, 0, 0] 0 rfl rfl)
 refine go ?_
 exact jm e2 (tl [0, 0, 0, 0, 0, 0] 0 rfl rfl)
 rintro z hi
 subst hi
 refine C_cd rfl e1 (fun e1 => ?_) (fun e1 => ?_)
 refine go ?_
 obtain ⟨i189,e2,e1⟩:=be e1
 refine C_cut (ι := Bool) (fun i => [(0, .isl .int a1),(1, .isl .int a2),(2, .val (.func (.func 45) #[] #[.pointer (some ⟨b3, 0, none⟩)])),(7, .val (sl q21)),(11, .val (sl q185)),(12, sI y183),(13, sI y184),(106, sB i)]) (fun i => boxA b3 49 [sP b4 0] :: bx5 b4 a5 a6 a7 a8 a9 a10 a11 a12 a13 a14 q15 q17 :: ownA (sl q15) 3 .int a16 :: ownA (sl q17) 3 .int a18 :: own2A (sl q21) 28 3 .int q41 i42 :: ownA (sl q185) 39 .pair y182 :: F) (fun i => i189 = i) ?_ ?_
 refine C_draw2 [(0,fr),(1,fr),(2,fr),(3,fr),(4,fr),(5,fr),(6,fr),(7,fr),(8,fr),(9,mn),(10,fr),(11,fr),(12,fr),(13,pu),(14,pu),(15,fr),(16,pu),(17,pu),(18,fr),(19,fr),(20,fr),(21,pu),(22,pu),(23,fr),(24,fr),(25,pu),(26,pu),(27,fr),(28,fr),(29,fr),(30,fr)] [true, true, true, true, false, false] [boxA b3 49 [sP b4 0], bx5 b4 a5 a6 a7 a8 a9 a10 a11 a12 a13 a14 q15 q17, ownA (sl q15) 3 .int a16, ownA (sl q17) 3 .int a18] (own2A (sl q21) 28 3 .int q41 i42 :: ownA (sl q185) 39 .pair y182 :: F) rfl rfl rfl (by kernel_rfl) rfl ?_
 refine gd ?_
 obtain ⟨x190,w190,e2⟩:=be e2
 refine D_free rfl rfl (fun G => O_indexAddr (k := .int) (z := x190) tyL_28 (lk rfl rfl) (lk rfl rfl) (idx_e w190).1 (idx_e w190).2 ⟨rfl, rfl⟩) ?_
 refine gd ?_
 obtain ⟨x191,w191,e2⟩:=be e2
 refine D_free rfl rfl (fun G => O_indexAddr (k := .int) (z := x191) tyL_28 (lk rfl rfl) (lk rfl rfl) (idx_e w191).1 (idx_e w191).2 ⟨rfl, rfl⟩) ?_
 refine gd ?_
 obtain ⟨r192,hr192,e2⟩:=be e2
 refine D_main rfl (D_mainX rfl fun G => O_callV0 (ss := [sI x190, sI x191]) (F := ((own2A (sl q21) 28 3 .int q41 i42 :: ownA (sl q185) 39 .pair y182 :: F) ++ G)) (lk rfl rfl) fn_45 rfl (F45_ok hG fuel x190 x191 a5 a6 a7 a8 a9 a10 a11 a12 a13 a14 a16 a18 b3 b4 q15 q17 hr192) (sel_perm [0, 0, 0, 0] _) (D_end ?_))
 refine gd ?_
 obtain ⟨hg193, e2⟩ | ⟨hg193, e2⟩ := bc e2
 refine gd ?_
 obtain ⟨x194,w194,e2⟩:=be e2
 refine D_pureT rfl rfl rfl (lg rfl rfl) hg193 (fun G => O_idx_own2 tyL_29 (lk rfl rfl) (lk rfl rfl) (idx_lt w194).1 (idx_lt w194).2 ⟨rfl, rfl⟩) ?_
 refine D_pureT rfl rfl rfl (lg rfl rfl) hg193 (fun G => O_load_row2 (i := (y183).toNat) ty1_28 (lk rfl rfl) rfl (idx_e w194).2 ⟨rfl, rfl⟩) ?_
 refine gd ?_
 obtain ⟨x195,w195,e2⟩:=be e2
 refine D_pureT rfl rfl rfl (lg rfl rfl) hg193 (fun G => O_idx_sub (i := (y183).toNat) (k := .int) tyL_28 (lk rfl rfl) (lk rfl rfl) (idx_e w194).2 (idx_lt w195).1 (idx_lt w195).2 ⟨rfl, rfl⟩) ?_
 refine D_pureT rfl rfl rfl (lg rfl rfl) hg193 (fun G => O_load_sub (i := (y183).toNat) (m := (y184).toNat) (j := 0) ty1_3 (lk rfl rfl) (idx_e w194).2 rfl (idx_e w195).2 rfl ⟨rfl, rfl⟩) ?_
 refine gd ?_
 obtain ⟨x196,w196,e2⟩:=be e2
 refine D_freeT rfl rfl rfl (lg rfl rfl) hg193 (fun G => O_arI (lk rfl rfl) (lk rfl rfl) rfl (ck_e w196).2 ⟨rfl, rfl⟩) (D_re (congrArg sI (ck_e w196).1) ?_)
 obtain ⟨x197,w197,e2⟩:=be e2
 refine D_pureT rfl rfl rfl (lg rfl rfl) hg193 (fun G => O_idx_own2 tyL_29 (lk rfl rfl) (lk rfl rfl) (idx_lt w197).1 (idx_lt w197).2 ⟨rfl, rfl⟩) ?_
 refine D_pureT rfl rfl rfl (lg rfl rfl) hg193 (fun G => O_load_row2 (i := (x196).toNat) ty1_28 (lk rfl rfl) rfl (idx_e w197).2 ⟨rfl, rfl⟩) ?_
 refine gd ?_
 obtain ⟨x198,w198,e2⟩:=be e2
 refine D_freeT rfl rfl rfl (lg rfl rfl) hg193 (fun G => O_arI (lk rfl rfl) (lk rfl rfl) rfl (ck_e w198).2 ⟨rfl, rfl⟩) (D_re (congrArg sI (ck_e w198).1) ?_)
 obtain ⟨x199,w199,e2⟩:=be e2
 refine D_pureT rfl rfl rfl (lg rfl rfl) hg193 (fun G => O_idx_sub (i := (x196).toNat) (k := .int) tyL_28 (lk rfl rfl) (lk rfl rfl) (idx_e w197).2 (idx_lt w199).1 (idx_lt w199).2 ⟨rfl, rfl⟩) ?_
 refine D_pureT rfl rfl rfl (lg rfl rfl) hg193 (fun G => O_load_sub (i := (x196).toNat) (m := (x198).toNat) (j := 0) ty1_3 (lk rfl rfl) (idx_e w197).2 rfl (idx_e w199).2 rfl ⟨rfl, rfl⟩) ?_
 obtain ⟨x200,w200,e2⟩:=be e2
 refine D_freeT rfl rfl rfl (lg rfl rfl) hg193 (fun G => O_arI (lk rfl rfl) (lk rfl rfl) rfl (ck_e w200).2 ⟨rfl, rfl⟩) (D_re (congrArg sI (ck_e w200).1) ?_)
 refine gd ?_
 refine D_nil ?_
 exact jm e2 (tl [0, 0, 0, 0, 0, 0] 0 rfl rfl)
 refine gd ?_
 refine D_nil ?_
 exact jm e2 (tl [0, 0, 0, 0, 0, 0] 0 rfl rfl)
 rintro z hi
 subst hi
 refine C_cd rfl e1 (fun e1 => ?_) (fun e1 => ?_)
 refine C_seq ?_
 refine C_draw2 [(0,fr),(1,fr),(2,fr),(3,fr),(4,fr),(5,fr),(6,fr),(7,fr),(8,fr),(9,fr),(10,nw),(11, .take),(12,fr)] [false, false, false, false, false, true] [ownA (sl q185) 39 .pair y182] (boxA b3 49 [sP b4 0] :: bx5 b4 a5 a6 a7 a8 a9 a10 a11 a12 a13 a14 q15 q17 :: ownA (sl q15) 3 .int a16 :: ownA (sl q17) 3 .int a18 :: own2A (sl q21) 28 3 .int q41 i42 :: F) rfl rfl rfl (by kernel_rfl) rfl ?_
 refine gd ?_
 obtain ⟨x202,w202,e1⟩:=be e1
 refine D_free rfl rfl (fun G => O_indexAddr (k := .int) (z := x202) tyL_28 (lk rfl rfl) (lk rfl rfl) (idx_e w202).1 (idx_e w202).2 ⟨rfl, rfl⟩) ?_
 refine gd ?_
 obtain ⟨x203,w203,e1⟩:=be e1
 refine D_free rfl rfl (fun G => O_indexAddr (k := .int) (z := x203) tyL_28 (lk rfl rfl) (lk rfl rfl) (idx_e w203).1 (idx_e w203).2 ⟨rfl, rfl⟩) ?_
 refine gd ?_
 refine D_free rfl rfl (fun G => O_build (ss := [(0, sI x202),(1, sI x203)]) tyZ_39 tyP_39 rfl rfl rfl ⟨rfl, rfl⟩) ?_
 refine D_new rfl rfl ⟨10, Hnd, fun q204 => .val (sl q204), fun q204 => ownA (sl q204) 39 .pair [(x202, x203)]⟩ rfl (fun G => A_build 39 16 .pair [(x202, x203)] (ss := [(0, .agg [sI x202, sI x203])]) tyE_25 tyZ_39 rfl rfl rfl rfl rfl rfl fun q204 => ⟨q204, rfl, rfl⟩) ?_
 obtain ⟨h205, e1⟩ := req_e e1
 refine D_take _ _ rfl rfl rfl (fun q204 => ?_)
 refine D_mainX rfl fun G => A_own (k := .pair) (by_ := 16) tyE_25 rfl rfl (lk rfl rfl) (lk rfl rfl) h205 fun q206 => (D_end ?_)
 refine gd ?_
 refine D_nil ?_
 refine go ?_
 obtain ⟨x207,w207,e1⟩:=be e1
 refine W rfl (O_arI rfl rfl rfl (ck_e w207).2 (W_re (congrArg sI (ck_e w207).1) ?_))
 refine go ?_
 obtain ⟨x208,w208,e1⟩:=be e1
 refine W rfl (O_arI rfl rfl rfl (ck_e w208).2 (W_re (congrArg sI (ck_e w208).1) ?_))
 refine go ?_
 exact jmpL (((y182 ++ [(x202, x203)]), x207, x208), q206) e1 (tl [1, 1, 1, 1, 1, 0] 0 rfl rfl)
 refine C_seq ?_
 refine C_draw2 [(0,fr),(1,fr),(2,fr),(3,pu),(4,pu),(5,fr),(6,pu),(7,pu),(8,fr),(9,fr),(10,pu),(11,pu),(12,fr),(13,fr),(14,pu),(15,pu),(16,fr),(17,fr)] [false, false, false, false, false, false] [] (boxA b3 49 [sP b4 0] :: bx5 b4 a5 a6 a7 a8 a9 a10 a11 a12 a13 a14 q15 q17 :: ownA (sl q15) 3 .int a16 :: ownA (sl q17) 3 .int a18 :: own2A (sl q21) 28 3 .int q41 i42 :: ownA (sl q185) 39 .pair y182 :: F) rfl rfl rfl (by kernel_rfl) rfl ?_
 refine gd ?_
 obtain ⟨x209,w209,e1⟩:=be e1
 refine D_free rfl rfl (fun G => O_arI (lk rfl rfl) (lk rfl rfl) rfl (ck_e w209).2 ⟨rfl, rfl⟩) (D_re (congrArg sI (ck_e w209).1) ?_)
 obtain ⟨x210,w210,e1⟩:=be e1
 refine D_pure rfl rfl (fun G => O_idx_own2 tyL_29 (lk rfl rfl) (lk rfl rfl) (idx_lt w210).1 (idx_lt w210).2 ⟨rfl, rfl⟩) ?_
 refine D_pure rfl rfl (fun G => O_load_row2 (i := (x209).toNat) ty1_28 (lk rfl rfl) rfl (idx_e w210).2 ⟨rfl, rfl⟩) ?_
 refine gd ?_
 obtain ⟨x211,w211,e1⟩:=be e1
 refine D_pure rfl rfl (fun G => O_idx_sub (i := (x209).toNat) (k := .int) tyL_28 (lk rfl rfl) (lk rfl rfl) (idx_e w210).2 (idx_lt w211).1 (idx_lt w211).2 ⟨rfl, rfl⟩) ?_
 refine D_pure rfl rfl (fun G => O_load_sub (i := (x209).toNat) (m := (y184).toNat) (j := 0) ty1_3 (lk rfl rfl) (idx_e w210).2 rfl (idx_e w211).2 rfl ⟨rfl, rfl⟩) ?_
 refine gd ?_
 obtain ⟨x212,w212,e1⟩:=be e1
 refine D_pure rfl rfl (fun G => O_idx_own2 tyL_29 (lk rfl rfl) (lk rfl rfl) (idx_lt w212).1 (idx_lt w212).2 ⟨rfl, rfl⟩) ?_
 refine D_pure rfl rfl (fun G => O_load_row2 (i := (y183).toNat) ty1_28 (lk rfl rfl) rfl (idx_e w212).2 ⟨rfl, rfl⟩) ?_
 refine gd ?_
 obtain ⟨x213,w213,e1⟩:=be e1
 refine D_free rfl rfl (fun G => O_arI (lk rfl rfl) (lk rfl rfl) rfl (ck_e w213).2 ⟨rfl, rfl⟩) (D_re (congrArg sI (ck_e w213).1) ?_)
 obtain ⟨x214,w214,e1⟩:=be e1
 refine D_pure rfl rfl (fun G => O_idx_sub (i := (y183).toNat) (k := .int) tyL_28 (lk rfl rfl) (lk rfl rfl) (idx_e w212).2 (idx_lt w214).1 (idx_lt w214).2 ⟨rfl, rfl⟩) ?_
 refine D_pure rfl rfl (fun G => O_load_sub (i := (y183).toNat) (m := (x213).toNat) (j := 0) ty1_3 (lk rfl rfl) (idx_e w212).2 rfl (idx_e w214).2 rfl ⟨rfl, rfl⟩) ?_
 refine gd ?_
 refine D_nil ?_
 refine C_cd rfl e1 (fun e1 => ?_) (fun e1 => ?_)
 refine go ?_
 refine W rfl (O_arI rfl rfl rfl (ck_e w209).2 (W_re (congrArg sI (ck_e w209).1) ?_))
 refine go ?_
 exact jmpL ((y182, x209, y184), q185) e1 (tl [0, 0, 0, 0, 0, 0] 0 rfl rfl)
 refine go ?_
 refine W rfl (O_arI rfl rfl rfl (ck_e w213).2 (W_re (congrArg sI (ck_e w213).1) ?_))
 refine go ?_
 exact jmpL ((y182, y183, x213), q185) e1 (tl [0, 0, 0, 0, 0, 0] 0 rfl rfl)
 refine go ?_
 obtain rfl := so e1
 exact jmp (y182, q185) rfl (tl [0, 0, 0, 0, 1] 1 rfl rfl)
 rintro ⟨z, q216⟩ hi
 subst hi
 refine gs ?_
 obtain rfl := so e0
 refine go ?_
 exact ret_ok (Turn.trans (T_freezeL (sl q216) (k := .pair) (.cons 6 rfl .here (.cons 173 rfl .here (.cons 11 rfl .here .nil)))) (T_le (E' := [(6, .isl .pair i148)]) (.mk [0, 0, 0, 0] 0 rfl ⟨rfl, trivial⟩))) [0, 0, 0, 0] 0 [.isl .pair i148] [boxA b3 49 [sP b4 0], bx5 b4 a5 a6 a7 a8 a9 a10 a11 a12 a13 a14 q15 q17, ownA (sl q15) 3 .int a16, ownA (sl q17) 3 .int a18] (.tmp (t := 6) _ rfl .nil) rfl ⟨rfl, rfl⟩
def F30_l205 (fuel : Nat) (a2 : List Tree) (a3 : List Int) (a4 : List Int) (a5 : List (List Int)) (a6 : List Tree) (a7 : List Int) (a8 : List Int) (a9 : List (List Int)) (a10 : List Int) (a11 : List Int) (r204 : (List (Int × Int))) : Nat → List Int → List Int → Int → Option (((List Int × List Int) ⊕ (List Int × List Int)))
 | 0, _, _, _ => none
 | n + 1, y217, y218, y219 =>
 bif (decide (y219 < (r204.length : Int))) then (
 Option.bind (α := List Int × List Int) (
 (idx r204 y219).bind fun x222 =>
 (idx a10 x222.1).bind fun x224 =>
 (idx a11 x222.2).bind fun x225 =>
 bif (x224 == x225) then (
 (F26 fuel a2 a3 a4 a5 a6 a7 a8 a9 a10 a11 y217 y218 x222.1 x222.2).bind fun r227 =>
 some (r227.1, r227.2)) else (
 (F27 fuel a2 a3 a4 a5 a6 a7 a8 a9 a10 a11 y217 y218 x222.1 x222.2).bind fun r228 =>
 some ((y217.set (x222.1).toNat x222.2), (y218.set (x222.2).toNat x222.1)))) fun i221 =>
 (ck (y219 + (1 : Int))).bind fun x229 =>
 F30_l205 fuel a2 a3 a4 a5 a6 a7 a8 a9 a10 a11 r204 n i221.1 i221.2 x229) else (
 some (.inl (y217, y218)))
def F30_l172 (fuel : Nat) (a2 : List Tree) (a3 : List Int) (a4 : List Int) (a5 : List (List Int)) (a6 : List Tree) (a7 : List Int) (a8 : List Int) (a9 : List (List Int)) (a10 : List Int) (a11 : List Int) (r171 : (List (Int × Int))) : Nat → List Int → List Int → Int → Option (((List Int × List Int) ⊕ (List Int × List Int)))
 | 0, _, _, _ => none
 | n + 1, y184, y185, y186 =>
 bif (decide (y186 < (r171.length : Int))) then (
 Option.bind (α := List Int × List Int) (
 (idx r171 y186).bind fun x189 =>
 (idx a10 x189.1).bind fun x191 =>
 (idx a11 x189.2).bind fun x192 =>
 bif (x191 == x192) then (
 (F26 fuel a2 a3 a4 a5 a6 a7 a8 a9 a10 a11 y184 y185 x189.1 x189.2).bind fun r194 =>
 some (r194.1, r194.2)) else (
 (F27 fuel a2 a3 a4 a5 a6 a7 a8 a9 a10 a11 y184 y185 x189.1 x189.2).bind fun r195 =>
 some ((y184.set (x189.1).toNat x189.2), (y185.set (x189.2).toNat x189.1)))) fun i188 =>
 (ck (y186 + (1 : Int))).bind fun x196 =>
 F30_l172 fuel a2 a3 a4 a5 a6 a7 a8 a9 a10 a11 r171 n i188.1 i188.2 x196) else (
 some (.inl (y184, y185)))
def F30_l139 (fuel : Nat) (a2 : List Tree) (a3 : List Int) (a4 : List Int) (a5 : List (List Int)) (a6 : List Tree) (a7 : List Int) (a8 : List Int) (a9 : List (List Int)) (a10 : List Int) (a11 : List Int) (r138 : (List (Int × Int))) : Nat → List Int → List Int → Int → Option (((List Int × List Int) ⊕ (List Int × List Int)))
 | 0, _, _, _ => none
 | n + 1, y151, y152, y153 =>
 bif (decide (y153 < (r138.length : Int))) then (
 Option.bind (α := List Int × List Int) (
 (idx r138 y153).bind fun x156 =>
 (idx a10 x156.1).bind fun x158 =>
 (idx a11 x156.2).bind fun x159 =>
 bif (x158 == x159) then (
 (F26 fuel a2 a3 a4 a5 a6 a7 a8 a9 a10 a11 y151 y152 x156.1 x156.2).bind fun r161 =>
 some (r161.1, r161.2)) else (
 (F27 fuel a2 a3 a4 a5 a6 a7 a8 a9 a10 a11 y151 y152 x156.1 x156.2).bind fun r162 =>
 some ((y151.set (x156.1).toNat x156.2), (y152.set (x156.2).toNat x156.1)))) fun i155 =>
 (ck (y153 + (1 : Int))).bind fun x163 =>
 F30_l139 fuel a2 a3 a4 a5 a6 a7 a8 a9 a10 a11 r138 n i155.1 i155.2 x163) else (
 some (.inl (y151, y152)))
def F30_l20 (fuel : Nat) (a2 : List Tree) (a3 : List Int) (a4 : List Int) (a5 : List (List Int)) (a6 : List Tree) (a7 : List Int) (a8 : List Int) (a9 : List (List Int)) (a10 : List Int) (a11 : List Int) (a16 : Int) (a17 : Int) : Nat → List Int → List Int → Int → Option (List Int × List Int)
 | 0, _, _, _ => none
 | n + 1, y125, y126, y127 =>
 bif (decide (y127 < (3 : Int))) then (
 Option.bind (α := ((List Int × List Int) ⊕ (List Int × List Int))) (
 if 0 ≤ y127 ∧ y127 < ((3 : Nat) : Int) then (
 bif (y127 == (0 : Int)) then (
 (idx a5 a16).bind fun x132 =>
 (idx a9 a17).bind fun x133 =>
 (F46 fuel x132 y125).bind fun r134 =>
 (F46 fuel x133 y126).bind fun r135 =>
 (ck ((r134.length : Int) * (r135.length : Int))).bind fun x136 =>
 bif (decide (x136 > (4194304 : Int))) then (
 some (.inr (y125, y126))) else (
 (F47 fuel r134 r135 a2 a3 a4 a5 a6 a7 a8 a9 a10 a11 y125 y126).bind fun r138 =>
 F30_l139 fuel a2 a3 a4 a5 a6 a7 a8 a9 a10 a11 r138 fuel y125 y126 (0 : Int))) else (
 bif (y127 == (1 : Int)) then (
 (idx a5 a16).bind fun x165 =>
 (idx a9 a17).bind fun x166 =>
 (F46 fuel x165 y125).bind fun r167 =>
 (F46 fuel x166 y126).bind fun r168 =>
 (ck ((r167.length : Int) * (r168.length : Int))).bind fun x169 =>
 bif (decide (x169 > (4194304 : Int))) then (
 some (.inr (y125, y126))) else (
 (F47v1 fuel r167 r168 a2 a3 a4 a5 a6 a7 a8 a9 a10 a11 y125 y126).bind fun r171 =>
 F30_l172 fuel a2 a3 a4 a5 a6 a7 a8 a9 a10 a11 r171 fuel y125 y126 (0 : Int))) else (
 bif (y127 == (2 : Int)) then (
 (idx a5 a16).bind fun x198 =>
 (idx a9 a17).bind fun x199 =>
 (F46 fuel x198 y125).bind fun r200 =>
 (F46 fuel x199 y126).bind fun r201 =>
 (ck ((r200.length : Int) * (r201.length : Int))).bind fun x202 =>
 bif (decide (x202 > (4194304 : Int))) then (
 some (.inr (y125, y126))) else (
 (F47v2 fuel r200 r201 a2 a3 a4 a5 a6 a7 a8 a9 a10 a11 y125 y126).bind fun r204 =>
 F30_l205 fuel a2 a3 a4 a5 a6 a7 a8 a9 a10 a11 r204 fuel y125 y126 (0 : Int))) else (
 none)))) else none) (Sum.elim (fun i129 =>
 (ck (y127 + (1 : Int))).bind fun x230 =>
 F30_l20 fuel a2 a3 a4 a5 a6 a7 a8 a9 a10 a11 a16 a17 n i129.1 i129.2 x230) (fun z => some z))) else (
 some (y125, y126))
def F30 (fuel : Nat) (a2 : List Tree) (a3 : List Int) (a4 : List Int) (a5 : List (List Int)) (a6 : List Tree) (a7 : List Int) (a8 : List Int) (a9 : List (List Int)) (a10 : List Int) (a11 : List Int) (a13 : List Int) (a15 : List Int) (a16 : Int) (a17 : Int) : Option (List Int × List Int) :=
 F30_l20 fuel a2 a3 a4 a5 a6 a7 a8 a9 a10 a11 a16 a17 fuel a13 a15 (0 : Int)
theorem F30_ok {w0 : World} (hG : Globs w0) (fuel : Nat) : ∀ (a2 : List Tree) (a3 : List Int) (a4 : List Int) (a5 : List (List Int)) (a6 : List Tree) (a7 : List Int) (a8 : List Int) (a9 : List (List Int)) (a10 : List Int) (a11 : List Int) (a13 : List Int) (a15 : List Int) (a16 : Int) (a17 : Int) (b1 : Nat) (q12 : Hnd) (q14 : Hnd) {r : List Int × List Int} (e0 : F30 fuel a2 a3 a4 a5 a6 a7 a8 a9 a10 a11 a13 a15 a16 a17 = some r), Fn w0 prog 30 [sP b1 0, sI a16, sI a17] [bx5 b1 a2 a3 a4 a5 a6 a7 a8 a9 a10 a11 q12 q14, ownA (sl q12) 3 .int a13, ownA (sl q14) 3 .int a15] (fun s H => s = .tup [] ∧ H = [bx5 b1 a2 a3 a4 a5 a6 a7 a8 a9 a10 a11 q12 q14, ownA (sl q12) 3 .int r.1, ownA (sl q14) 3 .int r.2]) := by
 intro a2 a3 a4 a5 a6 a7 a8 a9 a10 a11 a13 a15 a16 a17 b1 q12 q14 r e0
 rw [F30] at e0
 refine fn_intro2 95 [] func30 rfl rfl rfl rfl fun X hX F => ?_
 refine C_turn (T_start [(0, sP b1 0),(1, sI a16),(2, sI a17)] rfl (bx5 b1 a2 a3 a4 a5 a6 a7 a8 a9 a10 a11 q12 q14 :: ownA (sl q12) 3 .int a13 :: ownA (sl q14) 3 .int a15 :: F) rfl) ?_
 refine gs ?_
 refine W rfl (O_box rfl rfl fun b18 => ?_)
 refine go ?_
 refine gs ?_
 refine W rfl (O_makeFunc (vs := []) (us := [.pointer (some ⟨b18, 0, none⟩)]) rfl rfl ?_)
 refine W rfl (O_makeFunc (vs := []) (us := [.pointer (some ⟨b18, 0, none⟩)]) rfl rfl ?_)
 refine W rfl (O_makeFunc (vs := []) (us := [.pointer (some ⟨b18, 0, none⟩)]) rfl rfl ?_)
 refine W rfl (A_build 84 8 .val [(.func (.func 43) #[] #[.pointer (some ⟨b18, 0, none⟩)]),(.func (.func 44) #[] #[.pointer (some ⟨b18, 0, none⟩)]),(.func (.func 45) #[] #[.pointer (some ⟨b18, 0, none⟩)])] (ss := [(0, .val ((.func (.func 43) #[] #[.pointer (some ⟨b18, 0, none⟩)]))),(1, .val ((.func (.func 44) #[] #[.pointer (some ⟨b18, 0, none⟩)]))),(2, .val ((.func (.func 45) #[] #[.pointer (some ⟨b18, 0, none⟩)])))]) tyE_85 tyZ_84 rfl rfl rfl rfl rfl rfl fun q19 => ?_)
 refine go ?_
 refine gs ?_
 refine W rfl (O_len_own (k := .val) tyl_85 rfl ?_)
 refine go ?_
 refine C_loopF (κ := (List Int × List Int × Int)) (fun d => [(1, sI a16),(2, sI a17),(3, sP b18 0),(17, .val (sl q19)),(18, sI (3 : Int)),(19, sI d.2.2)]) (fun d => bx5 b1 a2 a3 a4 a5 a6 a7 a8 a9 a10 a11 q12 q14 :: ownA (sl q12) 3 .int d.1 :: ownA (sl q14) 3 .int d.2.1 :: boxA b18 49 [sP b1 0] :: ownA (sl q19) 84 .val [(.func (.func 43) #[] #[.pointer (some ⟨b18, 0, none⟩)]),(.func (.func 44) #[] #[.pointer (some ⟨b18, 0, none⟩)]),(.func (.func 45) #[] #[.pointer (some ⟨b18, 0, none⟩)])] :: F) (fun n d => F30_l20 fuel a2 a3 a4 a5 a6 a7 a8 a9 a10 a11 a16 a17 n d.1 d.2.1 d.2.2) r fuel (a13, a15, (0 : Int)) e0 (tl [2, 2, 2, 1, 0] 0 rfl rfl) (fun _ => rfl) ?_
 rintro n ⟨y125, y126, y127⟩ hF
 have e0 : F30_l20 fuel a2 a3 a4 a5 a6 a7 a8 a9 a10 a11 a16 a17 (n + 1) y125 y126 y127 = some r := hF
 rw [F30_l20] at e0
 clear hF
 refine gs ?_
 refine C_seq ?_
 refine C_cd rfl e0 (fun e0 => ?_) (fun e0 => ?_)
 refine go ?_
 obtain ⟨o129,e1,e0⟩:=be e0
 refine C_cut (ι := (List Int × List Int)) (fun i => [(1, sI a16),(2, sI a17),(3, sP b18 0),(17, .val (sl q19)),(18, sI (3 : Int)),(19, sI y127)]) (fun i => bx5 b1 a2 a3 a4 a5 a6 a7 a8 a9 a10 a11 q12 q14 :: ownA (sl q12) 3 .int i.1 :: ownA (sl q14) 3 .int i.2 :: boxA b18 49 [sP b1 0] :: ownA (sl q19) 84 .val [(.func (.func 43) #[] #[.pointer (some ⟨b18, 0, none⟩)]),(.func (.func 44) #[] #[.pointer (some ⟨b18, 0, none⟩)]),(.func (.func 45) #[] #[.pointer (some ⟨b18, 0, none⟩)])] :: F) (fun i => o129 = .inl i) ?_ ?_
 refine go ?_
 refine gs ?_
 obtain ⟨h130, e1⟩ := req_e e1
 refine W rfl (O_indexAddr_own (k := .val) tyL_85 rfl rfl h130.1 (by exact vlt rfl h130.2) ?_)
 obtain ⟨hg131, e1⟩ | ⟨hg131, e1⟩ := bc e1
 refine W rfl (O_load_opt (k := .val) (i := 0) (j := 0) ty1_84 rfl (vix hg131) rfl rfl ?_)
 refine go ?_
 refine C_seq ?_
 refine C_draw2 [(0,pu),(1,fr),(2,fr),(3,fr),(4,pu),(5,fr),(6,fr),(7,fr),(8,pu),(9,fr),(10,fr),(11,pu),(13,pu),(14,fr),(15,fr),(16,fr),(17,pu),(18,fr),(19,fr),(20,fr),(21,pu),(22,fr),(23,fr),(24,pu),(12,mn),(25,mn),(26,fr),(27,fr)] [false, true, true, false, false] [ownA (sl q12) 3 .int y125, ownA (sl q14) 3 .int y126] (bx5 b1 a2 a3 a4 a5 a6 a7 a8 a9 a10 a11 q12 q14 :: boxA b18 49 [sP b1 0] :: ownA (sl q19) 84 .val [(.func (.func 43) #[] #[.pointer (some ⟨b18, 0, none⟩)]),(.func (.func 44) #[] #[.pointer (some ⟨b18, 0, none⟩)]),(.func (.func 45) #[] #[.pointer (some ⟨b18, 0, none⟩)])] :: F) rfl rfl rfl (by kernel_rfl) rfl ?_
 refine gd ?_
 obtain ⟨x132,w132,e1⟩:=be e1
 refine D_free rfl rfl (fun G => O_indexAddr (k := .ints) (z := x132) tyL_29 (lk rfl rfl) (lk rfl rfl) (idx_e w132).1 (idx_e w132).2 ⟨rfl, rfl⟩) ?_
 refine gd ?_
 obtain ⟨x133,w133,e1⟩:=be e1
 refine D_free rfl rfl (fun G => O_indexAddr (k := .ints) (z := x133) tyL_29 (lk rfl rfl) (lk rfl rfl) (idx_e w133).1 (idx_e w133).2 ⟨rfl, rfl⟩) ?_
 refine gd ?_
 obtain ⟨r134,hr134,e1⟩:=be e1
 refine D_main rfl (D_mainX rfl fun G => O_call0 (F := ownA (sl q14) 3 .int y126 :: ((bx5 b1 a2 a3 a4 a5 a6 a7 a8 a9 a10 a11 q12 q14 :: boxA b18 49 [sP b1 0] :: ownA (sl q19) 84 .val [(.func (.func 43) #[] #[.pointer (some ⟨b18, 0, none⟩)]),(.func (.func 44) #[] #[.pointer (some ⟨b18, 0, none⟩)]),(.func (.func 45) #[] #[.pointer (some ⟨b18, 0, none⟩)])] :: F) ++ G)) fn_46 rfl (F46_ok hG fuel x132 y125 q12 hr134) (sel_perm [0] _) (D_end ?_))
 obtain ⟨r135,hr135,e1⟩:=be e1
 refine D_main rfl (D_mainX rfl fun G => O_call0 (F := ownA (sl q12) 3 .int y125 :: ((bx5 b1 a2 a3 a4 a5 a6 a7 a8 a9 a10 a11 q12 q14 :: boxA b18 49 [sP b1 0] :: ownA (sl q19) 84 .val [(.func (.func 43) #[] #[.pointer (some ⟨b18, 0, none⟩)]),(.func (.func 44) #[] #[.pointer (some ⟨b18, 0, none⟩)]),(.func (.func 45) #[] #[.pointer (some ⟨b18, 0, none⟩)])] :: F) ++ G)) fn_46 rfl (F46_ok hG fuel x133 y126 q14 hr135) (sel_perm [1] _) (D_end ?_))
 refine gd ?_
 refine D_nil ?_
 refine C_seq ?_
 refine gs ?_
 obtain ⟨x136,w136,e1⟩:=be e1
 refine W rfl (O_arI rfl rfl rfl (ck_e w136).2 (W_re (congrArg sI (ck_e w136).1) ?_))
 refine go ?_
 refine C_cd rfl e1 (fun e1 => ?_) (fun e1 => ?_)
 refine go ?_
 obtain rfl := so e1
 obtain rfl := so e0
 refine go ?_
 exact rn [2, 1, 0] 2 ⟨rfl, rfl⟩ rfl
 refine go ?_
 refine gs ?_
 obtain ⟨r138,hr138,e1⟩:=be e1
 refine W rfl (O_call0 (F := ownA (sl q19) 84 .val [(.func (.func 43) #[] #[.pointer (some ⟨b18, 0, none⟩)]),(.func (.func 44) #[] #[.pointer (some ⟨b18, 0, none⟩)]),(.func (.func 45) #[] #[.pointer (some ⟨b18, 0, none⟩)])] :: F) fn_47 rfl (F47_ok hG fuel r134 r135 a2 a3 a4 a5 a6 a7 a8 a9 a10 a11 y125 y126 b18 b1 q12 q14 hr138) (sel_perm [3, 2, 1, 0] _) ?_)
 refine go ?_
 refine C_loopF (κ := (List Int × List Int × Int)) (fun d => [(1, sI a16),(2, sI a17),(3, sP b18 0),(17, .val (sl q19)),(18, sI (3 : Int)),(19, sI y127),(58, .isl .pair r138),(59, sI (r138.length : Int)),(60, sI d.2.2)]) (fun d => bx5 b1 a2 a3 a4 a5 a6 a7 a8 a9 a10 a11 q12 q14 :: ownA (sl q12) 3 .int d.1 :: ownA (sl q14) 3 .int d.2.1 :: boxA b18 49 [sP b1 0] :: ownA (sl q19) 84 .val [(.func (.func 43) #[] #[.pointer (some ⟨b18, 0, none⟩)]),(.func (.func 44) #[] #[.pointer (some ⟨b18, 0, none⟩)]),(.func (.func 45) #[] #[.pointer (some ⟨b18, 0, none⟩)])] :: F) (fun n d => F30_l139 fuel a2 a3 a4 a5 a6 a7 a8 a9 a10 a11 r138 n d.1 d.2.1 d.2.2) o129 fuel (y125, y126, (0 : Int)) e1 (tl [1, 1, 1, 0, 0] 0 rfl rfl) (fun _ => rfl) ?_
 rintro n ⟨y151, y152, y153⟩ hF
 have e1 : F30_l139 fuel a2 a3 a4 a5 a6 a7 a8 a9 a10 a11 r138 (n + 1) y151 y152 y153 = some o129 := hF
 rw [F30_l139] at e1
 clear hF
 refine gs ?_
 refine C_seq ?_
 refine C_cd rfl e1 (fun e1 => ?_) (fun e1 => ?_)
 refine go ?_
 obtain ⟨i155,e2,e1⟩:=be e1
 refine C_cut (ι := (List Int × List Int)) (fun i => [(1, sI a16),(2, sI a17),(3, sP b18 0),(17, .val (sl q19)),(18, sI (3 : Int)),(19, sI y127),(58, .isl .pair r138),(59, sI (r138.length : Int)),(60, sI y153)]) (fun i => bx5 b1 a2 a3 a4 a5 a6 a7 a8 a9 a10 a11 q12 q14 :: ownA (sl q12) 3 .int i.1 :: ownA (sl q14) 3 .int i.2 :: boxA b18 49 [sP b1 0] :: ownA (sl q19) 84 .val [(.func (.func 43) #[] #[.pointer (some ⟨b18, 0, none⟩)]),(.func (.func 44) #[] #[.pointer (some ⟨b18, 0, none⟩)]),(.func (.func 45) #[] #[.pointer (some ⟨b18, 0, none⟩)])] :: F) (fun i => i155 = i) ?_ ?_
 refine go ?_
 refine gs ?_
 obtain ⟨x156,w156,e2⟩:=be e2
 refine W rfl (O_indexAddr (k := .pair) (z := x156) tyL_25 rfl rfl (idx_e w156).1 (idx_e w156).2 ?_)
 refine W rfl (O_load_ipt_all (k := .pair) tyA_39 rfl ?_)
 refine W rfl (O_alloc tyZ_39 rfl fun b157 => ?_)
 refine Wn (S_any [sI x156.1, sI x156.2] tyS_39 rfl rfl rfl rfl (Nat.le_of_ble_eq_true rfl) rfl ?_)
 refine go ?_
 refine C_seq ?_
 refine C_draw2 [(0,pu),(1,fr),(2,fr),(3,pu),(4,fr),(5,pu),(6,fr),(7,fr),(8,pu),(9,fr),(10,fr),(11,pu),(12,fr),(13,pu),(14,fr),(15,fr),(16,fr)] [false, false, false, false, false, false] [] (boxA b157 39 [sI x156.1, sI x156.2] :: bx5 b1 a2 a3 a4 a5 a6 a7 a8 a9 a10 a11 q12 q14 :: ownA (sl q12) 3 .int y151 :: ownA (sl q14) 3 .int y152 :: boxA b18 49 [sP b1 0] :: ownA (sl q19) 84 .val [(.func (.func 43) #[] #[.pointer (some ⟨b18, 0, none⟩)]),(.func (.func 44) #[] #[.pointer (some ⟨b18, 0, none⟩)]),(.func (.func 45) #[] #[.pointer (some ⟨b18, 0, none⟩)])] :: F) rfl rfl rfl (by kernel_rfl) rfl ?_
 refine gd ?_
 refine D_free rfl rfl (fun G => O_arr_ptr 0 tyR_39 (lk rfl rfl) (lk rfl rfl) rfl ⟨rfl, rfl⟩) ?_
 refine gd ?_
 obtain ⟨x158,w158,e2⟩:=be e2
 refine D_free rfl rfl (fun G => O_indexAddr (k := .int) (z := x158) tyL_28 (lk rfl rfl) (lk rfl rfl) (idx_e w158).1 (idx_e w158).2 ⟨rfl, rfl⟩) ?_
 refine gd ?_
 refine D_free rfl rfl (fun G => O_arr_ptr 1 tyR_39 (lk rfl rfl) (lk rfl rfl) rfl ⟨rfl, rfl⟩) ?_
 refine gd ?_
 obtain ⟨x159,w159,e2⟩:=be e2
 refine D_free rfl rfl (fun G => O_indexAddr (k := .int) (z := x159) tyL_28 (lk rfl rfl) (lk rfl rfl) (idx_e w159).1 (idx_e w159).2 ⟨rfl, rfl⟩) ?_
 refine gd ?_
 refine D_nil ?_
 refine C_cd rfl e2 (fun e2 => ?_) (fun e2 => ?_)
 refine go ?_
 refine W rfl (O_arr_ptr 0 tyR_39 rfl rfl rfl ?_)
 refine go ?_
 refine W rfl (O_arr_ptr 1 tyR_39 rfl rfl rfl ?_)
 refine go ?_
 obtain ⟨r161,hr161,e2⟩:=be e2
 refine W rfl (O_call0 (F := boxA b157 39 [sI x156.1, sI x156.2] :: boxA b18 49 [sP b1 0] :: ownA (sl q19) 84 .val [(.func (.func 43) #[] #[.pointer (some ⟨b18, 0, none⟩)]),(.func (.func 44) #[] #[.pointer (some ⟨b18, 0, none⟩)]),(.func (.func 45) #[] #[.pointer (some ⟨b18, 0, none⟩)])] :: F) fn_26 rfl (F26_ok hG fuel a2 a3 a4 a5 a6 a7 a8 a9 a10 a11 y151 y152 x156.1 x156.2 b1 q12 q14 hr161) (sel_perm [1, 1, 1] _) ?_)
 refine go ?_
 exact jm e2 (tl [0, 0, 0, 1, 1] 1 rfl rfl)
 refine go ?_
 refine W rfl (O_arr_ptr 0 tyR_39 rfl rfl rfl ?_)
 refine go ?_
 refine W rfl (O_arr_ptr 1 tyR_39 rfl rfl rfl ?_)
 refine go ?_
 obtain ⟨r162,hr162,e2⟩:=be e2
 refine W rfl (O_call0 (F := boxA b157 39 [sI x156.1, sI x156.2] :: boxA b18 49 [sP b1 0] :: ownA (sl q19) 84 .val [(.func (.func 43) #[] #[.pointer (some ⟨b18, 0, none⟩)]),(.func (.func 44) #[] #[.pointer (some ⟨b18, 0, none⟩)]),(.func (.func 45) #[] #[.pointer (some ⟨b18, 0, none⟩)])] :: F) fn_27 rfl (F27_ok hG fuel a2 a3 a4 a5 a6 a7 a8 a9 a10 a11 y151 y152 x156.1 x156.2 b1 q12 q14 hr162) (sel_perm [1, 1, 1] _) ?_)
 refine go ?_
 exact jm e2 (tl [0, 0, 0, 1, 1] 1 rfl rfl)
 rintro z hi
 subst hi
 refine go ?_
 obtain ⟨x163,w163,e1⟩:=be e1
 refine W rfl (O_arI rfl rfl rfl (ck_e w163).2 (W_re (congrArg sI (ck_e w163).1) ?_))
 refine go ?_
 exact jmpL (i155.1, i155.2, x163) e1 (tl [0, 0, 0, 0, 0] 0 rfl rfl)
 refine go ?_
 obtain rfl := so e1
 exact jmp (y151, y152) rfl (tl [0, 0, 0, 0, 0] 0 rfl rfl)
 obtain ⟨hg164, e1⟩ | ⟨hg164, e1⟩ := bc e1
 refine W rfl (O_load_opt (k := .val) (i := 1) (j := 0) ty1_84 rfl (vix hg164) rfl rfl ?_)
 refine go ?_
 refine C_seq ?_
 refine C_draw2 [(0,pu),(1,fr),(2,fr),(3,fr),(4,pu),(5,fr),(6,fr),(7,fr),(8,pu),(9,fr),(10,fr),(11,pu),(13,pu),(14,fr),(15,fr),(16,fr),(17,pu),(18,fr),(19,fr),(20,fr),(21,pu),(22,fr),(23,fr),(24,pu),(12,mn),(25,mn),(26,fr),(27,fr)] [false, true, true, false, false] [ownA (sl q12) 3 .int y125, ownA (sl q14) 3 .int y126] (bx5 b1 a2 a3 a4 a5 a6 a7 a8 a9 a10 a11 q12 q14 :: boxA b18 49 [sP b1 0] :: ownA (sl q19) 84 .val [(.func (.func 43) #[] #[.pointer (some ⟨b18, 0, none⟩)]),(.func (.func 44) #[] #[.pointer (some ⟨b18, 0, none⟩)]),(.func (.func 45) #[] #[.pointer (some ⟨b18, 0, none⟩)])] :: F) rfl rfl rfl (by kernel_rfl) rfl ?_
 refine gd ?_
 obtain ⟨x165,w165,e1⟩:=be e1
 refine D_free rfl rfl (fun G => O_indexAddr (k := .ints) (z := x165) tyL_29 (lk rfl rfl) (lk rfl rfl) (idx_e w165).1 (idx_e w165).2 ⟨rfl, rfl⟩) ?_
 refine gd ?_
 obtain ⟨x166,w166,e1⟩:=be e1
 refine D_free rfl rfl (fun G => O_indexAddr (k := .ints) (z := x166) tyL_29 (lk rfl rfl) (lk rfl rfl) (idx_e w166).1 (idx_e w166).2 ⟨rfl, rfl⟩) ?_
 refine gd ?_
 obtain ⟨r167,hr167,e1⟩:=be e1
 refine D_main rfl (D_mainX rfl fun G => O_call0 (F := ownA (sl q14) 3 .int y126 :: ((bx5 b1 a2 a3 a4 a5 a6 a7 a8 a9 a10 a11 q12 q14 :: boxA b18 49 [sP b1 0] :: ownA (sl q19) 84 .val [(.func (.func 43) #[] #[.pointer (some ⟨b18, 0, none⟩)]),(.func (.func 44) #[] #[.pointer (some ⟨b18, 0, none⟩)]),(.func (.func 45) #[] #[.pointer (some ⟨b18, 0, none⟩)])] :: F) ++ G)) fn_46 rfl (F46_ok hG fuel x165 y125 q12 hr167) (sel_perm [0] _) (D_end ?_))
 obtain ⟨r168,hr168,e1⟩:=be e1
 refine D_main rfl (D_mainX rfl fun G => O_call0 (F := ownA (sl q12) 3 .int y125 :: ((bx5 b1 a2 a3 a4 a5 a6 a7 a8 a9 a10 a11 q12 q14 :: boxA b18 49 [sP b1 0] :: ownA (sl q19) 84 .val [(.func (.func 43) #[] #[.pointer (some ⟨b18, 0, none⟩)]),(.func (.func 44) #[] #[.pointer (some ⟨b18, 0, none⟩)]),(.func (.func 45) #[] #[.pointer (some ⟨b18, 0, none⟩)])] :: F) ++ G)) fn_46 rfl (F46_ok hG fuel x166 y126 q14 hr168) (sel_perm [1] _) (D_end ?_))
 refine gd ?_
 refine D_nil ?_
 refine C_seq ?_
 refine gs ?_
 obtain ⟨x169,w169,e1⟩:=be e1
 refine W rfl (O_arI rfl rfl rfl (ck_e w169).2 (W_re (congrArg sI (ck_e w169).1) ?_))
 refine go ?_
 refine C_cd rfl e1 (fun e1 => ?_) (fun e1 => ?_)
 refine go ?_
 obtain rfl := so e1
 obtain rfl := so e0
 refine go ?_
 exact rn [2, 1, 0] 2 ⟨rfl, rfl⟩ rfl
 refine go ?_
 refine gs ?_
 obtain ⟨r171,hr171,e1⟩:=be e1
 refine W rfl (O_call0 (F := ownA (sl q19) 84 .val [(.func (.func 43) #[] #[.pointer (some ⟨b18, 0, none⟩)]),(.func (.func 44) #[] #[.pointer (some ⟨b18, 0, none⟩)]),(.func (.func 45) #[] #[.pointer (some ⟨b18, 0, none⟩)])] :: F) fn_47 rfl (F47v1_ok hG fuel r167 r168 a2 a3 a4 a5 a6 a7 a8 a9 a10 a11 y125 y126 b18 b1 q12 q14 hr171) (sel_perm [3, 2, 1, 0] _) ?_)
 refine go ?_
 refine C_loopF (κ := (List Int × List Int × Int)) (fun d => [(1, sI a16),(2, sI a17),(3, sP b18 0),(17, .val (sl q19)),(18, sI (3 : Int)),(19, sI y127),(58, .isl .pair r171),(59, sI (r171.length : Int)),(60, sI d.2.2)]) (fun d => bx5 b1 a2 a3 a4 a5 a6 a7 a8 a9 a10 a11 q12 q14 :: ownA (sl q12) 3 .int d.1 :: ownA (sl q14) 3 .int d.2.1 :: boxA b18 49 [sP b1 0] :: ownA (sl q19) 84 .val [(.func (.func 43) #[] #[.pointer (some ⟨b18, 0, none⟩)]),(.func (.func 44) #[] #[.pointer (some ⟨b18, 0, none⟩)]),(.func (.func 45) #[] #[.pointer (some ⟨b18, 0, none⟩)])] :: F) (fun n d => F30_l172 fuel a2 a3 a4 a5 a6 a7 a8 a9 a10 a11 r171 n d.1 d.2.1 d.2.2) o129 fuel (y125, y126, (0 : Int)) e1 (tl [1, 1, 1, 0, 0] 0 rfl rfl) (fun _ => rfl) ?_
 rintro n ⟨y184, y185, y186⟩ hF
 have e1 : F30_l172 fuel a2 a3 a4 a5 a6 a7 a8 a9 a10 a11 r171 (n + 1) y184 y185 y186 = some o129 := hF
 rw [F30_l172] at e1
 clear hF
 refine gs ?_
 refine C_seq ?_
 refine C_cd rfl e1 (fun e1 => ?_) (fun e1 => ?_)
 refine go ?_
 obtain ⟨i188,e2,e1⟩:=be e1
 refine C_cut (ι := (List Int × List Int)) (fun i => [(1, sI a16),(2, sI a17),(3, sP b18 0),(17, .val (sl q19)),(18, sI (3 : Int)),(19, sI y127),(58, .isl .pair r171),(59, sI (r171.length : Int)),(60, sI y186)]) (fun i => bx5 b1 a2 a3 a4 a5 a6 a7 a8 a9 a10 a11 q12 q14 :: ownA (sl q12) 3 .int i.1 :: ownA (sl q14) 3 .int i.2 :: boxA b18 49 [sP b1 0] :: ownA (sl q19) 84 .val [(.func (.func 43) #[] #[.pointer (some ⟨b18, 0, none⟩)]),(.func (.func 44) #[] #[.pointer (some ⟨b18, 0, none⟩)]),(.func (.func 45) #[] #[.pointer (some ⟨b18, 0, none⟩)])] :: F) (fun i => i188 = i) ?_ ?_
 refine go ?_
 refine gs ?_
 obtain ⟨x189,w189,e2⟩:=be e2
 refine W rfl (O_indexAddr (k := .pair) (z := x189) tyL_25 rfl rfl (idx_e w189).1 (idx_e w189).2 ?_)
 refine W rfl (O_load_ipt_all (k := .pair) tyA_39 rfl ?_)
 refine W rfl (O_alloc tyZ_39 rfl fun b190 => ?_)
 refine Wn (S_any [sI x189.1, sI x189.2] tyS_39 rfl rfl rfl rfl (Nat.le_of_ble_eq_true rfl) rfl ?_)
 refine go ?_
 refine C_seq ?_
 refine C_draw2 [(0,pu),(1,fr),(2,fr),(3,pu),(4,fr),(5,pu),(6,fr),(7,fr),(8,pu),(9,fr),(10,fr),(11,pu),(12,fr),(13,pu),(14,fr),(15,fr),(16,fr)] [false, false, false, false, false, false] [] (boxA b190 39 [sI x189.1, sI x189.2] :: bx5 b1 a2 a3 a4 a5 a6 a7 a8 a9 a10 a11 q12 q14 :: ownA (sl q12) 3 .int y184 :: ownA (sl q14) 3 .int y185 :: boxA b18 49 [sP b1 0] :: ownA (sl q19) 84 .val [(.func (.func 43) #[] #[.pointer (some ⟨b18, 0, none⟩)]),(.func (.func 44) #[] #[.pointer (some ⟨b18, 0, none⟩)]),(.func (.func 45) #[] #[.pointer (some ⟨b18, 0, none⟩)])] :: F) rfl rfl rfl (by kernel_rfl) rfl ?_
 refine gd ?_
 refine D_free rfl rfl (fun G => O_arr_ptr 0 tyR_39 (lk rfl rfl) (lk rfl rfl) rfl ⟨rfl, rfl⟩) ?_
 refine gd ?_
 obtain ⟨x191,w191,e2⟩:=be e2
 refine D_free rfl rfl (fun G => O_indexAddr (k := .int) (z := x191) tyL_28 (lk rfl rfl) (lk rfl rfl) (idx_e w191).1 (idx_e w191).2 ⟨rfl, rfl⟩) ?_
 refine gd ?_
 refine D_free rfl rfl (fun G => O_arr_ptr 1 tyR_39 (lk rfl rfl) (lk rfl rfl) rfl ⟨rfl, rfl⟩) ?_
 refine gd ?_
 obtain ⟨x192,w192,e2⟩:=be e2
 refine D_free rfl rfl (fun G => O_indexAddr (k := .int) (z := x192) tyL_28 (lk rfl rfl) (lk rfl rfl) (idx_e w192).1 (idx_e w192).2 ⟨rfl, rfl⟩) ?_
 refine gd ?_
 refine D_nil ?_
 refine C_cd rfl e2 (fun e2 => ?_) (fun e2 => ?_)
 refine go ?_
 refine W rfl (O_arr_ptr 0 tyR_39 rfl rfl rfl ?_)
 refine go ?_
 refine W rfl (O_arr_ptr 1 tyR_39 rfl rfl rfl ?_)
 refine go ?_
 obtain ⟨r194,hr194,e2⟩:=be e2
 refine W rfl (O_call0 (F := boxA b190 39 [sI x189.1, sI x189.2] :: boxA b18 49 [sP b1 0] :: ownA (sl q19) 84 .val [(.func (.func 43) #[] #[.pointer (some ⟨b18, 0, none⟩)]),(.func (.func 44) #[] #[.pointer (some ⟨b18, 0, none⟩)]),(.func (.func 45) #[] #[.pointer (some ⟨b18, 0, none⟩)])] :: F) fn_26 rfl (F26_ok hG fuel a2 a3 a4 a5 a6 a7 a8 a9 a10 a11 y184 y185 x189.1 x189.2 b1 q12 q14 hr194) (sel_perm [1, 1, 1] _) ?_)
 refine go ?_
 exact jm e2 (tl [0, 0, 0, 1, 1] 1 rfl rfl)
 refine go ?_
 refine W rfl (O_arr_ptr 0 tyR_39 rfl rfl rfl ?_)
 refine go ?_
 refine W rfl (O_arr_ptr 1 tyR_39 rfl rfl rfl ?_)
 refine go ?_
 obtain ⟨r195,hr195,e2⟩:=be e2
 refine W rfl (O_call0 (F := boxA b190 39 [sI x189.1, sI x189.2] :: boxA b18 49 [sP b1 0] :: ownA (sl q19) 84 .val [(.func (.func 43) #[] #[.pointer (some ⟨b18, 0, none⟩)]),(.func (.func 44) #[] #[.pointer (some ⟨b18, 0, none⟩)]),(.func (.func 45) #[] #[.pointer (some ⟨b18, 0, none⟩)])] :: F) fn_27 rfl (F27_ok hG fuel a2 a3 a4 a5 a6 a7 a8 a9 a10 a11 y184 y185 x189.1 x189.2 b1 q12 q14 hr195) (sel_perm [1, 1, 1] _) ?_)
 refine go ?_
 exact jm e2 (tl [0, 0, 0, 1, 1] 1 rfl rfl)
 rintro z hi
 subst hi
 refine go ?_
 obtain ⟨x196,w196,e1⟩:=be e1
 refine W rfl (O_arI rfl rfl rfl (ck_e w196).2 (W_re (congrArg sI (ck_e w196).1) ?_))
 refine go ?_
 exact jmpL (i188.1, i188.2, x196) e1 (tl [0, 0, 0, 0, 0] 0 rfl rfl)
 refine go ?_
 obtain rfl := so e1
 exact jmp (y184, y185) rfl (tl [0, 0, 0, 0, 0] 0 rfl rfl)
 obtain ⟨hg197, e1⟩ | ⟨hg197, e1⟩ := bc e1
 refine W rfl (O_load_opt (k := .val) (i := 2) (j := 0) ty1_84 rfl (vix hg197) rfl rfl ?_)
 refine go ?_
 refine C_seq ?_
 refine C_draw2 [(0,pu),(1,fr),(2,fr),(3,fr),(4,pu),(5,fr),(6,fr),(7,fr),(8,pu),(9,fr),(10,fr),(11,pu),(13,pu),(14,fr),(15,fr),(16,fr),(17,pu),(18,fr),(19,fr),(20,fr),(21,pu),(22,fr),(23,fr),(24,pu),(12,mn),(25,mn),(26,fr),(27,fr)] [false, true, true, false, false] [ownA (sl q12) 3 .int y125, ownA (sl q14) 3 .int y126] (bx5 b1 a2 a3 a4 a5 a6 a7 a8 a9 a10 a11 q12 q14 :: boxA b18 49 [sP b1 0] :: ownA (sl q19) 84 .val [(.func (.func 43) #[] #[.pointer (some ⟨b18, 0, none⟩)]),(.func (.func 44) #[] #[.pointer (some ⟨b18, 0, none⟩)]),(.func (.func 45) #[] #[.pointer (some ⟨b18, 0, none⟩)])] :: F) rfl rfl rfl (by kernel_rfl) rfl ?_
 refine gd ?_
 obtain ⟨x198,w198,e1⟩:=be e1
 refine D_free rfl rfl (fun G => O_indexAddr (k := .ints) (z := x198) tyL_29 (lk rfl rfl) (lk rfl rfl) (idx_e w198).1 (idx_e w198).2 ⟨rfl, rfl⟩) ?_
 refine gd ?_
 obtain ⟨x199,w199,e1⟩:=be e1
 refine D_free rfl rfl (fun G => O_indexAddr (k := .ints) (z := x199) tyL_29 (lk rfl rfl) (lk rfl rfl) (idx_e w199).1 (idx_e w199).2 ⟨rfl, rfl⟩) ?_
 refine gd ?_
 obtain ⟨r200,hr200,e1⟩:=be e1
 refine D_main rfl (D_mainX rfl fun G => O_call0 (F := ownA (sl q14) 3 .int y126 :: ((bx5 b1 a2 a3 a4 a5 a6 a7 a8 a9 a10 a11 q12 q14 :: boxA b18 49 [sP b1 0] :: ownA (sl q19) 84 .val [(.func (.func 43) #[] #[.pointer (some ⟨b18, 0, none⟩)]),(.func (.func 44) #[] #[.pointer (some ⟨b18, 0, none⟩)]),(.func (.func 45) #[] #[.pointer (some ⟨b18, 0, none⟩)])] :: F) ++ G)) fn_46 rfl (F46_ok hG fuel x198 y125 q12 hr200) (sel_perm [0] _) (D_end ?_))
 obtain ⟨r201,hr201,e1⟩:=be e1
 refine D_main rfl (D_mainX rfl fun G => O_call0 (F := ownA (sl q12) 3 .int y125 :: ((bx5 b1 a2 a3 a4 a5 a6 a7 a8 a9 a10 a11 q12 q14 :: boxA b18 49 [sP b1 0] :: ownA (sl q19) 84 .val [(.func (.func 43) #[] #[.pointer (some ⟨b18, 0, none⟩)]),(.func (.func 44) #[] #[.pointer (some ⟨b18, 0, none⟩)]),(.func (.func 45) #[] #[.pointer (some ⟨b18, 0, none⟩)])] :: F) ++ G)) fn_46 rfl (F46_ok hG fuel x199 y126 q14 hr201) (sel_perm [1] _) (D_end ?_))
 refine gd ?_
 refine D_nil ?_
 refine C_seq ?_
 refine gs ?_
 obtain ⟨x202,w202,e1⟩:=be e1
 refine W rfl (O_arI rfl rfl rfl (ck_e w202).2 (W_re (congrArg sI (ck_e w202).1) ?_))
 refine go ?_
 refine C_cd rfl e1 (fun e1 => ?_) (fun e1 => ?_)
 refine go ?_
 obtain rfl := so e1
 obtain rfl := so e0
 refine go ?_
 exact rn [2, 1, 0] 2 ⟨rfl, rfl⟩ rfl
 refine go ?_
 refine gs ?_
 obtain ⟨r204,hr204,e1⟩:=be e1
 refine W rfl (O_call0 (F := ownA (sl q19) 84 .val [(.func (.func 43) #[] #[.pointer (some ⟨b18, 0, none⟩)]),(.func (.func 44) #[] #[.pointer (some ⟨b18, 0, none⟩)]),(.func (.func 45) #[] #[.pointer (some ⟨b18, 0, none⟩)])] :: F) fn_47 rfl (F47v2_ok hG fuel r200 r201 a2 a3 a4 a5 a6 a7 a8 a9 a10 a11 y125 y126 b18 b1 q12 q14 hr204) (sel_perm [3, 2, 1, 0] _) ?_)
 refine go ?_
 refine C_loopF (κ := (List Int × List Int × Int)) (fun d => [(1, sI a16),(2, sI a17),(3, sP b18 0),(17, .val (sl q19)),(18, sI (3 : Int)),(19, sI y127),(58, .isl .pair r204),(59, sI (r204.length : Int)),(60, sI d.2.2)]) (fun d => bx5 b1 a2 a3 a4 a5 a6 a7 a8 a9 a10 a11 q12 q14 :: ownA (sl q12) 3 .int d.1 :: ownA (sl q14) 3 .int d.2.1 :: boxA b18 49 [sP b1 0] :: ownA (sl q19) 84 .val [(.func (.func 43) #[] #[.pointer (some ⟨b18, 0, none⟩)]),(.func (.func 44) #[] #[.pointer (some ⟨b18, 0, none⟩)]),(.func (.func 45) #[] #[.pointer (some ⟨b18, 0, none⟩)])] :: F) (fun n d => F30_l205 fuel a2 a3 a4 a5 a6 a7 a8 a9 a10 a11 r204 n d.1 d.2.1 d.2.2) o129 fuel (y125, y126, (0 : Int)) e1 (tl [1, 1, 1, 0, 0] 0 rfl rfl) (fun _ => rfl) ?_
 rintro n ⟨y217, y218, y219⟩ hF
 have e1 : F30_l205 fuel a2 a3 a4 a5 a6 a7 a8 a9 a10 a11 r204 (n + 1) y217 y218 y219 = some o129 := hF
 rw [F30_l205] at e1
 clear hF
 refine gs ?_
 refine C_seq ?_
 refine C_cd rfl e1 (fun e1 => ?_) (fun e1 => ?_)
 refine go ?_
 obtain ⟨i221,e2,e1⟩:=be e1
 refine C_cut (ι := (List Int × List Int)) (fun i => [(1, sI a16),(2, sI a17),(3, sP b18 0),(17, .val (sl q19)),(18, sI (3 : Int)),(19, sI y127),(58, .isl .pair r204),(59, sI (r204.length : Int)),(60, sI y219)]) (fun i => bx5 b1 a2 a3 a4 a5 a6 a7 a8 a9 a10 a11 q12 q14 :: ownA (sl q12) 3 .int i.1 :: ownA (sl q14) 3 .int i.2 :: boxA b18 49 [sP b1 0] :: ownA (sl q19) 84 .val [(.func (.func 43) #[] #[.pointer (some ⟨b18, 0, none⟩)]),(.func (.func 44) #[] #[.pointer (some ⟨b18, 0, none⟩)]),(.func (.func 45) #[] #[.pointer (some ⟨b18, 0, none⟩)])] :: F) (fun i => i221 = i) ?_ ?_
 refine go ?_
 refine gs ?_
 obtain ⟨x222,w222,e2⟩:=be e2
 refine W rfl (O_indexAddr (k := .pair) (z := x222) tyL_25 rfl rfl (idx_e w222).1 (idx_e w222).2 ?_)
 refine W rfl (O_load_ipt_all (k := .pair) tyA_39 rfl ?_)
 refine W rfl (O_alloc tyZ_39 rfl fun b223 => ?_)
 refine Wn (S_any [sI x222.1, sI x222.2] tyS_39 rfl rfl rfl rfl (Nat.le_of_ble_eq_true rfl) rfl ?_)
 refine go ?_
 refine C_seq ?_
 refine C_draw2 [(0,pu),(1,fr),(2,fr),(3,pu),(4,fr),(5,pu),(6,fr),(7,fr),(8,pu),(9,fr),(10,fr),(11,pu),(12,fr),(13,pu),(14,fr),(15,fr),(16,fr)] [false, false, false, false, false, false] [] (boxA b223 39 [sI x222.1, sI x222.2] :: bx5 b1 a2 a3 a4 a5 a6 a7 a8 a9 a10 a11 q12 q14 :: ownA (sl q12) 3 .int y217 :: ownA (sl q14) 3 .int y218 :: boxA b18 49 [sP b1 0] :: ownA (sl q19) 84 .val [(.func (.func 43) #[] #[.pointer (some ⟨b18, 0, none⟩)]),(.func (.func 44) #[] #[.pointer (some ⟨b18, 0, none⟩)]),(.func (.func 45) #[] #[.pointer (some ⟨b18, 0, none⟩)])] :: F) rfl rfl rfl (by kernel_rfl) rfl ?_
 refine gd ?_
 refine D_free rfl rfl (fun G => O_arr_ptr 0 tyR_39 (lk rfl rfl) (lk rfl rfl) rfl ⟨rfl, rfl⟩) ?_
 refine gd ?_
 obtain ⟨x224,w224,e2⟩:=be e2
 refine D_free rfl rfl (fun G => O_indexAddr (k := .int) (z := x224) tyL_28 (lk rfl rfl) (lk rfl rfl) (idx_e w224).1 (idx_e w224).2 ⟨rfl, rfl⟩) ?_
 refine gd ?_
 refine D_free rfl rfl (fun G => O_arr_ptr 1 tyR_39 (lk rfl rfl) (lk rfl rfl) rfl ⟨rfl, rfl⟩) ?_
 refine gd ?_
 obtain ⟨x225,w225,e2⟩:=be e2
 refine D_free rfl rfl (fun G => O_indexAddr (k := .int) (z := x225) tyL_28 (lk rfl rfl) (lk rfl rfl) (idx_e w225).1 (idx_e w225).2 ⟨rfl, rfl⟩) ?_
 refine gd ?_
 refine D_nil ?_
 refine C_cd rfl e2 (fun e2 => ?_) (fun e2 => ?_)
 refine go ?_
 refine W rfl (O_arr_ptr 0 tyR_39 rfl rfl rfl ?_)
 refine go ?_
 refine W rfl (O_arr_ptr 1 tyR_39 rfl rfl rfl ?_)
 refine go ?_
 obtain ⟨r227,hr227,e2⟩:=be e2
 refine W rfl (O_call0 (F := boxA b223 39 [sI x222.1, sI x222.2] :: boxA b18 49 [sP b1 0] :: ownA (sl q19) 84 .val [(.func (.func 43) #[] #[.pointer (some ⟨b18, 0, none⟩)]),(.func (.func 44) #[] #[.pointer (some ⟨b18, 0, none⟩)]),(.func (.func 45) #[] #[.pointer (some ⟨b18, 0, none⟩)])] :: F) fn_26 rfl (F26_ok hG fuel a2 a3 a4 a5 a6 a7 a8 a9 a10 a11 y217 y218 x222.1 x222.2 b1 q12 q14 hr227) (sel_perm [1, 1, 1] _) ?_)
 refine go ?_
 exact jm e2 (tl [0, 0, 0, 1, 1] 1 rfl rfl)
 refine go ?_
 refine W rfl (O_arr_ptr 0 tyR_39 rfl rfl rfl ?_)
 refine go ?_
 refine W rfl (O_arr_ptr 1 tyR_39 rfl rfl rfl ?_)
 refine go ?_
 obtain ⟨r228,hr228,e2⟩:=be e2
 refine W rfl (O_call0 (F := boxA b223 39 [sI x222.1, sI x222.2] :: boxA b18 49 [sP b1 0] :: ownA (sl q19) 84 .val [(.func (.func 43) #[] #[.pointer (some ⟨b18, 0, none⟩)]),(.func (.func 44) #[] #[.pointer (some ⟨b18, 0, none⟩)]),(.func (.func 45) #[] #[.pointer (some ⟨b18, 0, none⟩)])] :: F) fn_27 rfl (F27_ok hG fuel a2 a3 a4 a5 a6 a7 a8 a9 a10 a11 y217 y218 x222.1 x222.2 b1 q12 q14 hr228) (sel_perm [1, 1, 1] _) ?_)
 refine go ?_
 exact jm e2 (tl [0, 0, 0, 1, 1] 1 rfl rfl)
 rintro z hi
 subst hi
 refine go ?_
 obtain ⟨x229,w229,e1⟩:=be e1
 refine W rfl (O_arI rfl rfl rfl (ck_e w229).2 (W_re (congrArg sI (ck_e w229).1) ?_))
 refine go ?_
 exact jmpL (i221.1, i221.2, x229) e1 (tl [0, 0, 0, 0, 0] 0 rfl rfl)
 refine go ?_
 obtain rfl := so e1
 exact jmp (y217, y218) rfl (tl [0, 0, 0, 0, 0] 0 rfl rfl)
 cases e1
 rintro i129 hi
 subst hi
 have e0 := elim_l e0
 refine go ?_
 obtain ⟨x230,w230,e0⟩:=be e0
 refine W rfl (O_arI rfl rfl rfl (ck_e w230).2 (W_re (congrArg sI (ck_e w230).1) ?_))
 refine go ?_
 exact jmpL (i129.1, i129.2, x230) e0 (tl [0, 0, 0, 0, 0] 0 rfl rfl)
 refine go ?_
 obtain rfl := so e0
 refine go ?_
 exact rn' [0, 0, 0] 2 ⟨rfl, rfl⟩ rfl
def F48_l11 (fuel : Nat) (a3 : List Int) (a5 : List Int) (a7 : List Int) : Nat → (List (Int × Int)) → Int → Option ((List (Int × Int)))
 | 0, _, _ => none
 | n + 1, y23, y24 =>
 bif (decide (y24 < (a5.length : Int))) then (
 Option.bind (α := (List (Int × Int))) (
 (idx a5 y24).bind fun x27 =>
 Option.bind (α := Bool) (
 (idx a3 y24).bind fun x29 =>
 bif (decide (x29 < (4 : Int))) then (
 some true) else (
 (idx a7 y24).bind fun x31 =>
 some (decide (x31 ≥ (0 : Int))))) fun i28 =>
 bif i28 then (
 some y23) else (
 bif (mget y23 x27).isSome then (
 some (mput y23 x27 (-1 : Int))) else (
 some (mput y23 x27 y24)))) fun i26 =>
 (ck (y24 + (1 : Int))).bind fun x34 =>
 F48_l11 fuel a3 a5 a7 n i26 x34) else (
 some y23)
def F48 (fuel : Nat) (a1 : List Tree) (a2 : List Int) (a3 : List Int) (a4 : List (List Int)) (a5 : List Int) (a7 : List Int) : Option ((List (Int × Int))) :=
 Option.bind (α := (List (Int × Int))) (
 F48_l11 fuel a3 a5 a7 fuel [] (0 : Int)) fun i10 =>
 some i10
theorem F48_ok {w0 : World} (hG : Globs w0) (fuel : Nat) : ∀ (a1 : List Tree) (a2 : List Int) (a3 : List Int) (a4 : List (List Int)) (a5 : List Int) (a7 : List Int) (q6 : Hnd) {r : (List (Int × Int))} (e0 : F48 fuel a1 a2 a3 a4 a5 a7 = some r), Fn w0 prog 48 [.agg [.isl .node a1, .isl .int a2, .isl .int a3, .isl .ints a4], .isl .int a5, .val (sl q6)] [ownA (sl q6) 3 .int a7] (fun s H => ∃ k0 : Nat, s = .val (.map (some k0)) ∧ H = [ownA (sl q6) 3 .int a7, mapA k0 (fun n : Int => Value.int .i64 n) (fun n : Int => Value.int .i64 n) r]) := by
 intro a1 a2 a3 a4 a5 a7 q6 r e0
 rw [F48] at e0
 refine fn_intro2 47 [.tmp 6] func48 rfl rfl rfl rfl fun X hX F => ?_
 refine C_turn (T_start [(0, .agg [.isl .node a1, .isl .int a2, .isl .int a3, .isl .ints a4]), (1, .isl .int a5), (2, .val (sl q6))] rfl (ownA (sl q6) 3 .int a7 :: F) rfl) ?_
 refine gs ?_
 refine W rfl (O_box rfl rfl fun b8 => ?_)
 refine go ?_
 refine gs ?_
 refine W rfl (O_makeMap (fun n : Int => Value.int .i64 n) (fun n : Int => Value.int .i64 n) fun b9 => ?_)
 refine go ?_
 obtain ⟨i10,e1,e0⟩:=be e0
 refine C_cut (ι := ((List (Int × Int)))) (fun i => [(7, .val (.map (some b9)))]) (fun i => ownA (sl q6) 3 .int a7 :: mapA b9 (fun n : Int => Value.int .i64 n) (fun n : Int => Value.int .i64 n) i :: F) (fun i => i10 = i) ?_ ?_
 refine gs ?_
 refine C_loopF (κ := ((List (Int × Int)) × Int)) (fun d => [(2, .val (sl q6)), (3, sP b8 0), (7, .val (.map (some b9))), (13, .isl .int a5), (14, sI (a5.length : Int)), (15, sI d.2)]) (fun d => ownA (sl q6) 3 .int a7 :: bx4 b8 a1 a2 a3 a4 :: mapA b9 (fun n : Int => Value.int .i64 n) (fun n : Int => Value.int .i64 n) d.1 :: F) (fun n d => F48_l11 fuel a3 a5 a7 n d.1 d.2) i10 fuel ([], (0 : Int)) e1 (tl [2, 1, 0] 0 rfl rfl) (fun _ => rfl) ?_
 rintro n ⟨y23, y24⟩ hF
 have e1 : F48_l11 fuel a3 a5 a7 (n + 1) y23 y24 = some i10 := hF
 rw [F48_l11] at e1
 clear hF
 refine gs ?_
 refine C_seq ?_
 refine C_cd rfl e1 (fun e1 => ?_) (fun e1 => ?_)
 refine go ?_
 obtain ⟨i26,e2,e1⟩:=be e1
 refine C_cut (ι := ((List (Int × Int)))) (fun i => [(2, .val (sl q6)), (3, sP b8 0), (7, .val (.map (some b9))), (13, .isl .int a5), (14, sI (a5.length : Int)), (15, sI y24)]) (fun i => ownA (sl q6) 3 .int a7 :: bx4 b8 a1 a2 a3 a4 :: mapA b9 (fun n : Int => Value.int .i64 n) (fun n : Int => Value.int .i64 n) i :: F) (fun i => i26 = i) ?_ ?_
 refine go ?_
 refine gs ?_
 obtain ⟨x27,w27,e2⟩:=be e2
 refine W rfl (O_indexAddr (k := .int) (z := x27) tyL_28 rfl rfl (idx_e w27).1 (idx_e w27).2 ?_)
 refine go ?_
 refine C_seq ?_
 obtain ⟨i28,e3,e2⟩:=be e2
 refine C_cut (ι := Bool) (fun i => [(2, .val (sl q6)), (3, sP b8 0), (7, .val (.map (some b9))), (8, sI y24), (9, sI x27), (13, .isl .int a5), (14, sI (a5.length : Int)), (15, sI y24), (32, sB i)]) (fun i => ownA (sl q6) 3 .int a7 :: bx4 b8 a1 a2 a3 a4 :: mapA b9 (fun n : Int => Value.int .i64 n) (fun n : Int => Value.int .i64 n) y23 :: F) (fun i => i28 = i) ?_ ?_
 refine go ?_
 obtain ⟨x29,w29,e3⟩:=be e3
 refine W rfl (O_indexAddr (k := .int) (z := x29) tyL_28 rfl rfl (idx_e w29).1 (idx_e w29).2 ?_)
 refine go ?_
 obtain ⟨hg30, e3⟩ | ⟨hg30, e3⟩ := bc e3
 refine go ?_
 exact jm e3 (tl [0, 0, 0] 0 rfl rfl)
 refine Wt rfl rfl rfl hg30 rfl rfl (O_move rfl ?_)
 refine Wt rfl rfl rfl hg30 rfl rfl (O_move rfl ?_)
 obtain ⟨x31,w31,e3⟩:=be e3
 refine Wt rfl rfl rfl hg30 rfl rfl (O_indexAddr_own (k := .int) tyL_28 rfl rfl (idx_lt w31).1 (idx_lt w31).2 ?_)
 refine Wt rfl rfl rfl hg30 rfl rfl (O_load_opt (k := .int) (i := (y24).toNat) (j := 0) ty1_3 rfl rfl (idx_e w31).2 rfl ?_)
 refine Wt rfl rfl rfl hg30 rfl rfl (O_cmp rfl rfl rfl ?_)
 refine go ?_
 exact jm e3 (tl [0, 0, 0] 0 rfl rfl)
 rintro z hi
 subst hi
 refine C_cd rfl e2 (fun e2 => ?_) (fun e2 => ?_)
 refine go ?_
 exact jm e2 (tl [0, 0, 0] 0 rfl rfl)
 refine go ?_
 refine gs ?_
 refine W rfl (O_lookup (k := x27) (0 : Int) (key_int tyU_3) tyM_74 tyN_3 rfl rfl sk_val ?_)
 refine go ?_
 refine gs ?_
 refine C_cd rfl e2 (fun e2 => ?_) (fun e2 => ?_)
 refine go ?_
 refine Wn (O_mapUpdate (k := x27) (u := (-1 : Int)) (key_int tyU_3) tyM_74 rfl rfl rfl sk_val sk_val ?_)
 refine go ?_
 exact jm e2 (tl [0, 0, 0] 0 rfl rfl)
 refine go ?_
 refine Wn (O_mapUpdate (k := x27) (u := y24) (key_int tyU_3) tyM_74 rfl rfl rfl sk_val sk_val ?_)
 refine go ?_
 exact jm e2 (tl [0, 0, 0] 0 rfl rfl)
 rintro z hi
 subst hi
 refine go ?_
 obtain ⟨x34,w34,e1⟩:=be e1
 refine W rfl (O_arI rfl rfl rfl (ck_e w34).2 (W_re (congrArg sI (ck_e w34).1) ?_))
 refine go ?_
 exact jmpL (i26, x34) e1 (tl [0, 0, 0] 0 rfl rfl)
 refine go ?_
 exact jm e1 (tl [0, 1] 1 rfl rfl)
 rintro z hi
 subst hi
 refine gs ?_
 obtain rfl := so e0
 refine go ?_
 exact rt [0, 0] 0 ⟨b9, rfl, rfl⟩ rfl rfl
def F31_l20 (fuel : Nat) (a2 : List Tree) (a3 : List Int) (a4 : List Int) (a5 : List (List Int)) (a6 : List Tree) (a7 : List Int) (a8 : List Int) (a9 : List (List Int)) (a10 : List Int) (a11 : List Int) (r16 : (List (Int × Int))) (r18 : (List (Int × Int))) : Nat → List Int → List Int → Int → Option (List Int × List Int)
 | 0, _, _, _ => none
 | n + 1, y36, y37, y38 =>
 bif (decide (y38 < (a10.length : Int))) then (
 Option.bind (α := List Int × List Int) (
 (idx a10 y38).bind fun x41 =>
 Option.bind (α := Bool) (
 bif (!((mget r16 x41).isSome)) then (
 some true) else (
 bif (!((mget r18 x41).isSome)) then (
 some true) else (
 bif (decide (((mget r16 x41).getD (0 : Int)) < (0 : Int))) then (
 some true) else (
 bif (((mget r18 x41).getD (0 : Int)) != y38) then (
 some true) else (
 (idx y36 y38).bind fun x47 =>
 bif (decide (x47 ≥ (0 : Int))) then (
 some true) else (
 (idx y37 ((mget r16 x41).getD (0 : Int))).bind fun x49 =>
 some (decide (x49 ≥ (0 : Int))))))))) fun i42 =>
 bif i42 then (
 some (y36, y37)) else (
 (F26 fuel a2 a3 a4 a5 a6 a7 a8 a9 a10 a11 y36 y37 y38 ((mget r16 x41).getD (0 : Int))).bind fun r51 =>
 some (r51.1, r51.2))) fun i40 =>
 (ck (y38 + (1 : Int))).bind fun x52 =>
 F31_l20 fuel a2 a3 a4 a5 a6 a7 a8 a9 a10 a11 r16 r18 n i40.1 i40.2 x52) else (
 some (y36, y37))
def F31 (fuel : Nat) (a2 : List Tree) (a3 : List Int) (a4 : List Int) (a5 : List (List Int)) (a6 : List Tree) (a7 : List Int) (a8 : List Int) (a9 : List (List Int)) (a10 : List Int) (a11 : List Int) (a13 : List Int) (a15 : List Int) : Option (List Int × List Int) :=
 (F48 fuel a6 a7 a8 a9 a11 a15).bind fun r16 =>
 (F48 fuel a2 a3 a4 a5 a10 a13).bind fun r18 =>
 F31_l20 fuel a2 a3 a4 a5 a6 a7 a8 a9 a10 a11 r16 r18 fuel a13 a15 (0 : Int)
theorem F31_ok {w0 : World} (hG : Globs w0) (fuel : Nat) : ∀ (a2 : List Tree) (a3 : List Int) (a4 : List Int) (a5 : List (List Int)) (a6 : List Tree) (a7 : List Int) (a8 : List Int) (a9 : List (List Int)) (a10 : List Int) (a11 : List Int) (a13 : List Int) (a15 : List Int) (b1 : Nat) (q12 : Hnd) (q14 : Hnd) {r : List Int × List Int} (e0 : F31 fuel a2 a3 a4 a5 a6 a7 a8 a9 a10 a11 a13 a15 = some r), Fn w0 prog 31 [sP b1 0] [bx5 b1 a2 a3 a4 a5 a6 a7 a8 a9 a10 a11 q12 q14, ownA (sl q12) 3 .int a13, ownA (sl q14) 3 .int a15] (fun s H => s = .tup [] ∧ H = [bx5 b1 a2 a3 a4 a5 a6 a7 a8 a9 a10 a11 q12 q14, ownA (sl q12) 3 .int r.1, ownA (sl q14) 3 .int r.2]) := by
 intro a2 a3 a4 a5 a6 a7 a8 a9 a10 a11 a13 a15 b1 q12 q14 r e0
 rw [F31] at e0
 refine fn_intro2 101 [] func31 rfl rfl rfl rfl fun X hX F => ?_
 refine C_turn (T_start [(0, sP b1 0)] rfl (bx5 b1 a2 a3 a4 a5 a6 a7 a8 a9 a10 a11 q12 q14 :: ownA (sl q12) 3 .int a13 :: ownA (sl q14) 3 .int a15 :: F) rfl) ?_
 refine C_scope ?_
 refine gs ?_
 refine C_seq ?_
 refine C_draw2 [(0,fr),(1,fr),(2,fr),(3,fr),(4,pu),(5,fr),(6,fr),(7,fr),(8,pu),(9,fr),(10,fr),(11,fr),(12,pu),(13,mn),(14,fr)] [false, false, true] [ownA (sl q14) 3 .int a15] (bx5 b1 a2 a3 a4 a5 a6 a7 a8 a9 a10 a11 q12 q14 :: ownA (sl q12) 3 .int a13 :: F) rfl rfl rfl (by kernel_rfl) rfl ?_
 refine gd ?_
 refine D_pure rfl rfl (fun G => O_load_part tyA_50 (lk rfl rfl) rfl rfl ⟨rfl, rfl⟩) ?_
 refine gd ?_
 obtain ⟨r16,hr16,e0⟩:=be e0
 refine D_main rfl (D_mainX rfl fun G => O_callV1 (ss := [.agg [.isl .node a6, .isl .int a7, .isl .int a8, .isl .ints a9], .isl .int a11, .val (sl q14)]) (F := ((bx5 b1 a2 a3 a4 a5 a6 a7 a8 a9 a10 a11 q12 q14 :: ownA (sl q12) 3 .int a13 :: F) ++ G)) (lk rfl rfl) fn_48 rfl (F48_ok hG fuel a6 a7 a8 a9 a11 a15 q14 hr16) (sel_perm [0] _) fun b17 => (D_end ?_))
 refine gd ?_
 refine D_nil ?_
 refine C_seq ?_
 refine C_draw2 [(0,fr),(1,fr),(2,fr),(3,fr),(4,pu),(5,fr),(6,fr),(7,fr),(8,pu),(9,fr),(10,fr),(11,fr),(12,pu),(13,mn),(14,fr)] [false, false, false, true] [ownA (sl q12) 3 .int a13] (ownA (sl q14) 3 .int a15 :: mapA b17 (fun n : Int => Value.int .i64 n) (fun n : Int => Value.int .i64 n) r16 :: bx5 b1 a2 a3 a4 a5 a6 a7 a8 a9 a10 a11 q12 q14 :: F) rfl rfl rfl (by kernel_rfl) rfl ?_
 refine gd ?_
 refine D_pure rfl rfl (fun G => O_load_part tyA_50 (lk rfl rfl) rfl rfl ⟨rfl, rfl⟩) ?_
 refine gd ?_
 obtain ⟨r18,hr18,e0⟩:=be e0
 refine D_main rfl (D_mainX rfl fun G => O_callV1 (ss := [.agg [.isl .node a2, .isl .int a3, .isl .int a4, .isl .ints a5], .isl .int a10, .val (sl q12)]) (F := ((ownA (sl q14) 3 .int a15 :: mapA b17 (fun n : Int => Value.int .i64 n) (fun n : Int => Value.int .i64 n) r16 :: bx5 b1 a2 a3 a4 a5 a6 a7 a8 a9 a10 a11 q12 q14 :: F) ++ G)) (lk rfl rfl) fn_48 rfl (F48_ok hG fuel a2 a3 a4 a5 a10 a13 q12 hr18) (sel_perm [0] _) fun b19 => (D_end ?_))
 refine gd ?_
 refine D_nil ?_
 refine C_seq ?_
 refine C_label ?_
 refine gs ?_
 refine C_loopF (κ := (List Int × List Int × Int)) (fun d => [(0, sP b1 0),(3, .val (.map (some b17))),(4, .val (.map (some b19))),(42, .isl .int a10),(43, sI (a10.length : Int)),(44, sI d.2.2)]) (fun d => bx5 b1 a2 a3 a4 a5 a6 a7 a8 a9 a10 a11 q12 q14 :: ownA (sl q12) 3 .int d.1 :: ownA (sl q14) 3 .int d.2.1 :: mapA b17 (fun n : Int => Value.int .i64 n) (fun n : Int => Value.int .i64 n) r16 :: mapA b19 (fun n : Int => Value.int .i64 n) (fun n : Int => Value.int .i64 n) r18 :: F) (fun n d => F31_l20 fuel a2 a3 a4 a5 a6 a7 a8 a9 a10 a11 r16 r18 n d.1 d.2.1 d.2.2) r fuel (a13, a15, (0 : Int)) e0 (tl [4, 0, 1, 1, 0] 0 rfl rfl) (fun _ => rfl) ?_
 rintro n ⟨y36, y37, y38⟩ hF
 have e0 : F31_l20 fuel a2 a3 a4 a5 a6 a7 a8 a9 a10 a11 r16 r18 (n + 1) y36 y37 y38 = some r := hF
 rw [F31_l20] at e0
 clear hF
 refine gs ?_
 refine C_seq ?_
 refine C_cd rfl e0 (fun e0 => ?_) (fun e0 => ?_)
 refine go ?_
 obtain ⟨i40,e1,e0⟩:=be e0
 refine C_cut (ι := (List Int × List Int)) (fun i => [(0, sP b1 0),(3, .val (.map (some b17))),(4, .val (.map (some b19))),(42, .isl .int a10),(43, sI (a10.length : Int)),(44, sI y38)]) (fun i => bx5 b1 a2 a3 a4 a5 a6 a7 a8 a9 a10 a11 q12 q14 :: ownA (sl q12) 3 .int i.1 :: ownA (sl q14) 3 .int i.2 :: mapA b17 (fun n : Int => Value.int .i64 n) (fun n : Int => Value.int .i64 n) r16 :: mapA b19 (fun n : Int => Value.int .i64 n) (fun n : Int => Value.int .i64 n) r18 :: F) (fun i => i40 = i) ?_ ?_
 refine go ?_
 refine gs ?_
 obtain ⟨x41,w41,e1⟩:=be e1
 refine W rfl (O_indexAddr (k := .int) (z := x41) tyL_28 rfl rfl (idx_e w41).1 (idx_e w41).2 ?_)
 refine go ?_
 refine gs ?_
 refine W rfl (O_lookup (k := x41) (0 : Int) (key_int tyU_3) tyM_74 tyN_3 rfl rfl sk_val ?_)
 refine go ?_
 refine C_seq ?_
 refine gs ?_
 refine W rfl (O_lookup (k := x41) (0 : Int) (key_int tyU_3) tyM_74 tyN_3 rfl rfl sk_val ?_)
 refine go ?_
 obtain ⟨i42,e2,e1⟩:=be e1
 refine C_cut (ι := Bool) (fun i => [(0, sP b1 0),(3, .val (.map (some b17))),(4, .val (.map (some b19))),(5, sI y38),(7, sI ((mget r16 x41).getD (0 : Int))),(42, .isl .int a10),(43, sI (a10.length : Int)),(44, sI y38),(95, sB i)]) (fun i => bx5 b1 a2 a3 a4 a5 a6 a7 a8 a9 a10 a11 q12 q14 :: ownA (sl q12) 3 .int y36 :: ownA (sl q14) 3 .int y37 :: mapA b17 (fun n : Int => Value.int .i64 n) (fun n : Int => Value.int .i64 n) r16 :: mapA b19 (fun n : Int => Value.int .i64 n) (fun n : Int => Value.int .i64 n) r18 :: F) (fun i => i42 = i) ?_ ?_
 refine go ?_
 obtain ⟨hg43, e2⟩ | ⟨hg43, e2⟩ := bc e2
 refine go ?_
 exact jm e2 (tl [0, 0, 0, 0, 0] 0 rfl rfl)
 refine Wt rfl rfl rfl hg43 rfl rfl (O_move rfl ?_)
 refine Wt rfl rfl rfl hg43 rfl rfl (O_not rfl ?_)
 refine go ?_
 obtain ⟨hg44, e2⟩ | ⟨hg44, e2⟩ := bc e2
 refine go ?_
 exact jm e2 (tl [0, 0, 0, 0, 0] 0 rfl rfl)
 refine Wt rfl rfl rfl hg44 rfl rfl (O_move rfl ?_)
 refine Wt rfl rfl rfl hg44 rfl rfl (O_cmp rfl rfl rfl ?_)
 refine go ?_
 obtain ⟨hg45, e2⟩ | ⟨hg45, e2⟩ := bc e2
 refine go ?_
 exact jm e2 (tl [0, 0, 0, 0, 0] 0 rfl rfl)
 refine Wt rfl rfl rfl hg45 rfl rfl (O_move rfl ?_)
 refine Wt rfl rfl rfl hg45 rfl rfl (O_move rfl ?_)
 refine Wt rfl rfl rfl hg45 rfl rfl (O_cmp rfl rfl rfl ?_)
 refine go ?_
 obtain ⟨hg46, e2⟩ | ⟨hg46, e2⟩ := bc e2
 refine go ?_
 exact jm e2 (tl [0, 0, 0, 0, 0] 0 rfl rfl)
 refine Wt rfl rfl rfl hg46 rfl rfl (O_move rfl ?_)
 refine Wt rfl rfl rfl hg46 rfl rfl (O_nilCheck rfl (ptr_val _) ?_)
 refine Wt rfl rfl rfl hg46 rfl rfl (O_fieldAddr tyF_53_4 rfl ?_)
 refine Wt rfl rfl rfl hg46 rfl rfl (O_load ty1_28 rfl rfl ?_)
 refine Wt rfl rfl rfl hg46 rfl rfl (O_move rfl ?_)
 obtain ⟨x47,w47,e2⟩:=be e2
 refine Wt rfl rfl rfl hg46 rfl rfl (O_indexAddr_own (k := .int) tyL_28 rfl rfl (idx_lt w47).1 (idx_lt w47).2 ?_)
 refine Wt rfl rfl rfl hg46 rfl rfl (O_load_opt (k := .int) (i := (y38).toNat) (j := 0) ty1_3 rfl rfl (idx_e w47).2 rfl ?_)
 refine Wt rfl rfl rfl hg46 rfl rfl (O_cmp rfl rfl rfl ?_)
 refine go ?_
 obtain ⟨hg48, e2⟩ | ⟨hg48, e2⟩ := bc e2
 refine go ?_
 exact jm e2 (tl [0, 0, 0, 0, 0] 0 rfl rfl)
 refine Wt rfl rfl rfl hg48 rfl rfl (O_move rfl ?_)
 refine Wt rfl rfl rfl hg48 rfl rfl (O_nilCheck rfl (ptr_val _) ?_)
 refine Wt rfl rfl rfl hg48 rfl rfl (O_fieldAddr tyF_53_5 rfl ?_)
 refine Wt rfl rfl rfl hg48 rfl rfl (O_load ty1_28 rfl rfl ?_)
 refine Wt rfl rfl rfl hg48 rfl rfl (O_move rfl ?_)
 obtain ⟨x49,w49,e2⟩:=be e2
 refine Wt rfl rfl rfl hg48 rfl rfl (O_indexAddr_own (k := .int) tyL_28 rfl rfl (idx_lt w49).1 (idx_lt w49).2 ?_)
 refine Wt rfl rfl rfl hg48 rfl rfl (O_load_opt (k := .int) (i := (((mget r16 x41).getD (0 : Int))).toNat) (j := 0) ty1_3 rfl rfl (idx_e w49).2 rfl ?_)
 refine Wt rfl rfl rfl hg48 rfl rfl (O_cmp rfl rfl rfl ?_)
 refine go ?_
 exact jm e2 (tl [0, 0, 0, 0, 0] 0 rfl rfl)
 rintro z hi
 subst hi
 refine C_cd rfl e1 (fun e1 => ?_) (fun e1 => ?_)
 refine go ?_
 exact jm e1 (tl [0, 0, 0, 0, 0] 0 rfl rfl)
 refine go ?_
 obtain ⟨r51,hr51,e1⟩:=be e1
 refine W rfl (O_call0 (F := mapA b17 (fun n : Int => Value.int .i64 n) (fun n : Int => Value.int .i64 n) r16 :: mapA b19 (fun n : Int => Value.int .i64 n) (fun n : Int => Value.int .i64 n) r18 :: F) fn_26 rfl (F26_ok hG fuel a2 a3 a4 a5 a6 a7 a8 a9 a10 a11 y36 y37 y38 ((mget r16 x41).getD (0 : Int)) b1 q12 q14 hr51) (sel_perm [0, 0, 0] _) ?_)
 refine go ?_
 exact jm e1 (tl [0, 0, 0, 0, 0] 0 rfl rfl)
 rintro z hi
 subst hi
 refine go ?_
 obtain ⟨x52,w52,e0⟩:=be e0
 refine W rfl (O_arI rfl rfl rfl (ck_e w52).2 (W_re (congrArg sI (ck_e w52).1) ?_))
 refine go ?_
 exact jmpL (i40.1, i40.2, x52) e0 (tl [0, 0, 0, 0, 0] 0 rfl rfl)
 refine go ?_
 obtain rfl := so e0
 refine go ?_
 exact rn' [0, 0, 0] 2 ⟨rfl, rfl⟩ rfl
def F10_l55 (fuel : Nat) (i22 : List Int × List Int) : Nat → (List (Int × Int)) → Int → Option ((List (Int × Int)))
 | 0, _, _ => none
 | n + 1, y66, y67 =>
 bif (decide (y67 < (i22.1.length : Int))) then (
 Option.bind (α := (List (Int × Int))) (
 (idx i22.1 y67).bind fun x71 =>
 bif (decide (x71 ≥ (0 : Int))) then (
 if ((y66).length + ([(y67, x71)]).length) * 16 ≤ 140737488355328 then (
 some (y66 ++ [(y67, x71)])) else none) else (
 some y66)) fun i70 =>
 (ck (y67 + (1 : Int))).bind fun x77 =>
 F10_l55 fuel i22 n i70 x77) else (
 some y66)
def F10_l36 (fuel : Nat) (r5 : List Tree × List Int × List Int × List (List Int)) (r6 : List Tree × List Int × List Int × List (List Int)) (x14 : List Int) (x15 : List Int) : Nat → List Int → List Int → Int → Option (List Int × List Int)
 | 0, _, _, _ => none
 | n + 1, y44, y45, y46 =>
 bif (decide (y46 < (x14.length : Int))) then (
 Option.bind (α := List Int × List Int) (
 (idx y44 y46).bind fun x49 =>
 bif (decide (x49 ≥ (0 : Int))) then (
 (F30 fuel r5.1 r5.2.1 r5.2.2.1 r5.2.2.2 r6.1 r6.2.1 r6.2.2.1 r6.2.2.2 x14 x15 y44 y45 y46 x49).bind fun r51 =>
 some (r51.1, r51.2)) else (
 some (y44, y45))) fun i48 =>
 (ck (y46 + (1 : Int))).bind fun x52 =>
 F10_l36 fuel r5 r6 x14 x15 n i48.1 i48.2 x52) else (
 some (y44, y45))
def F10 (fuel : Nat) (a1 : Tree) (a2 : Tree) : Option ((List (Int × Int)) × Int) :=
 (F23 fuel a1).bind fun r5 =>
 (F23 fuel a2).bind fun r6 =>
 Option.bind (α := Bool) (
 bif (decide ((r5.1.length : Int) > (20000 : Int))) then (
 some true) else (
 some (decide ((r6.1.length : Int) > (20000 : Int))))) fun i8 =>
 bif i8 then (
 some ([], (2 : Int))) else (
 bif (a1.kind != a2.kind) then (
 some ([], (0 : Int))) else (
 (F24 fuel [a1, a2]).bind fun r13 =>
 (idx r13 (0 : Int)).bind fun x14 =>
 (idx r13 (1 : Int)).bind fun x15 =>
 (F25v1 fuel [(-1 : Int)] (x14.length : Int)).bind fun r18 =>
 (F25v1 fuel [(-1 : Int)] (x15.length : Int)).bind fun r20 =>
 Option.bind (α := List Int × List Int) (
 (idx x14 (0 : Int)).bind fun x23 =>
 (idx x15 (0 : Int)).bind fun x24 =>
 bif (x23 == x24) then (
 (F26 fuel r5.1 r5.2.1 r5.2.2.1 r5.2.2.2 r6.1 r6.2.1 r6.2.2.1 r6.2.2.2 x14 x15 r18 r20 (0 : Int) (0 : Int)).bind fun r26 =>
 some (r26.1, r26.2)) else (
 (F27 fuel r5.1 r5.2.1 r5.2.2.1 r5.2.2.2 r6.1 r6.2.1 r6.2.2.1 r6.2.2.2 x14 x15 r18 r20 (0 : Int) (0 : Int)).bind fun r27 =>
 Option.bind (α := List Int × List Int) (
 Option.bind (α := Bool) (
 (F28 fuel a1).bind fun r30 =>
 bif r30 then (
 (F28 fuel a2).bind fun r32 =>
 some r32) else (
 some false)) fun i29 =>
 bif i29 then (
 (F29 fuel r5.1 r5.2.1 r5.2.2.1 r5.2.2.2 r6.1 r6.2.1 r6.2.2.1 r6.2.2.2 x14 x15 (r18.set ((0 : Int)).toNat (0 : Int)) (r20.set ((0 : Int)).toNat (0 : Int))).bind fun r34 =>
 some (r34.1, r34.2)) else (
 some ((r18.set ((0 : Int)).toNat (0 : Int)), (r20.set ((0 : Int)).toNat (0 : Int))))) fun i28 =>
 Option.bind (α := List Int × List Int) (
 F10_l36 fuel r5 r6 x14 x15 fuel i28.1 i28.2 (0 : Int)) fun i35 =>
 (F31 fuel r5.1 r5.2.1 r5.2.2.1 r5.2.2.2 r6.1 r6.2.1 r6.2.2.1 r6.2.2.2 x14 x15 i35.1 i35.2).bind fun r53 =>
 some (r53.1, r53.2))) fun i22 =>
 Option.bind (α := (List (Int × Int))) (
 F10_l55 fuel i22 fuel [] (0 : Int)) fun i54 =>
 some (i54, (0 : Int))))
end Go.Proofs.YtabojfgmbfnoiaaGreatDoor
end
