/- A part (2 of 6) of the proof that the law of MMUSees answers true for every input and that each argument reads afterwards as before. Conditions: those of the card alone (the two tables of math/bits read as the program text lays them). -/
import Derived.Test.YtcjcbgeogaighaaGreatDoorP1
set_option linter.all false
namespace Go.Eng
open Go.Proofs
variable {r : Option Nat} {Q : Qx} (a : Act) (w : World)
set_option maxRecDepth 100000
def S6_0 (w : World) (R : K1) (E : Ev) : Prop :=
  X P (.build 60 #[(0, (.int .u32 4194304)), (1, (.int .u32 20480)), (2, (.int .i64 1)), (3, (.int .u8 1))]) 60 w (fun t14 w1 =>
  X P (.buildSlice 57 1 #[(0, t14)]) 57 w1 (fun t15 w2 =>
  X P (.buildSlice 25 1 #[(0, t15)]) 25 w2 (fun t16 w3 =>
  X P (.build 28 #[(0, (.int .i64 16)), (1, (.int .i64 2)), (2, (.int .i64 16))]) 28 w3 (fun t17 w4 =>
  X P (.callF 10 #[t16, t17, (.int .i64 4)]) 31 w4 (fun t18 w5 =>
  X P (.bin .eql 31 false true t18 (.pointer none)) 4 w5 (fun t20 w6 =>
  Cnd t20 (
  R (.bool false) w6) (
  X P (.nilCheck t18) 0 w6 (fun t22 w7 =>
  X P (.fieldAddr 46 t22 0) 0 w7 (fun t23 w8 =>
  X P (.load 41 t23) 41 w8 (fun t24 w9 =>
  X P (.callF 16 #[t24, (.int .u32 20484), (.int .i64 4), (.int .u32 77)]) 53 w9 (fun t25 w10 =>
  X P (.nilCheck t18) 0 w10 (fun t28 w11 =>
  X P (.fieldAddr 46 t28 3) 0 w11 (fun t29 w12 =>
  X P (.load 44 t29) 44 w12 (fun t30 w13 =>
  X P (.callF 14 #[t30, (.int .i64 1), (.int .u32 4194304), (.int .i64 4)]) 50 w13 (fun t31 w14 =>
  X P (.extract t31 0) 38 w14 (fun t32 w15 =>
  X P (.extract t31 1) 3 w15 (fun t33 w16 =>
  X P (.extract t31 2) 49 w16 (fun t34 w17 =>
  X P (.nilCheck t18) 0 w17 (fun t37 w18 =>
  X P (.fieldAddr 46 t37 3) 0 w18 (fun t38 w19 =>
  X P (.load 44 t38) 44 w19 (fun t39 w20 =>
  X P (.callF 14 #[t39, (.int .i64 1), (.int .u32 4194308), (.int .i64 4)]) 50 w20 (fun t40 w21 =>
  X P (.extract t40 0) 38 w21 (fun t41 w22 =>
  X P (.extract t40 1) 3 w22 (fun t42 w23 =>
  X P (.extract t40 2) 49 w23 (fun t43 w24 =>
  X P (.nilCheck t18) 0 w24 (fun t46 w25 =>
  X P (.fieldAddr 46 t46 3) 0 w25 (fun t47 w26 =>
  X P (.load 44 t47) 44 w26 (fun t48 w27 =>
  X P (.callF 17 #[t48, (.int .i64 1), (.int .u32 4194304), (.int .i64 4), (.int .u32 1)]) 63 w27 (fun t49 w28 =>
  X P (.extract t49 0) 3 w28 (fun t50 w29 =>
  X P (.extract t49 1) 49 w29 (fun t51 w30 =>
  X P (.nilCheck t18) 0 w30 (fun t54 w31 =>
  X P (.fieldAddr 46 t54 3) 0 w31 (fun t55 w32 =>
  X P (.load 44 t55) 44 w32 (fun t56 w33 =>
  X P (.callF 14 #[t56, (.int .i64 2), (.int .u32 4194304), (.int .i64 4)]) 50 w33 (fun t57 w34 =>
  X P (.extract t57 0) 38 w34 (fun t58 w35 =>
  X P (.extract t57 1) 3 w35 (fun t59 w36 =>
  X P (.extract t57 2) 49 w36 (fun t60 w37 =>
  X P (.bin .eql 53 false true t25 (.int .i64 0)) 4 w37 (fun t62 w38 =>
  XG (some t62) true P (.val t34) 49 w38 (fun t64 w39 =>
  XG (some t62) true P (.bin .eql 49 false true t64 (.int .i64 0)) 4 w39 (fun t65 w40 =>
  X P (.pick t62 t65 (.bool false)) 4 w40 (fun t66 w41 =>
  XG (some t66) true P (.val t33) 3 w41 (fun t68 w42 =>
  XG (some t66) true P (.bin .eql 3 false true t68 (.int .i64 36)) 4 w42 (fun t69 w43 =>
  X P (.pick t66 t69 (.bool false)) 4 w43 (fun t70 w44 =>
  XG (some t70) true P (.val t43) 49 w44 (fun t72 w45 =>
  XG (some t70) true P (.bin .eql 49 false true t72 (.int .i64 0)) 4 w45 (fun t73 w46 =>
  X P (.pick t70 t73 (.bool false)) 4 w46 (fun t74 w47 =>
  XG (some t74) true P (.val t42) 3 w47 (fun t76 w48 =>
  XG (some t74) true P (.bin .eql 3 false true t76 (.int .i64 1)) 4 w48 (fun t77 w49 =>
  X P (.pick t74 t77 (.bool false)) 4 w49 (fun t78 w50 =>
  XG (some t78) true P (.val t41) 38 w50 (fun t80 w51 =>
  XG (some t78) true P (.bin .eql 38 false true t80 (.int .u32 77)) 4 w51 (fun t81 w52 =>
  X P (.pick t78 t81 (.bool false)) 4 w52 (fun t82 w53 =>
  XG (some t82) true P (.val t51) 49 w53 (fun t84 w54 =>
  XG (some t82) true P (.bin .eql 49 false true t84 (.int .i64 5)) 4 w54 (fun t85 w55 =>
  X P (.pick t82 t85 (.bool false)) 4 w55 (fun t86 w56 =>
  XG (some t86) true P (.val t50) 3 w56 (fun t88 w57 =>
  XG (some t86) true P (.bin .eql 3 false true t88 (.int .i64 0)) 4 w57 (fun t89 w58 =>
  X P (.pick t86 t89 (.bool false)) 4 w58 (fun t90 w59 =>
  XG (some t90) true P (.val t60) 49 w59 (fun t92 w60 =>
  XG (some t90) true P (.bin .eql 49 false true t92 (.int .i64 3)) 4 w60 (fun t93 w61 =>
  X P (.pick t90 t93 (.bool false)) 4 w61 (fun t94 w62 =>
  XG (some t94) true P (.val t59) 3 w62 (fun t96 w63 =>
  XG (some t94) true P (.bin .eql 3 false true t96 (.int .i64 0)) 4 w63 (fun t97 w64 =>
  X P (.pick t94 t97 (.bool false)) 4 w64 (fun t98 w65 =>
  R t98 w65) E) E) E) E) E) E) E) E) E) E) E) E) E) E) E) E) E) E) E) E) E) E) E) E) E) E) E) E) E) E) E) E) E) E) E) E) E) E) E) E) E) E) E) E) E) E) E) E) E) E) E) E) E) E) E) E) E) E) E)) E) E) E) E) E) E
noncomputable def C6_0 : Code := bodyOf Tryz.f6
theorem K6_0 (g : Env) (w : World) (R : K1) (E : Ev) :
  vcF P Z0 Z0 C6_0 (QC (fun _ _ => False) (fun a w => resQ P Tryz.f6.results a w R) Y0 E) g w = S6_0 w R E := by kernel_rfl
theorem T6_0 (hs : a.tmps.size = 99) (R : K1) (E : Ev) (hR : ∀ a' w', Ag (wr C6_0) a a' → resQ P Tryz.f6.results (gt a') w' R → Q .ret a' w') (hE : HE Q E)
  (h : S6_0 w R E) : C6_0.wpIn (Fw r) 0 P (Qs (wr C6_0) a Q) a w :=
  piece' (HJ := Z0) (HL := Z0) hmix hs (by decide +kernel) (fun _ _ => False) (fun a w => resQ P Tryz.f6.results a w R) Y0 E (fun _ _ _ h => h.elim) hR
  (fun _ _ _ _ h => h.elim) hE
  trivial (Eq.mpr (K6_0 (gt a) w R E) h)
theorem F6 (w : World) (R : K1) (E : Ev) (h : S6_0 w R E) : C P 6 #[] w R E := by
  have e : S6_0 w R E = S6_0 w R E := by kernel_rfl
  have t := T6_0 (r := none) (Q := QF P Tryz.f6 R E) (A0 Tryz.f6.ntmps #[]) w (by kernel_rfl) R E (fun _ _ _ h => h) (fun _ _ _ h => h) (Eq.mpr e h)
  exact C_of (c := C6_0) Tryz.func6 (by kernel_rfl) t
def S7_j16 (v3 : Value) (w : World) (R : K1) (E : Ev) : Prop :=
  R v3 w
noncomputable def C7_j16 : Code := cR (cR (cR (bodyOf Tryz.f7)))
theorem K7_j16 (g : Env) (w : World) (R : K1) (E : Ev) :
  vcF P Z0 Z0 C7_j16 (QC (fun _ _ => False) (fun a w => resQ P Tryz.f7.results a w R) Y0 E) g w = S7_j16 (g 3) w R E := by kernel_rfl
theorem T7_j16 (hs : a.tmps.size = 88) (R : K1) (E : Ev) (hR : ∀ a' w', Ag (wr C7_j16) a a' → resQ P Tryz.f7.results (gt a') w' R → Q .ret a' w') (hE : HE Q E)
  (h : S7_j16 (gt a 3) w R E) : C7_j16.wpIn (Fw r) 0 P (Qs (wr C7_j16) a Q) a w :=
  piece' (HJ := Z0) (HL := Z0) hmix hs (by decide +kernel) (fun _ _ => False) (fun a w => resQ P Tryz.f7.results a w R) Y0 E (fun _ _ _ h => h.elim) hR
  (fun _ _ _ _ h => h.elim) hE
  trivial (Eq.mpr (K7_j16 (gt a) w R E) h)
def S7_j4 (v0 v3 v4 : Value) (w : World) (N : K3) (E : Ev) : Prop :=
  X P (.bin .add 3 false true v4 (.int .i64 1)) 3 w (fun t19 w1 =>
  N v0 v3 t19 w1) E
noncomputable def C7_j4 : Code := cR (cR (cB (cB (cR (cL (cR (cR (bodyOf Tryz.f7))))))))
theorem K7_j4 (g : Env) (w : World) (N : K3) (E : Ev) :
  vcF P Z0 Z0 C7_j4 (QC (fun a w => N (a 0) (a 3) (a 4) w) (fun _ _ => False) Y0 E) g w = S7_j4 (g 0) (g 3) (g 4) w N E := by kernel_rfl
theorem T7_j4 (hs : a.tmps.size = 88) (N : K3) (E : Ev) (hN : ∀ a' w', Ag (wr C7_j4) a a' → N (gt a' 0) (gt a' 3) (gt a' 4) w' → Q .normal a' w') (hE : HE Q E)
  (h : S7_j4 (gt a 0) (gt a 3) (gt a 4) w N E) : C7_j4.wpIn (Fw r) 0 P (Qs (wr C7_j4) a Q) a w :=
  piece' (HJ := Z0) (HL := Z0) hmix hs (by decide +kernel) (fun a w => N (a 0) (a 3) (a 4) w) (fun _ _ => False) Y0 E hN (fun _ _ _ h => h.elim)
  (fun _ _ _ _ h => h.elim) hE
  trivial (Eq.mpr (K7_j4 (gt a) w N E) h)
def S7_j14 (v0 v3 v4 v5 v6 v7 : Value) (w : World) (N : K3) (E : Ev) : Prop :=
  X P (.un .not v7) 4 w (fun t61 w1 =>
  Cnd t61 (
  XQ P (.indexAddr 25 v3 v5) 0 (drw w1) (fun t66 =>
  XQ P (.load 57 t66) 57 (drw w1) (fun t67 =>
  XQ P (.indexAddr 22 v0 v4) 0 (drw w1) (fun t71 =>
  XQ P (.fieldAddr 66 t71 2) 0 (drw w1) (fun t72 =>
  XQ P (.load 3 t72) 3 (drw w1) (fun t73 =>
  XQ P (.indexAddr 22 v0 v4) 0 (drw w1) (fun t79 =>
  XQ P (.fieldAddr 66 t79 3) 0 (drw w1) (fun t80 =>
  XQ P (.load 3 t80) 3 (drw w1) (fun t81 =>
  (X P (.callF 9 #[t73, (.int .i64 32)]) 3 (drw w1) (fun t74 w2 =>
  (XQ P (.load 3 t80) 3 w2 (fun v => v = t81)) ∧
  (XQ P (.fieldAddr 66 t79 3) 0 w2 (fun v => v = t80)) ∧
  (XQ P (.indexAddr 22 v0 v4) 0 w2 (fun v => v = t79)) ∧
  (XQ P (.load 57 t66) 57 w2 (fun v => v = t67)) ∧
  (XQ P (.indexAddr 25 v3 v5) 0 w2 (fun v => v = t66)) ∧
  XQ P (.conv 3 38 t74) 38 w2 (fun t75 =>
  XQ P (.bin .mul 38 false true t75 (.int .u32 4096)) 38 w2 (fun t76 =>
  (X P (.callF 18 #[t81]) 58 w2 (fun t82 w3 =>
  (XQ P (.bin .mul 38 false true t75 (.int .u32 4096)) 38 w3 (fun v => v = t76)) ∧
  (XQ P (.conv 3 38 t74) 38 w3 (fun v => v = t75)) ∧
  (XQ P (.load 57 t66) 57 w3 (fun v => v = t67)) ∧
  (XQ P (.indexAddr 25 v3 v5) 0 w3 (fun v => v = t66)) ∧
  XQ P (.build 60 #[(0, v6), (1, t76), (2, (.int .i64 1)), (3, t82)]) 60 w3 (fun t83 =>
  (X P (.buildSlice 57 1 #[(0, t83)]) 57 w3 (fun t84 w4 =>
  (XQ P (.load 57 t66) 57 w4 (fun v => v = t67)) ∧
  (XQ P (.indexAddr 25 v3 v5) 0 w4 (fun v => v = t66)) ∧
  (X P (.callB .append #[57, 57] #[false, false] #[t67, t84]) 57 w4 (fun t85 w5 =>
  XQ P (.indexAddr 25 v3 v5) 0 w5 (fun t86 =>
  (X P (.store 57 t86 t85) 0 w5 (fun _ w6 =>
  N v0 v3 v4 w6) E))) E)) E))) E)))) E)))))))))) (
  N v0 v3 v4 w1)) E
noncomputable def C7_j14 : Code := cR (cR (cR (cR (cR (cB (cL (cR (cB (cB (cR (cL (cR (cR (bodyOf Tryz.f7))))))))))))))
theorem K7_j14 (g : Env) (w : World) (N : K3) (E : Ev) :
  vcF P Z0 Z0 C7_j14 (QC (fun a w => N (a 0) (a 3) (a 4) w) (fun _ _ => False) Y0 E) g w = S7_j14 (g 0) (g 3) (g 4) (g 5) (g 6) (g 7) w N E := by kernel_rfl
theorem T7_j14 (hs : a.tmps.size = 88) (N : K3) (E : Ev) (hN : ∀ a' w', Ag (wr C7_j14) a a' → N (gt a' 0) (gt a' 3) (gt a' 4) w' → Q .normal a' w') (hE : HE Q E)
  (h : S7_j14 (gt a 0) (gt a 3) (gt a 4) (gt a 5) (gt a 6) (gt a 7) w N E) : C7_j14.wpIn (Fw r) 0 P (Qs (wr C7_j14) a Q) a w :=
  piece' (HJ := Z0) (HL := Z0) hmix hs (by decide +kernel) (fun a w => N (a 0) (a 3) (a 4) w) (fun _ _ => False) Y0 E hN (fun _ _ _ h => h.elim)
  (fun _ _ _ _ h => h.elim) hE
  trivial (Eq.mpr (K7_j14 (gt a) w N E) h)
def S7_b11 (v0 v3 v4 v5 v6 v7 v8 : Value) (w : World) (N : K7) (X2 : K6) (E : Ev) : Prop :=
  X P (.indexAddr 25 v3 v5) 0 w (fun t41 w1 =>
  X P (.load 57 t41) 57 w1 (fun t42 w2 =>
  X P (.callB .len #[57] #[false] #[t42]) 3 w2 (fun t43 w3 =>
  X P (.bin .lss 3 false false v8 t43) 4 w3 (fun t44 w4 =>
  Cnd t44 (
  XG (some v7) false P (.val v3) 25 w4 (fun t49 w5 =>
  XG (some v7) false P (.val v5) 3 w5 (fun t50 w6 =>
  XG (some v7) false P (.indexAddr 25 t49 t50) 0 w6 (fun t51 w7 =>
  XG (some v7) false P (.load 57 t51) 57 w7 (fun t52 w8 =>
  XG (some v7) false P (.val v8) 3 w8 (fun t53 w9 =>
  XG (some v7) false P (.indexAddr 57 t52 t53) 0 w9 (fun t54 w10 =>
  XG (some v7) false P (.fieldAddr 60 t54 0) 0 w10 (fun t55 w11 =>
  XG (some v7) false P (.load 38 t55) 38 w11 (fun t56 w12 =>
  XG (some v7) false P (.val v6) 38 w12 (fun t57 w13 =>
  XG (some v7) false P (.bin .eql 38 false false t56 t57) 4 w13 (fun t58 w14 =>
  X P (.pick v7 (.bool true) t58) 4 w14 (fun t59 w15 =>
  X P (.bin .add 3 false true v8 (.int .i64 1)) 3 w15 (fun t46 w16 =>
  N v0 v3 v4 v5 v6 t59 t46 w16) E) E) E) E) E) E) E) E) E) E) E) E) (
  X2 v0 v3 v4 v5 v6 v7 w4)) E) E) E) E
noncomputable def C7_b11 : Code := cB (cB (cR (cL (cR (cR (cR (cR (cB (cL (cR (cB (cB (cR (cL (cR (cR (bodyOf Tryz.f7)))))))))))))))))
noncomputable def J7_b11 (N : K7) (X2 : K6) (E : Ev) : Nat → Env → World → Prop := fun i a w => match i with | 2 => X2 (a 0) (a 3) (a 4) (a 5) (a 6) (a 7) w | _ => False
theorem K7_b11 (g : Env) (w : World) (N : K7) (X2 : K6) (E : Ev) :
  vcF P Z0 Z0 C7_b11 (QC (fun a w => N (a 0) (a 3) (a 4) (a 5) (a 6) (a 7) (a 8) w) (fun _ _ => False) (J7_b11 N X2 E) E) g w = S7_b11 (g 0) (g 3) (g 4) (g 5) (g 6) (g 7) (g 8) w N X2 E := by kernel_rfl
theorem T7_b11 (hs : a.tmps.size = 88) (N : K7) (X2 : K6) (E : Ev) (hN : ∀ a' w', Ag (wr C7_b11) a a' → N (gt a' 0) (gt a' 3) (gt a' 4) (gt a' 5) (gt a' 6) (gt a' 7) (gt a' 8) w' → Q .normal a' w') (hX2 : ∀ a' w', Ag (wr C7_b11) a a' → X2 (gt a' 0) (gt a' 3) (gt a' 4) (gt a' 5) (gt a' 6) (gt a' 7) w' → Q (.exit 2) a' w') (hE : HE Q E)
  (h : S7_b11 (gt a 0) (gt a 3) (gt a 4) (gt a 5) (gt a 6) (gt a 7) (gt a 8) w N X2 E) : C7_b11.wpIn (Fw r) 0 P (Qs (wr C7_b11) a Q) a w :=
  piece' (HJ := Z0) (HL := Z0) hmix hs (by decide +kernel) (fun a w => N (a 0) (a 3) (a 4) (a 5) (a 6) (a 7) (a 8) w) (fun _ _ => False) (J7_b11 N X2 E) E hN (fun _ _ _ h => h.elim)
  (fun i a' w' hag h => by
  unfold J7_b11 at h
  split at h <;> first | exact hX2 _ _ hag h | exact h.elim) hE
  trivial (Eq.mpr (K7_b11 (gt a) w N X2 E) h)
def S7_l11 (v0 v3 v4 v5 v6 v7 v8 : Value) (w : World) (X2 : K6) (E : Ev) : Prop :=
  ∃ (I : K2) (μ : Value → Value → World → Nat), I v7 v8 w ∧ ∀ (v7 v8 : Value) (w : World), I v7 v8 w → S7_b11 v0 v3 v4 v5 v6 v7 v8 w (fun x0 x3 x4 x5 x6 x7 x8 y => I x7 x8 y ∧ μ x7 x8 y < μ v7 v8 w) X2 E
theorem T7_l11 (hs : a.tmps.size = 88) (X2 : K6) (E : Ev) (hX2 : ∀ a' w', Ag (wr (Code.loop C7_b11)) a a' → X2 (gt a' 0) (gt a' 3) (gt a' 4) (gt a' 5) (gt a' 6) (gt a' 7) w' → Q (.exit 2) a' w') (hE : HE Q E)
  (h : S7_l11 (gt a 0) (gt a 3) (gt a 4) (gt a 5) (gt a 6) (gt a 7) (gt a 8) w X2 E) : (Code.loop C7_b11).wpIn (Fw r) 0 P (Qs (wr (Code.loop C7_b11)) a Q) a w := by
  obtain ⟨I, μ, h0, hr⟩ := h
  refine loop_piece (c := C7_b11) (fun a w => I (gt a 7) (gt a 8) w) (fun a w => μ (gt a 7) (gt a 8) w) h0 fun a' w' hag hI => ?_
  have h' := hr (gt a' 7) (gt a' 8) w' hI
  rw [← hag.get 0 (by decide +kernel)] at h'
  rw [← hag.get 3 (by decide +kernel)] at h'
  rw [← hag.get 4 (by decide +kernel)] at h'
  rw [← hag.get 5 (by decide +kernel)] at h'
  rw [← hag.get 6 (by decide +kernel)] at h'
  exact T7_b11 a' w' (hag.size.trans hs) (fun x0 x3 x4 x5 x6 x7 x8 y => I x7 x8 y ∧ μ x7 x8 y < μ (gt a' 7) (gt a' 8) w') X2 E (fun _ _ _ h => h) (fun a1 w1 hag1 h => hX2 a1 w1 (hag.trans hag1) h) hE h'
def S7_j9 (v0 v3 v4 v5 v6 : Value) (w : World) (N : K3) (E : Ev) : Prop :=
  S7_l11 v0 v3 v4 v5 v6 (.bool false) (.int .i64 0) w (fun x0 x3 x4 x5 x6 x7 y => S7_j14 x0 x3 x4 x5 x6 x7 y N E) E
noncomputable def C7_j9 : Code := cR (cR (cR (cB (cL (cR (cB (cB (cR (cL (cR (cR (bodyOf Tryz.f7))))))))))))
noncomputable def HJ7_j9 (N : K3) (E : Ev) : Cut := fun i => match i with | some 14 => some (fun a w => S7_j14 (a 0) (a 3) (a 4) (a 5) (a 6) (a 7) w N E) | _ => none
noncomputable def HL7_j9 (N : K3) (E : Ev) : Cut := fun i => match i with | some 11 => some (fun a w => S7_l11 (a 0) (a 3) (a 4) (a 5) (a 6) (a 7) (a 8) w (fun x0 x3 x4 x5 x6 x7 y => S7_j14 x0 x3 x4 x5 x6 x7 y N E) E) | _ => none
theorem K7_j9 (g : Env) (w : World) (N : K3) (E : Ev) :
  vcF P (HJ7_j9 N E) (HL7_j9 N E) C7_j9 (QC (fun a w => N (a 0) (a 3) (a 4) w) (fun _ _ => False) Y0 E) g w = S7_j9 (g 0) (g 3) (g 4) (g 5) (g 6) w N E := by kernel_rfl
theorem T7_j9 (hs : a.tmps.size = 88) (N : K3) (E : Ev) (hN : ∀ a' w', Ag (wr C7_j9) a a' → N (gt a' 0) (gt a' 3) (gt a' 4) w' → Q .normal a' w') (hE : HE Q E)
  (h : S7_j9 (gt a 0) (gt a 3) (gt a 4) (gt a 5) (gt a 6) w N E) : C7_j9.wpIn (Fw r) 0 P (Qs (wr C7_j9) a Q) a w :=
  piece' (HJ := HJ7_j9 N E) (HL := HL7_j9 N E) hmix hs (by decide +kernel) (fun a w => N (a 0) (a 3) (a 4) w) (fun _ _ => False) Y0 E hN (fun _ _ _ h => h.elim)
  (fun _ _ _ _ h => h.elim) hE
  ⟨pay (c := Code.loop C7_b11) (W := wr C7_j9) (h := fun a w => S7_l11 (a 0) (a 3) (a 4) (a 5) (a 6) (a 7) (a 8) w (fun x0 x3 x4 x5 x6 x7 y => S7_j14 x0 x3 x4 x5 x6 x7 y N E) E) (by decide +kernel) fun a w hsz h => T7_l11 a w (hsz.trans hs) (fun x0 x3 x4 x5 x6 x7 y => S7_j14 x0 x3 x4 x5 x6 x7 y N E) E (fun _ _ _ h => h) (fun _ _ _ h => h) h, pay (c := C7_j14) (W := wr C7_j9) (h := fun a w => S7_j14 (a 0) (a 3) (a 4) (a 5) (a 6) (a 7) w N E) (by decide +kernel) fun a w hsz h => T7_j14 a w (hsz.trans hs) N E (fun _ _ _ h => h) (fun _ _ _ h => h) h, trivial⟩ (Eq.mpr (K7_j9 (gt a) w N E) h)
def S7_b3 (v0 v3 v4 : Value) (w : World) (N : K3) (X0 : K1) (E : Ev) : Prop :=
  X P (.callB .len #[22] #[false] #[v0]) 3 w (fun t12 w1 =>
  X P (.bin .lss 3 false false v4 t12) 4 w1 (fun t13 w2 =>
  XG (some t13) true P (.val v4) 3 w2 (fun t15 w3 =>
  XG (some t13) true P (.bin .lss 3 false true t15 (.int .i64 60)) 4 w3 (fun t16 w4 =>
  X P (.pick t13 t16 (.bool false)) 4 w4 (fun t17 w5 =>
  Cnd t17 (
  X P (.indexAddr 22 v0 v4) 0 w5 (fun t22 w6 =>
  X P (.fieldAddr 66 t22 0) 0 w6 (fun t23 w7 =>
  X P (.load 3 t23) 3 w7 (fun t24 w8 =>
  X P (.callF 9 #[t24, (.int .i64 4)]) 3 w8 (fun t25 w9 =>
  X P (.indexAddr 22 v0 v4) 0 w9 (fun t28 w10 =>
  X P (.fieldAddr 66 t28 1) 0 w10 (fun t29 w11 =>
  X P (.load 3 t29) 3 w11 (fun t30 w12 =>
  X P (.callF 9 #[t30, (.int .i64 30)]) 3 w12 (fun t31 w13 =>
  X P (.conv 3 38 t31) 38 w13 (fun t32 w14 =>
  X P (.bin .mul 38 false true t32 (.int .u32 4096)) 38 w14 (fun t33 w15 =>
  X P (.bin .geq 38 false true t33 (.int .u32 61440)) 4 w15 (fun t35 w16 =>
  Cnd t35 (
  X P (.bin .add 38 false true t33 (.int .u32 4194304)) 38 w16 (fun t37 w17 =>
  S7_j9 v0 v3 v4 t25 t37 w17 (fun x0 x3 x4 y => S7_j4 x0 x3 x4 y N E) E) E) (
  S7_j9 v0 v3 v4 t25 t33 w16 (fun x0 x3 x4 y => S7_j4 x0 x3 x4 y N E) E)) E) E) E) E) E) E) E) E) E) E) E) (
  X0 v3 w5)) E) E) E) E) E
noncomputable def C7_b3 : Code := cB (cB (cR (cL (cR (cR (bodyOf Tryz.f7))))))
noncomputable def HJ7_b3 (N : K3) (X0 : K1) (E : Ev) : Cut := fun i => match i with | some 4 => some (fun a w => S7_j4 (a 0) (a 3) (a 4) w N E) | some 9 => some (fun a w => S7_j9 (a 0) (a 3) (a 4) (a 5) (a 6) w (fun x0 x3 x4 y => S7_j4 x0 x3 x4 y N E) E) | _ => none
noncomputable def J7_b3 (N : K3) (X0 : K1) (E : Ev) : Nat → Env → World → Prop := fun i a w => match i with | 0 => X0 (a 3) w | _ => False
theorem K7_b3 (g : Env) (w : World) (N : K3) (X0 : K1) (E : Ev) :
  vcF P (HJ7_b3 N X0 E) Z0 C7_b3 (QC (fun a w => N (a 0) (a 3) (a 4) w) (fun _ _ => False) (J7_b3 N X0 E) E) g w = S7_b3 (g 0) (g 3) (g 4) w N X0 E := by kernel_rfl
theorem T7_b3 (hs : a.tmps.size = 88) (N : K3) (X0 : K1) (E : Ev) (hN : ∀ a' w', Ag (wr C7_b3) a a' → N (gt a' 0) (gt a' 3) (gt a' 4) w' → Q .normal a' w') (hX0 : ∀ a' w', Ag (wr C7_b3) a a' → X0 (gt a' 3) w' → Q (.exit 0) a' w') (hE : HE Q E)
  (h : S7_b3 (gt a 0) (gt a 3) (gt a 4) w N X0 E) : C7_b3.wpIn (Fw r) 0 P (Qs (wr C7_b3) a Q) a w :=
  piece' (HJ := HJ7_b3 N X0 E) (HL := Z0) hmix hs (by decide +kernel) (fun a w => N (a 0) (a 3) (a 4) w) (fun _ _ => False) (J7_b3 N X0 E) E hN (fun _ _ _ h => h.elim)
  (fun i a' w' hag h => by
  unfold J7_b3 at h
  split at h <;> first | exact hX0 _ _ hag h | exact h.elim) hE
  ⟨pay (c := C7_j9) (W := wr C7_b3) (h := fun a w => S7_j9 (a 0) (a 3) (a 4) (a 5) (a 6) w (fun x0 x3 x4 y => S7_j4 x0 x3 x4 y N E) E) (by decide +kernel) fun a w hsz h => T7_j9 a w (hsz.trans hs) (fun x0 x3 x4 y => S7_j4 x0 x3 x4 y N E) E (fun _ _ _ h => h) (fun _ _ _ h => h) h, pay (c := C7_j4) (W := wr C7_b3) (h := fun a w => S7_j4 (a 0) (a 3) (a 4) w N E) (by decide +kernel) fun a w hsz h => T7_j4 a w (hsz.trans hs) N E (fun _ _ _ h => h) (fun _ _ _ h => h) h, trivial⟩ (Eq.mpr (K7_b3 (gt a) w N X0 E) h)
def S7_l3 (v0 v3 v4 : Value) (w : World) (X0 : K1) (E : Ev) : Prop :=
  ∃ (I : K1) (μ : Value → World → Nat), I v4 w ∧ ∀ (v4 : Value) (w : World), I v4 w → S7_b3 v0 v3 v4 w (fun x0 x3 x4 y => I x4 y ∧ μ x4 y < μ v4 w) X0 E
theorem T7_l3 (hs : a.tmps.size = 88) (X0 : K1) (E : Ev) (hX0 : ∀ a' w', Ag (wr (Code.loop C7_b3)) a a' → X0 (gt a' 3) w' → Q (.exit 0) a' w') (hE : HE Q E)
  (h : S7_l3 (gt a 0) (gt a 3) (gt a 4) w X0 E) : (Code.loop C7_b3).wpIn (Fw r) 0 P (Qs (wr (Code.loop C7_b3)) a Q) a w := by
  obtain ⟨I, μ, h0, hr⟩ := h
  refine loop_piece (c := C7_b3) (fun a w => I (gt a 4) w) (fun a w => μ (gt a 4) w) h0 fun a' w' hag hI => ?_
  have h' := hr (gt a' 4) w' hI
  rw [← hag.get 0 (by decide +kernel)] at h'
  rw [← hag.get 3 (by decide +kernel)] at h'
  exact T7_b3 a' w' (hag.size.trans hs) (fun x0 x3 x4 y => I x4 y ∧ μ x4 y < μ (gt a' 4) w') X0 E (fun _ _ _ h => h) (fun a1 w1 hag1 h => hX0 a1 w1 (hag.trans hag1) h) hE h'
def S7_0 (v0 : Value) (w : World) (R : K1) (E : Ev) : Prop :=
  X P (.makeSlice 25 (.int .i64 4) (.int .i64 4)) 25 w (fun t9 w1 =>
  S7_l3 v0 t9 (.int .i64 0) w1 (fun x3 y => S7_j16 x3 y R E) E) E
noncomputable def C7_0 : Code := bodyOf Tryz.f7
noncomputable def HJ7_0 (R : K1) (E : Ev) : Cut := fun i => match i with | some 16 => some (fun a w => S7_j16 (a 3) w R E) | _ => none
noncomputable def HL7_0 (R : K1) (E : Ev) : Cut := fun i => match i with | some 3 => some (fun a w => S7_l3 (a 0) (a 3) (a 4) w (fun x3 y => S7_j16 x3 y R E) E) | _ => none
theorem K7_0 (g : Env) (w : World) (R : K1) (E : Ev) :
  vcF P (HJ7_0 R E) (HL7_0 R E) C7_0 (QC (fun _ _ => False) (fun a w => resQ P Tryz.f7.results a w R) Y0 E) g w = S7_0 (g 0) w R E := by kernel_rfl
theorem T7_0 (hs : a.tmps.size = 88) (R : K1) (E : Ev) (hR : ∀ a' w', Ag (wr C7_0) a a' → resQ P Tryz.f7.results (gt a') w' R → Q .ret a' w') (hE : HE Q E)
  (h : S7_0 (gt a 0) w R E) : C7_0.wpIn (Fw r) 0 P (Qs (wr C7_0) a Q) a w :=
  piece' (HJ := HJ7_0 R E) (HL := HL7_0 R E) hmix hs (by decide +kernel) (fun _ _ => False) (fun a w => resQ P Tryz.f7.results a w R) Y0 E (fun _ _ _ h => h.elim) hR
  (fun _ _ _ _ h => h.elim) hE
  ⟨pay (c := Code.loop C7_b3) (W := wr C7_0) (h := fun a w => S7_l3 (a 0) (a 3) (a 4) w (fun x3 y => S7_j16 x3 y R E) E) (by decide +kernel) fun a w hsz h => T7_l3 a w (hsz.trans hs) (fun x3 y => S7_j16 x3 y R E) E (fun _ _ _ h => h) (fun _ _ _ h => h) h, pay (c := C7_j16) (W := wr C7_0) (h := fun a w => S7_j16 (a 3) w R E) (by decide +kernel) fun a w hsz h => T7_j16 a w (hsz.trans hs) R E (fun _ _ _ h => h) (fun _ _ _ h => h) h, trivial⟩ (Eq.mpr (K7_0 (gt a) w R E) h)
theorem F7 (a0 : Value) (w : World) (R : K1) (E : Ev) (h : S7_0 a0 w R E) : C P 7 #[a0] w R E := by
  have e : S7_0 (gt (A0 Tryz.f7.ntmps #[a0]) 0) w R E = S7_0 a0 w R E := by kernel_rfl
  have t := T7_0 (r := none) (Q := QF P Tryz.f7 R E) (A0 Tryz.f7.ntmps #[a0]) w (by kernel_rfl) R E (fun _ _ _ h => h) (fun _ _ _ h => h) (Eq.mpr e h)
  exact C_of (c := C7_0) Tryz.func7 (by kernel_rfl) t
def S8_0 (v0 v1 : Value) (w : World) (R : K1) (E : Ev) : Prop :=
  X P (.alloc 28) 0 w (fun t4 w1 =>
  (X P (.callF 9 #[v0, (.int .i64 4)]) 3 (drw w1) (fun t6 w2 =>
  XQ P (.bin .shl 3 true false (.int .i64 1) t6) 3 w2 (fun t7 =>
  (X P (.callF 9 #[v1, (.int .i64 3)]) 3 w2 (fun t9 w3 =>
  (XQ P (.bin .shl 3 true false (.int .i64 1) t6) 3 w3 (fun v => v = t7)) ∧
  XQ P (.bin .add 3 true false (.int .i64 1) t9) 3 w3 (fun t10 =>
  XQ P (.build 28 #[(0, t7), (1, t10), (2, (.int .i64 16))]) 28 w3 (fun t11 =>
  (X P (.store 28 t4 t11) 0 w3 (fun _ w4 =>
  XRes P [(t4, some 28)] w4 R) E)))) E))) E)) E
noncomputable def C8_0 : Code := bodyOf Tryz.f8
theorem K8_0 (g : Env) (w : World) (R : K1) (E : Ev) :
  vcF P Z0 Z0 C8_0 (QC (fun _ _ => False) (fun a w => resQ P Tryz.f8.results a w R) Y0 E) g w = S8_0 (g 0) (g 1) w R E := by kernel_rfl
theorem T8_0 (hs : a.tmps.size = 12) (R : K1) (E : Ev) (hR : ∀ a' w', Ag (wr C8_0) a a' → resQ P Tryz.f8.results (gt a') w' R → Q .ret a' w') (hE : HE Q E)
  (h : S8_0 (gt a 0) (gt a 1) w R E) : C8_0.wpIn (Fw r) 0 P (Qs (wr C8_0) a Q) a w :=
  piece' (HJ := Z0) (HL := Z0) hmix hs (by decide +kernel) (fun _ _ => False) (fun a w => resQ P Tryz.f8.results a w R) Y0 E (fun _ _ _ h => h.elim) hR
  (fun _ _ _ _ h => h.elim) hE
  trivial (Eq.mpr (K8_0 (gt a) w R E) h)
theorem F8 (a0 a1 : Value) (w : World) (R : K1) (E : Ev) (h : S8_0 a0 a1 w R E) : C P 8 #[a0, a1] w R E := by
  have e : S8_0 (gt (A0 Tryz.f8.ntmps #[a0, a1]) 0) (gt (A0 Tryz.f8.ntmps #[a0, a1]) 1) w R E = S8_0 a0 a1 w R E := by kernel_rfl
  have t := T8_0 (r := none) (Q := QF P Tryz.f8 R E) (A0 Tryz.f8.ntmps #[a0, a1]) w (by kernel_rfl) R E (fun _ _ _ h => h) (fun _ _ _ h => h) (Eq.mpr e h)
  exact C_of (c := C8_0) Tryz.func8 (by kernel_rfl) t
def S9_j3 (v0 v1 : Value) (w : World) (R : K1) (E : Ev) : Prop :=
  X P (.bin .rem 3 false false v0 v1) 3 w (fun t12 w1 =>
  R t12 w1) E
noncomputable def C9_j3 : Code := cR (cR (bodyOf Tryz.f9))
theorem K9_j3 (g : Env) (w : World) (R : K1) (E : Ev) :
  vcF P Z0 Z0 C9_j3 (QC (fun _ _ => False) (fun a w => resQ P Tryz.f9.results a w R) Y0 E) g w = S9_j3 (g 0) (g 1) w R E := by kernel_rfl
theorem T9_j3 (hs : a.tmps.size = 13) (R : K1) (E : Ev) (hR : ∀ a' w', Ag (wr C9_j3) a a' → resQ P Tryz.f9.results (gt a') w' R → Q .ret a' w') (hE : HE Q E)
  (h : S9_j3 (gt a 0) (gt a 1) w R E) : C9_j3.wpIn (Fw r) 0 P (Qs (wr C9_j3) a Q) a w :=
  piece' (HJ := Z0) (HL := Z0) hmix hs (by decide +kernel) (fun _ _ => False) (fun a w => resQ P Tryz.f9.results a w R) Y0 E (fun _ _ _ h => h.elim) hR
  (fun _ _ _ _ h => h.elim) hE
  trivial (Eq.mpr (K9_j3 (gt a) w R E) h)
def S9_0 (v0 v1 : Value) (w : World) (R : K1) (E : Ev) : Prop :=
  X P (.bin .lss 3 false true v0 (.int .i64 0)) 4 w (fun t6 w1 =>
  Cnd t6 (
  X P (.bin .add 3 false true v0 (.int .i64 1)) 3 w1 (fun t8 w2 =>
  X P (.un .neg t8) 3 w2 (fun t9 w3 =>
  S9_j3 t9 v1 w3 R E) E) E) (
  S9_j3 v0 v1 w1 R E)) E
noncomputable def C9_0 : Code := bodyOf Tryz.f9
noncomputable def HJ9_0 (R : K1) (E : Ev) : Cut := fun i => match i with | some 3 => some (fun a w => S9_j3 (a 0) (a 1) w R E) | _ => none
theorem K9_0 (g : Env) (w : World) (R : K1) (E : Ev) :
  vcF P (HJ9_0 R E) Z0 C9_0 (QC (fun _ _ => False) (fun a w => resQ P Tryz.f9.results a w R) Y0 E) g w = S9_0 (g 0) (g 1) w R E := by kernel_rfl
theorem T9_0 (hs : a.tmps.size = 13) (R : K1) (E : Ev) (hR : ∀ a' w', Ag (wr C9_0) a a' → resQ P Tryz.f9.results (gt a') w' R → Q .ret a' w') (hE : HE Q E)
  (h : S9_0 (gt a 0) (gt a 1) w R E) : C9_0.wpIn (Fw r) 0 P (Qs (wr C9_0) a Q) a w :=
  piece' (HJ := HJ9_0 R E) (HL := Z0) hmix hs (by decide +kernel) (fun _ _ => False) (fun a w => resQ P Tryz.f9.results a w R) Y0 E (fun _ _ _ h => h.elim) hR
  (fun _ _ _ _ h => h.elim) hE
  ⟨pay (c := C9_j3) (W := wr C9_0) (h := fun a w => S9_j3 (a 0) (a 1) w R E) (by decide +kernel) fun a w hsz h => T9_j3 a w (hsz.trans hs) R E (fun _ _ _ h => h) (fun _ _ _ h => h) h, trivial⟩ (Eq.mpr (K9_0 (gt a) w R E) h)
theorem F9 (a0 a1 : Value) (w : World) (R : K1) (E : Ev) (h : S9_0 a0 a1 w R E) : C P 9 #[a0, a1] w R E := by
  have e : S9_0 (gt (A0 Tryz.f9.ntmps #[a0, a1]) 0) (gt (A0 Tryz.f9.ntmps #[a0, a1]) 1) w R E = S9_0 a0 a1 w R E := by kernel_rfl
  have t := T9_0 (r := none) (Q := QF P Tryz.f9 R E) (A0 Tryz.f9.ntmps #[a0, a1]) w (by kernel_rfl) R E (fun _ _ _ h => h) (fun _ _ _ h => h) (Eq.mpr e h)
  exact C_of (c := C9_0) Tryz.func9 (by kernel_rfl) t
def S10_j17 (v7 : Value) (w : World) (R : K1) (E : Ev) : Prop :=
  R v7 w
noncomputable def C10_j17 : Code := cR (cR (cR (cR (cR (cR (bodyOf Tryz.f10))))))
theorem K10_j17 (g : Env) (w : World) (R : K1) (E : Ev) :
  vcF P Z0 Z0 C10_j17 (QC (fun _ _ => False) (fun a w => resQ P Tryz.f10.results a w R) Y0 E) g w = S10_j17 (g 7) w R E := by kernel_rfl
theorem T10_j17 (hs : a.tmps.size = 72) (R : K1) (E : Ev) (hR : ∀ a' w', Ag (wr C10_j17) a a' → resQ P Tryz.f10.results (gt a') w' R → Q .ret a' w') (hE : HE Q E)
  (h : S10_j17 (gt a 7) w R E) : C10_j17.wpIn (Fw r) 0 P (Qs (wr C10_j17) a Q) a w :=
  piece' (HJ := Z0) (HL := Z0) hmix hs (by decide +kernel) (fun _ _ => False) (fun a w => resQ P Tryz.f10.results a w R) Y0 E (fun _ _ _ h => h.elim) hR
  (fun _ _ _ _ h => h.elim) hE
  trivial (Eq.mpr (K10_j17 (gt a) w R E) h)
def S10_b8 (v0 v7 v8 v10 : Value) (w : World) (N : K4) (X0 : K1) (R : K1) (E : Ev) : Prop :=
  X P (.callB .len #[25] #[false] #[v0]) 3 w (fun t35 w1 =>
  X P (.bin .lss 3 false false v10 t35) 4 w1 (fun t36 w2 =>
  Cnd t36 (
  X P (.callF 21 #[v8]) 73 w2 (fun t41 w3 =>
  X P (.extract t41 0) 72 w3 (fun t42 w4 =>
  X P (.extract t41 1) 53 w4 (fun t43 w5 =>
  X P (.bin .neq 53 false true t43 (.int .i64 0)) 4 w5 (fun t45 w6 =>
  XG (some t45) false P (.val t42) 72 w6 (fun t47 w7 =>
  XG (some t45) false P (.bin .eql 72 false true t47 (.pointer none)) 4 w7 (fun t48 w8 =>
  X P (.pick t45 (.bool true) t48) 4 w8 (fun t49 w9 =>
  Cnd t49 (
  R (.pointer none) w9) (
  X P (.indexAddr 25 v0 v10) 0 w9 (fun t53 w10 =>
  X P (.load 57 t53) 57 w10 (fun t54 w11 =>
  X P (.callF 22 #[t42, t54]) 53 w11 (fun t55 w12 =>
  XQ P (.nilCheck v7) 0 (drw w12) (fun t57 =>
  XQ P (.fieldAddr 46 t57 3) 0 (drw w12) (fun t58 =>
  XQ P (.load 44 t58) 44 (drw w12) (fun t59 =>
  XQ P (.bin .add 3 false true v10 (.int .i64 1)) 3 (drw w12) (fun t61 =>
  (X P (.callF 24 #[t42]) 38 (drw w12) (fun t63 w13 =>
  (XQ P (.bin .add 3 false true v10 (.int .i64 1)) 3 w13 (fun v => v = t61)) ∧
  (XQ P (.load 44 t58) 44 w13 (fun v => v = t59)) ∧
  (XQ P (.fieldAddr 46 t57 3) 0 w13 (fun v => v = t58)) ∧
  (XQ P (.nilCheck v7) 0 w13 (fun v => v = t57)) ∧
  (X P (.callF 23 #[t59, t61, t63]) 53 w13 (fun t64 w14 =>
  X P (.bin .neq 53 false true t55 (.int .i64 0)) 4 w14 (fun t66 w15 =>
  XG (some t66) false P (.val t64) 53 w15 (fun t68 w16 =>
  XG (some t66) false P (.bin .neq 53 false true t68 (.int .i64 0)) 4 w16 (fun t69 w17 =>
  X P (.pick t66 (.bool true) t69) 4 w17 (fun t70 w18 =>
  Cnd t70 (
  R (.pointer none) w18) (
  X P (.bin .add 3 false true v10 (.int .i64 1)) 3 w18 (fun t38 w19 =>
  N v0 v7 v8 t38 w19) E)) E) E) E) E) E)) E)))))) E) E) E)) E) E) E) E) E) E) E) (
  X0 v7 w2)) E) E
noncomputable def C10_b8 : Code := cB (cB (cR (cL (cR (cR (cR (cR (cR (bodyOf Tryz.f10)))))))))
noncomputable def J10_b8 (N : K4) (X0 : K1) (R : K1) (E : Ev) : Nat → Env → World → Prop := fun i a w => match i with | 0 => X0 (a 7) w | _ => False
theorem K10_b8 (g : Env) (w : World) (N : K4) (X0 : K1) (R : K1) (E : Ev) :
  vcF P Z0 Z0 C10_b8 (QC (fun a w => N (a 0) (a 7) (a 8) (a 10) w) (fun a w => resQ P Tryz.f10.results a w R) (J10_b8 N X0 R E) E) g w = S10_b8 (g 0) (g 7) (g 8) (g 10) w N X0 R E := by kernel_rfl
theorem T10_b8 (hs : a.tmps.size = 72) (N : K4) (X0 : K1) (R : K1) (E : Ev) (hN : ∀ a' w', Ag (wr C10_b8) a a' → N (gt a' 0) (gt a' 7) (gt a' 8) (gt a' 10) w' → Q .normal a' w') (hX0 : ∀ a' w', Ag (wr C10_b8) a a' → X0 (gt a' 7) w' → Q (.exit 0) a' w') (hR : ∀ a' w', Ag (wr C10_b8) a a' → resQ P Tryz.f10.results (gt a') w' R → Q .ret a' w') (hE : HE Q E)
  (h : S10_b8 (gt a 0) (gt a 7) (gt a 8) (gt a 10) w N X0 R E) : C10_b8.wpIn (Fw r) 0 P (Qs (wr C10_b8) a Q) a w :=
  piece' (HJ := Z0) (HL := Z0) hmix hs (by decide +kernel) (fun a w => N (a 0) (a 7) (a 8) (a 10) w) (fun a w => resQ P Tryz.f10.results a w R) (J10_b8 N X0 R E) E hN hR
  (fun i a' w' hag h => by
  unfold J10_b8 at h
  split at h <;> first | exact hX0 _ _ hag h | exact h.elim) hE
  trivial (Eq.mpr (K10_b8 (gt a) w N X0 R E) h)
def S10_l8 (v0 v7 v8 v10 : Value) (w : World) (X0 : K1) (R : K1) (E : Ev) : Prop :=
  ∃ (I : K1) (μ : Value → World → Nat), I v10 w ∧ ∀ (v10 : Value) (w : World), I v10 w → S10_b8 v0 v7 v8 v10 w (fun x0 x7 x8 x10 y => I x10 y ∧ μ x10 y < μ v10 w) X0 R E
theorem T10_l8 (hs : a.tmps.size = 72) (X0 : K1) (R : K1) (E : Ev) (hX0 : ∀ a' w', Ag (wr (Code.loop C10_b8)) a a' → X0 (gt a' 7) w' → Q (.exit 0) a' w') (hR : ∀ a' w', Ag (wr (Code.loop C10_b8)) a a' → resQ P Tryz.f10.results (gt a') w' R → Q .ret a' w') (hE : HE Q E)
  (h : S10_l8 (gt a 0) (gt a 7) (gt a 8) (gt a 10) w X0 R E) : (Code.loop C10_b8).wpIn (Fw r) 0 P (Qs (wr (Code.loop C10_b8)) a Q) a w := by
  obtain ⟨I, μ, h0, hr⟩ := h
  refine loop_piece (c := C10_b8) (fun a w => I (gt a 10) w) (fun a w => μ (gt a 10) w) h0 fun a' w' hag hI => ?_
  have h' := hr (gt a' 10) w' hI
  rw [← hag.get 0 (by decide +kernel)] at h'
  rw [← hag.get 7 (by decide +kernel)] at h'
  rw [← hag.get 8 (by decide +kernel)] at h'
  exact T10_b8 a' w' (hag.size.trans hs) (fun x0 x7 x8 x10 y => I x10 y ∧ μ x10 y < μ (gt a' 10) w') X0 R E (fun _ _ _ h => h) (fun a1 w1 hag1 h => hX0 a1 w1 (hag.trans hag1) h) (fun a1 w1 hag1 h => hR a1 w1 (hag.trans hag1) h) hE h'
def S10_0 (v0 v1 v2 : Value) (w : World) (R : K1) (E : Ev) : Prop :=
  X P (.box 28 v1) 0 w (fun t4 w1 =>
  X P (.load 28 t4) 28 w1 (fun t14 w2 =>
  X P (.callF 19 #[(.int .i64 64), t14, v2]) 31 w2 (fun t16 w3 =>
  X P (.bin .eql 31 false true t16 (.pointer none)) 4 w3 (fun t18 w4 =>
  Cnd t18 (
  R (.pointer none) w4) (
  X P (.nilCheck t16) 0 w4 (fun t21 w5 =>
  X P (.fieldAddr 46 t21 0) 0 w5 (fun t22 w6 =>
  X P (.load 41 t22) 41 w6 (fun t23 w7 =>
  X P (.callF 20 #[t23, (.int .u32 163840), (.int .i64 24)]) 70 w7 (fun t24 w8 =>
  X P (.extract t24 0) 69 w8 (fun t25 w9 =>
  X P (.extract t24 1) 53 w9 (fun t26 w10 =>
  X P (.bin .neq 53 false true t26 (.int .i64 0)) 4 w10 (fun t28 w11 =>
  XG (some t28) false P (.val t25) 69 w11 (fun t30 w12 =>
  XG (some t28) false P (.bin .eql 69 false true t30 (.pointer none)) 4 w12 (fun t31 w13 =>
  X P (.pick t28 (.bool true) t31) 4 w13 (fun t32 w14 =>
  Cnd t32 (
  R (.pointer none) w14) (
  S10_l8 v0 t16 t25 (.int .i64 0) w14 (fun x7 y => S10_j17 x7 y R E) R E)) E) E) E) E) E) E) E) E) E) E)) E) E) E) E
noncomputable def C10_0 : Code := bodyOf Tryz.f10
noncomputable def HJ10_0 (R : K1) (E : Ev) : Cut := fun i => match i with | some 17 => some (fun a w => S10_j17 (a 7) w R E) | _ => none
noncomputable def HL10_0 (R : K1) (E : Ev) : Cut := fun i => match i with | some 8 => some (fun a w => S10_l8 (a 0) (a 7) (a 8) (a 10) w (fun x7 y => S10_j17 x7 y R E) R E) | _ => none
theorem K10_0 (g : Env) (w : World) (R : K1) (E : Ev) :
  vcF P (HJ10_0 R E) (HL10_0 R E) C10_0 (QC (fun _ _ => False) (fun a w => resQ P Tryz.f10.results a w R) Y0 E) g w = S10_0 (g 0) (g 1) (g 2) w R E := by kernel_rfl
theorem T10_0 (hs : a.tmps.size = 72) (R : K1) (E : Ev) (hR : ∀ a' w', Ag (wr C10_0) a a' → resQ P Tryz.f10.results (gt a') w' R → Q .ret a' w') (hE : HE Q E)
  (h : S10_0 (gt a 0) (gt a 1) (gt a 2) w R E) : C10_0.wpIn (Fw r) 0 P (Qs (wr C10_0) a Q) a w :=
  piece' (HJ := HJ10_0 R E) (HL := HL10_0 R E) hmix hs (by decide +kernel) (fun _ _ => False) (fun a w => resQ P Tryz.f10.results a w R) Y0 E (fun _ _ _ h => h.elim) hR
  (fun _ _ _ _ h => h.elim) hE
  ⟨pay (c := Code.loop C10_b8) (W := wr C10_0) (h := fun a w => S10_l8 (a 0) (a 7) (a 8) (a 10) w (fun x7 y => S10_j17 x7 y R E) R E) (by decide +kernel) fun a w hsz h => T10_l8 a w (hsz.trans hs) (fun x7 y => S10_j17 x7 y R E) R E (fun _ _ _ h => h) (fun _ _ _ h => h) (fun _ _ _ h => h) h, pay (c := C10_j17) (W := wr C10_0) (h := fun a w => S10_j17 (a 7) w R E) (by decide +kernel) fun a w hsz h => T10_j17 a w (hsz.trans hs) R E (fun _ _ _ h => h) (fun _ _ _ h => h) h, trivial⟩ (Eq.mpr (K10_0 (gt a) w R E) h)
theorem F10 (a0 a1 a2 : Value) (w : World) (R : K1) (E : Ev) (h : S10_0 a0 a1 a2 w R E) : C P 10 #[a0, a1, a2] w R E := by
  have e : S10_0 (gt (A0 Tryz.f10.ntmps #[a0, a1, a2]) 0) (gt (A0 Tryz.f10.ntmps #[a0, a1, a2]) 1) (gt (A0 Tryz.f10.ntmps #[a0, a1, a2]) 2) w R E = S10_0 a0 a1 a2 w R E := by kernel_rfl
  have t := T10_0 (r := none) (Q := QF P Tryz.f10 R E) (A0 Tryz.f10.ntmps #[a0, a1, a2]) w (by kernel_rfl) R E (fun _ _ _ h => h) (fun _ _ _ h => h) (Eq.mpr e h)
  exact C_of (c := C10_0) Tryz.func10 (by kernel_rfl) t
def S11_j30 (v0 v1 v7 v9 v10 v12 : Value) (w : World) (R : K1) (E : Ev) : Prop :=
  X P (.bin .andNot 38 false true v12 (.int .u32 3)) 38 w (fun t228 w1 =>
  X P (.load 40 v7) 40 w1 (fun t229 w2 =>
  X P (.callF 31 #[v0, v1, v10, v9, t228, t229]) 4 w2 (fun t230 w3 =>
  R t230 w3) E) E) E
noncomputable def C11_j30 : Code := cR (cR (cR (cR (cR (cR (cR (bodyOf Tryz.f11)))))))
theorem K11_j30 (g : Env) (w : World) (R : K1) (E : Ev) :
  vcF P Z0 Z0 C11_j30 (QC (fun _ _ => False) (fun a w => resQ P Tryz.f11.results a w R) Y0 E) g w = S11_j30 (g 0) (g 1) (g 7) (g 9) (g 10) (g 12) w R E := by kernel_rfl
theorem T11_j30 (hs : a.tmps.size = 231) (R : K1) (E : Ev) (hR : ∀ a' w', Ag (wr C11_j30) a a' → resQ P Tryz.f11.results (gt a') w' R → Q .ret a' w') (hE : HE Q E)
  (h : S11_j30 (gt a 0) (gt a 1) (gt a 7) (gt a 9) (gt a 10) (gt a 12) w R E) : C11_j30.wpIn (Fw r) 0 P (Qs (wr C11_j30) a Q) a w :=
  piece' (HJ := Z0) (HL := Z0) hmix hs (by decide +kernel) (fun _ _ => False) (fun a w => resQ P Tryz.f11.results a w R) Y0 E (fun _ _ _ h => h.elim) hR
  (fun _ _ _ _ h => h.elim) hE
  trivial (Eq.mpr (K11_j30 (gt a) w R E) h)
def S11_j26 (v24 v25 v26 : Value) (w : World) (R : K1) (E : Ev) : Prop :=
  X P (.bin .eql 49 false false v24 v26) 4 w (fun t197 w1 =>
  XG (some t197) true P (.val v25) 3 w1 (fun t199 w2 =>
  XG (some t197) true P (.bin .geq 3 false true t199 (.int .i64 0)) 4 w2 (fun t200 w3 =>
  X P (.pick t197 t200 (.bool false)) 4 w3 (fun t201 w4 =>
  XG (some t201) true P (.val v25) 3 w4 (fun t203 w5 =>
  XG (some t201) true P (.bin .leq 3 false true t203 (.int .i64 60)) 4 w5 (fun t204 w6 =>
  X P (.pick t201 t204 (.bool false)) 4 w6 (fun t205 w7 =>
  R t205 w7) E) E) E) E) E) E) E
noncomputable def C11_j26 : Code := cR (cR (cR (cR (cT (cR (cF (cR (cF (cR (cB (cR (cL (cR (cR (cR (cR (cR (cR (bodyOf Tryz.f11)))))))))))))))))))
theorem K11_j26 (g : Env) (w : World) (R : K1) (E : Ev) :
  vcF P Z0 Z0 C11_j26 (QC (fun _ _ => False) (fun a w => resQ P Tryz.f11.results a w R) Y0 E) g w = S11_j26 (g 24) (g 25) (g 26) w R E := by kernel_rfl
theorem T11_j26 (hs : a.tmps.size = 231) (R : K1) (E : Ev) (hR : ∀ a' w', Ag (wr C11_j26) a a' → resQ P Tryz.f11.results (gt a') w' R → Q .ret a' w') (hE : HE Q E)
  (h : S11_j26 (gt a 24) (gt a 25) (gt a 26) w R E) : C11_j26.wpIn (Fw r) 0 P (Qs (wr C11_j26) a Q) a w :=
  piece' (HJ := Z0) (HL := Z0) hmix hs (by decide +kernel) (fun _ _ => False) (fun a w => resQ P Tryz.f11.results a w R) Y0 E (fun _ _ _ h => h.elim) hR
  (fun _ _ _ _ h => h.elim) hE
  trivial (Eq.mpr (K11_j26 (gt a) w R E) h)
def S11_j21 (v0 v1 v7 v9 v10 v11 v12 v47 v158 : Value) (w : World) (N : K6) (R : K1) (E : Ev) : Prop :=
  Cnd v158 (
  X P (.conv 3 38 v11) 38 w (fun t163 w1 =>
  X P (.bin .quo 38 false false v12 t163) 38 w1 (fun t164 w2 =>
  X P (.conv 3 38 v11) 38 w2 (fun t166 w3 =>
  X P (.bin .mul 38 false false t164 t166) 38 w3 (fun t167 w4 =>
  X P (.callF 26 #[v10, t167, (.int .u8 2)]) 77 w4 (fun t171 w5 =>
  X P (.extract t171 0) 38 w5 (fun t172 w6 =>
  X P (.extract t171 1) 49 w6 (fun t173 w7 =>
  XQ P (.nilCheck v0) 0 (drw w7) (fun t176 =>
  XQ P (.fieldAddr 46 t176 3) 0 (drw w7) (fun t177 =>
  XQ P (.load 44 t177) 44 (drw w7) (fun t178 =>
  XQ P (.fieldAddr 40 v7 5) 0 (drw w7) (fun t182 =>
  XQ P (.load 38 t182) 38 (drw w7) (fun t183 =>
  (X P (.callF 17 #[t178, v9, t167, v11, t183]) 63 (drw w7) (fun t184 w8 =>
  XQ P (.extract t184 0) 3 w8 (fun t185 =>
  XQ P (.extract t184 1) 49 w8 (fun t186 =>
  X P (.bin .eql 49 false true t173 (.int .i64 0)) 4 w8 (fun t188 w9 =>
  Cnd t188 (
  X P (.fieldAddr 40 v7 5) 0 w9 (fun t192 w10 =>
  X P (.load 38 t192) 38 w10 (fun t193 w11 =>
  X P (.callF 29 #[v1, t172, v11, t193]) 0 w11 (fun t194 w12 =>
  S11_j26 t173 t185 t186 w12 R E) E) E) E) (
  S11_j26 t173 t185 t186 w9 R E)) E))) E))))))) E) E) E) E) E) E) E) (
  X P (.bin .eql 3 false true v47 (.int .i64 7)) 4 w (fun t207 w1 =>
  Cnd t207 (
  X P (.nilCheck v0) 0 w1 (fun t209 w2 =>
  X P (.fieldAddr 46 t209 3) 0 w2 (fun t210 w3 =>
  X P (.load 44 t210) 44 w3 (fun t211 w4 =>
  X P (.callF 12 #[t211]) 3 w4 (fun t212 w5 =>
  X P (.bin .geq 3 false true t212 (.int .i64 0)) 4 w5 (fun t214 w6 =>
  XG (some t214) true P (.val v0) 31 w6 (fun t216 w7 =>
  XG (some t214) true P (.nilCheck t216) 0 w7 (fun t217 w8 =>
  XG (some t214) true P (.fieldAddr 46 t217 2) 0 w8 (fun t218 w9 =>
  XG (some t214) true P (.load 43 t218) 43 w9 (fun t219 w10 =>
  XG (some t214) true P (.callF 30 #[t219]) 3 w10 (fun t220 w11 =>
  XG (some t214) true P (.bin .eql 3 false true t220 (.int .i64 0)) 4 w11 (fun t221 w12 =>
  X P (.pick t214 t221 (.bool false)) 4 w12 (fun t222 w13 =>
  R t222 w13) E) E) E) E) E) E) E) E) E) E) E) E) (
  N v0 v1 v7 v9 v10 v12 w1)) E)
noncomputable def C11_j21 : Code := cR (cF (cR (cF (cR (cB (cR (cL (cR (cR (cR (cR (cR (cR (bodyOf Tryz.f11))))))))))))))
noncomputable def HJ11_j21 (N : K6) (R : K1) (E : Ev) : Cut := fun i => match i with | some 26 => some (fun a w => S11_j26 (a 24) (a 25) (a 26) w R E) | _ => none
theorem K11_j21 (g : Env) (w : World) (N : K6) (R : K1) (E : Ev) :
  vcF P (HJ11_j21 N R E) Z0 C11_j21 (QC (fun a w => N (a 0) (a 1) (a 7) (a 9) (a 10) (a 12) w) (fun a w => resQ P Tryz.f11.results a w R) Y0 E) g w = S11_j21 (g 0) (g 1) (g 7) (g 9) (g 10) (g 11) (g 12) (g 47) (g 158) w N R E := by kernel_rfl
theorem T11_j21 (hs : a.tmps.size = 231) (N : K6) (R : K1) (E : Ev) (hN : ∀ a' w', Ag (wr C11_j21) a a' → N (gt a' 0) (gt a' 1) (gt a' 7) (gt a' 9) (gt a' 10) (gt a' 12) w' → Q .normal a' w') (hR : ∀ a' w', Ag (wr C11_j21) a a' → resQ P Tryz.f11.results (gt a') w' R → Q .ret a' w') (hE : HE Q E)
  (h : S11_j21 (gt a 0) (gt a 1) (gt a 7) (gt a 9) (gt a 10) (gt a 11) (gt a 12) (gt a 47) (gt a 158) w N R E) : C11_j21.wpIn (Fw r) 0 P (Qs (wr C11_j21) a Q) a w :=
  piece' (HJ := HJ11_j21 N R E) (HL := Z0) hmix hs (by decide +kernel) (fun a w => N (a 0) (a 1) (a 7) (a 9) (a 10) (a 12) w) (fun a w => resQ P Tryz.f11.results a w R) Y0 E hN hR
  (fun _ _ _ _ h => h.elim) hE
  ⟨pay (c := C11_j26) (W := wr C11_j21) (h := fun a w => S11_j26 (a 24) (a 25) (a 26) w R E) (by decide +kernel) fun a w hsz h => T11_j26 a w (hsz.trans hs) R E (fun _ _ _ h => h) (fun _ _ _ h => h) h, trivial⟩ (Eq.mpr (K11_j21 (gt a) w N R E) h)
def S11_j15 (v0 v1 v7 v9 v10 v11 v12 v47 v99 : Value) (w : World) (N : K6) (R : K1) (E : Ev) : Prop :=
  Cnd v99 (
  X P (.conv 3 38 v11) 38 w (fun t104 w1 =>
  X P (.bin .quo 38 false false v12 t104) 38 w1 (fun t105 w2 =>
  X P (.conv 3 38 v11) 38 w2 (fun t107 w3 =>
  X P (.bin .mul 38 false false t105 t107) 38 w3 (fun t108 w4 =>
  X P (.callF 26 #[v10, t108, (.int .u8 1)]) 77 w4 (fun t112 w5 =>
  X P (.extract t112 0) 38 w5 (fun t113 w6 =>
  X P (.extract t112 1) 49 w6 (fun t114 w7 =>
  X P (.nilCheck v0) 0 w7 (fun t117 w8 =>
  X P (.fieldAddr 46 t117 3) 0 w8 (fun t118 w9 =>
  X P (.load 44 t118) 44 w9 (fun t119 w10 =>
  X P (.callF 14 #[t119, v9, t108, v11]) 50 w10 (fun t123 w11 =>
  X P (.extract t123 0) 38 w11 (fun t124 w12 =>
  X P (.extract t123 1) 3 w12 (fun t125 w13 =>
  X P (.extract t123 2) 49 w13 (fun t126 w14 =>
  X P (.bin .eql 49 false false t114 t126) 4 w14 (fun t129 w15 =>
  XG (some t129) true P (.val t125) 3 w15 (fun t131 w16 =>
  XG (some t129) true P (.bin .geq 3 false true t131 (.int .i64 0)) 4 w16 (fun t132 w17 =>
  X P (.pick t129 t132 (.bool false)) 4 w17 (fun t133 w18 =>
  XG (some t133) true P (.val t125) 3 w18 (fun t135 w19 =>
  XG (some t133) true P (.bin .leq 3 false true t135 (.int .i64 60)) 4 w19 (fun t136 w20 =>
  X P (.pick t133 t136 (.bool false)) 4 w20 (fun t137 w21 =>
  XG (some t137) true P (.val t114) 49 w21 (fun t139 w22 =>
  XG (some t137) true P (.bin .neq 49 false true t139 (.int .i64 0)) 4 w22 (fun t140 w23 =>
  XG (some t137) true P (.val t140) 4 w23 (fun t141 w24 =>
  XG (some t141) true P (.val t124) 38 w24 (fun t142 w25 =>
  XG (some t141) true P (.bin .eql 38 false true t142 (.int .u32 0)) 4 w25 (fun t143 w26 =>
  XG (some t137) true P (.pick t141 t143 (.bool false)) 4 w26 (fun t144 w27 =>
  XG (some t137) true P (.val t144) 4 w27 (fun t145 w28 =>
  XG (some t145) false P (.val t114) 49 w28 (fun t146 w29 =>
  XG (some t145) false P (.bin .eql 49 false true t146 (.int .i64 0)) 4 w29 (fun t147 w30 =>
  XG (some t145) false P (.val t147) 4 w30 (fun t148 w31 =>
  XG (some t148) true P (.val t124) 38 w31 (fun t149 w32 =>
  XG (some t148) true P (.val v1) 33 w32 (fun t150 w33 =>
  XG (some t148) true P (.val t113) 38 w33 (fun t151 w34 =>
  XG (some t148) true P (.val v11) 3 w34 (fun t152 w35 =>
  XG (some t148) true P (.callF 28 #[t150, t151, t152]) 38 w35 (fun t153 w36 =>
  XG (some t148) true P (.bin .eql 38 false false t149 t153) 4 w36 (fun t154 w37 =>
  XG (some t145) false P (.pick t148 t154 (.bool false)) 4 w37 (fun t155 w38 =>
  XG (some t137) true P (.pick t145 (.bool true) t155) 4 w38 (fun t156 w39 =>
  X P (.pick t137 t156 (.bool false)) 4 w39 (fun t157 w40 =>
  R t157 w40) E) E) E) E) E) E) E) E) E) E) E) E) E) E) E) E) E) E) E) E) E) E) E) E) E) E) E) E) E) E) E) E) E) E) E) E) E) E) E) E) (
  X P (.bin .eql 3 false true v47 (.int .i64 3)) 4 w (fun t159 w1 =>
  Cnd t159 (
  S11_j21 v0 v1 v7 v9 v10 v11 v12 v47 t159 w1 N R E) (
  X P (.bin .eql 3 false true v47 (.int .i64 4)) 4 w1 (fun t160 w2 =>
  S11_j21 v0 v1 v7 v9 v10 v11 v12 v47 t160 w2 N R E) E)) E)
noncomputable def C11_j15 : Code := cR (cF (cR (cB (cR (cL (cR (cR (cR (cR (cR (cR (bodyOf Tryz.f11))))))))))))
noncomputable def HJ11_j15 (N : K6) (R : K1) (E : Ev) : Cut := fun i => match i with | some 21 => some (fun a w => S11_j21 (a 0) (a 1) (a 7) (a 9) (a 10) (a 11) (a 12) (a 47) (a 158) w N R E) | _ => none
theorem K11_j15 (g : Env) (w : World) (N : K6) (R : K1) (E : Ev) :
  vcF P (HJ11_j15 N R E) Z0 C11_j15 (QC (fun a w => N (a 0) (a 1) (a 7) (a 9) (a 10) (a 12) w) (fun a w => resQ P Tryz.f11.results a w R) Y0 E) g w = S11_j15 (g 0) (g 1) (g 7) (g 9) (g 10) (g 11) (g 12) (g 47) (g 99) w N R E := by kernel_rfl
theorem T11_j15 (hs : a.tmps.size = 231) (N : K6) (R : K1) (E : Ev) (hN : ∀ a' w', Ag (wr C11_j15) a a' → N (gt a' 0) (gt a' 1) (gt a' 7) (gt a' 9) (gt a' 10) (gt a' 12) w' → Q .normal a' w') (hR : ∀ a' w', Ag (wr C11_j15) a a' → resQ P Tryz.f11.results (gt a') w' R → Q .ret a' w') (hE : HE Q E)
  (h : S11_j15 (gt a 0) (gt a 1) (gt a 7) (gt a 9) (gt a 10) (gt a 11) (gt a 12) (gt a 47) (gt a 99) w N R E) : C11_j15.wpIn (Fw r) 0 P (Qs (wr C11_j15) a Q) a w :=
  piece' (HJ := HJ11_j15 N R E) (HL := Z0) hmix hs (by decide +kernel) (fun a w => N (a 0) (a 1) (a 7) (a 9) (a 10) (a 12) w) (fun a w => resQ P Tryz.f11.results a w R) Y0 E hN hR
  (fun _ _ _ _ h => h.elim) hE
  ⟨pay (c := C11_j21) (W := wr C11_j15) (h := fun a w => S11_j21 (a 0) (a 1) (a 7) (a 9) (a 10) (a 11) (a 12) (a 47) (a 158) w N R E) (by decide +kernel) fun a w hsz h => T11_j21 a w (hsz.trans hs) N R E (fun _ _ _ h => h) (fun _ _ _ h => h) (fun _ _ _ h => h) h, trivial⟩ (Eq.mpr (K11_j15 (gt a) w N R E) h)
def S11_j5 (v0 v1 v7 v9 v10 : Value) (w : World) (R : K1) (E : Ev) : Prop :=
  X P (.load 40 v7) 40 w (fun t41 w1 =>
  X P (.callF 25 #[t41]) 3 w1 (fun t42 w2 =>
  X P (.load 40 v7) 40 w2 (fun t43 w3 =>
  X P (.callF 13 #[t43]) 38 w3 (fun t44 w4 =>
  X P (.fieldAddr 40 v7 0) 0 w4 (fun t45 w5 =>
  X P (.load 3 t45) 3 w5 (fun t46 w6 =>
  X P (.callF 9 #[t46, (.int .i64 8)]) 3 w6 (fun t47 w7 =>
  X P (.bin .eql 3 false true t47 (.int .i64 0)) 4 w7 (fun t49 w8 =>
  Cnd t49 (
  X P (.bin .andNot 38 false true t44 (.int .u32 3)) 38 w8 (fun t51 w9 =>
  X P (.callF 26 #[v10, t51, (.int .u8 4)]) 77 w9 (fun t55 w10 =>
  X P (.extract t55 0) 38 w10 (fun t56 w11 =>
  X P (.extract t55 1) 49 w11 (fun t57 w12 =>
  X P (.nilCheck v0) 0 w12 (fun t60 w13 =>
  X P (.fieldAddr 46 t60 3) 0 w13 (fun t61 w14 =>
  X P (.load 44 t61) 44 w14 (fun t62 w15 =>
  X P (.callF 27 #[t62, v9, t51]) 50 w15 (fun t65 w16 =>
  X P (.extract t65 0) 38 w16 (fun t66 w17 =>
  X P (.extract t65 1) 3 w17 (fun t67 w18 =>
  X P (.extract t65 2) 49 w18 (fun t68 w19 =>
  X P (.bin .eql 49 false false t57 t68) 4 w19 (fun t71 w20 =>
  XG (some t71) true P (.val t67) 3 w20 (fun t73 w21 =>
  XG (some t71) true P (.bin .geq 3 false true t73 (.int .i64 0)) 4 w21 (fun t74 w22 =>
  X P (.pick t71 t74 (.bool false)) 4 w22 (fun t75 w23 =>
  XG (some t75) true P (.val t67) 3 w23 (fun t77 w24 =>
  XG (some t75) true P (.bin .leq 3 false true t77 (.int .i64 60)) 4 w24 (fun t78 w25 =>
  X P (.pick t75 t78 (.bool false)) 4 w25 (fun t79 w26 =>
  XG (some t79) true P (.val t57) 49 w26 (fun t81 w27 =>
  XG (some t79) true P (.bin .neq 49 false true t81 (.int .i64 0)) 4 w27 (fun t82 w28 =>
  XG (some t79) true P (.val t82) 4 w28 (fun t83 w29 =>
  XG (some t83) true P (.val t66) 38 w29 (fun t84 w30 =>
  XG (some t83) true P (.bin .eql 38 false true t84 (.int .u32 0)) 4 w30 (fun t85 w31 =>
  XG (some t79) true P (.pick t83 t85 (.bool false)) 4 w31 (fun t86 w32 =>
  XG (some t79) true P (.val t86) 4 w32 (fun t87 w33 =>
  XG (some t87) false P (.val t57) 49 w33 (fun t88 w34 =>
  XG (some t87) false P (.bin .eql 49 false true t88 (.int .i64 0)) 4 w34 (fun t89 w35 =>
  XG (some t87) false P (.val t89) 4 w35 (fun t90 w36 =>
  XG (some t90) true P (.val t66) 38 w36 (fun t91 w37 =>
  XG (some t90) true P (.val v1) 33 w37 (fun t92 w38 =>
  XG (some t90) true P (.val t56) 38 w38 (fun t93 w39 =>
  XG (some t90) true P (.callF 28 #[t92, t93, (.int .i64 4)]) 38 w39 (fun t94 w40 =>
  XG (some t90) true P (.bin .eql 38 false false t91 t94) 4 w40 (fun t95 w41 =>
  XG (some t87) false P (.pick t90 t95 (.bool false)) 4 w41 (fun t96 w42 =>
  XG (some t79) true P (.pick t87 (.bool true) t96) 4 w42 (fun t97 w43 =>
  X P (.pick t79 t97 (.bool false)) 4 w43 (fun t98 w44 =>
  R t98 w44) E) E) E) E) E) E) E) E) E) E) E) E) E) E) E) E) E) E) E) E) E) E) E) E) E) E) E) E) E) E) E) E) E) E) E) E) (
  X P (.bin .eql 3 false true t47 (.int .i64 1)) 4 w8 (fun t100 w9 =>
  Cnd t100 (
  S11_j15 v0 v1 v7 v9 v10 t42 t44 t47 t100 w9 (fun x0 x1 x7 x9 x10 x12 y => S11_j30 x0 x1 x7 x9 x10 x12 y R E) R E) (
  X P (.bin .eql 3 false true t47 (.int .i64 2)) 4 w9 (fun t101 w10 =>
  S11_j15 v0 v1 v7 v9 v10 t42 t44 t47 t101 w10 (fun x0 x1 x7 x9 x10 x12 y => S11_j30 x0 x1 x7 x9 x10 x12 y R E) R E) E)) E)) E) E) E) E) E) E) E) E
noncomputable def C11_j5 : Code := cR (cR (cR (cR (bodyOf Tryz.f11))))
noncomputable def HJ11_j5 (R : K1) (E : Ev) : Cut := fun i => match i with | some 30 => some (fun a w => S11_j30 (a 0) (a 1) (a 7) (a 9) (a 10) (a 12) w R E) | some 15 => some (fun a w => S11_j15 (a 0) (a 1) (a 7) (a 9) (a 10) (a 11) (a 12) (a 47) (a 99) w (fun x0 x1 x7 x9 x10 x12 y => S11_j30 x0 x1 x7 x9 x10 x12 y R E) R E) | _ => none
theorem K11_j5 (g : Env) (w : World) (R : K1) (E : Ev) :
  vcF P (HJ11_j5 R E) Z0 C11_j5 (QC (fun _ _ => False) (fun a w => resQ P Tryz.f11.results a w R) Y0 E) g w = S11_j5 (g 0) (g 1) (g 7) (g 9) (g 10) w R E := by kernel_rfl
theorem T11_j5 (hs : a.tmps.size = 231) (R : K1) (E : Ev) (hR : ∀ a' w', Ag (wr C11_j5) a a' → resQ P Tryz.f11.results (gt a') w' R → Q .ret a' w') (hE : HE Q E)
  (h : S11_j5 (gt a 0) (gt a 1) (gt a 7) (gt a 9) (gt a 10) w R E) : C11_j5.wpIn (Fw r) 0 P (Qs (wr C11_j5) a Q) a w :=
  piece' (HJ := HJ11_j5 R E) (HL := Z0) hmix hs (by decide +kernel) (fun _ _ => False) (fun a w => resQ P Tryz.f11.results a w R) Y0 E (fun _ _ _ h => h.elim) hR
  (fun _ _ _ _ h => h.elim) hE
  ⟨pay (c := C11_j15) (W := wr C11_j5) (h := fun a w => S11_j15 (a 0) (a 1) (a 7) (a 9) (a 10) (a 11) (a 12) (a 47) (a 99) w (fun x0 x1 x7 x9 x10 x12 y => S11_j30 x0 x1 x7 x9 x10 x12 y R E) R E) (by decide +kernel) fun a w hsz h => T11_j15 a w (hsz.trans hs) (fun x0 x1 x7 x9 x10 x12 y => S11_j30 x0 x1 x7 x9 x10 x12 y R E) R E (fun _ _ _ h => h) (fun _ _ _ h => h) (fun _ _ _ h => h) h, pay (c := C11_j30) (W := wr C11_j5) (h := fun a w => S11_j30 (a 0) (a 1) (a 7) (a 9) (a 10) (a 12) w R E) (by decide +kernel) fun a w hsz h => T11_j30 a w (hsz.trans hs) R E (fun _ _ _ h => h) (fun _ _ _ h => h) h, trivial⟩ (Eq.mpr (K11_j5 (gt a) w R E) h)
def S11_0 (v0 v1 v2 v3 : Value) (w : World) (R : K1) (E : Ev) : Prop :=
  X P (.box 40 v3) 0 w (fun t7 w1 =>
  X P (.fieldAddr 40 t7 1) 0 w1 (fun t28 w2 =>
  X P (.load 3 t28) 3 w2 (fun t29 w3 =>
  X P (.callF 9 #[t29, (.int .i64 5)]) 3 w3 (fun t30 w4 =>
  X P (.bin .add 3 true false (.int .i64 1) t30) 3 w4 (fun t31 w5 =>
  X P (.callB .len #[25] #[false] #[v2]) 3 w5 (fun t34 w6 =>
  X P (.bin .leq 3 false false t31 t34) 4 w6 (fun t35 w7 =>
  Cnd t35 (
  X P (.bin .sub 3 false true t31 (.int .i64 1)) 3 w7 (fun t38 w8 =>
  X P (.indexAddr 25 v2 t38) 0 w8 (fun t39 w9 =>
  X P (.load 57 t39) 57 w9 (fun t40 w10 =>
  S11_j5 v0 v1 t7 t31 t40 w10 R E) E) E) E) (
  S11_j5 v0 v1 t7 t31 (.slice none 0 0) w7 R E)) E) E) E) E) E) E) E
noncomputable def C11_0 : Code := bodyOf Tryz.f11
noncomputable def HJ11_0 (R : K1) (E : Ev) : Cut := fun i => match i with | some 5 => some (fun a w => S11_j5 (a 0) (a 1) (a 7) (a 9) (a 10) w R E) | _ => none
theorem K11_0 (g : Env) (w : World) (R : K1) (E : Ev) :
  vcF P (HJ11_0 R E) Z0 C11_0 (QC (fun _ _ => False) (fun a w => resQ P Tryz.f11.results a w R) Y0 E) g w = S11_0 (g 0) (g 1) (g 2) (g 3) w R E := by kernel_rfl
theorem T11_0 (hs : a.tmps.size = 231) (R : K1) (E : Ev) (hR : ∀ a' w', Ag (wr C11_0) a a' → resQ P Tryz.f11.results (gt a') w' R → Q .ret a' w') (hE : HE Q E)
  (h : S11_0 (gt a 0) (gt a 1) (gt a 2) (gt a 3) w R E) : C11_0.wpIn (Fw r) 0 P (Qs (wr C11_0) a Q) a w :=
  piece' (HJ := HJ11_0 R E) (HL := Z0) hmix hs (by decide +kernel) (fun _ _ => False) (fun a w => resQ P Tryz.f11.results a w R) Y0 E (fun _ _ _ h => h.elim) hR
  (fun _ _ _ _ h => h.elim) hE
  ⟨pay (c := C11_j5) (W := wr C11_0) (h := fun a w => S11_j5 (a 0) (a 1) (a 7) (a 9) (a 10) w R E) (by decide +kernel) fun a w hsz h => T11_j5 a w (hsz.trans hs) R E (fun _ _ _ h => h) (fun _ _ _ h => h) h, trivial⟩ (Eq.mpr (K11_0 (gt a) w R E) h)
theorem F11 (a0 a1 a2 a3 : Value) (w : World) (R : K1) (E : Ev) (h : S11_0 a0 a1 a2 a3 w R E) : C P 11 #[a0, a1, a2, a3] w R E := by
  have e : S11_0 (gt (A0 Tryz.f11.ntmps #[a0, a1, a2, a3]) 0) (gt (A0 Tryz.f11.ntmps #[a0, a1, a2, a3]) 1) (gt (A0 Tryz.f11.ntmps #[a0, a1, a2, a3]) 2) (gt (A0 Tryz.f11.ntmps #[a0, a1, a2, a3]) 3) w R E = S11_0 a0 a1 a2 a3 w R E := by kernel_rfl
  have t := T11_0 (r := none) (Q := QF P Tryz.f11 R E) (A0 Tryz.f11.ntmps #[a0, a1, a2, a3]) w (by kernel_rfl) R E (fun _ _ _ h => h) (fun _ _ _ h => h) (Eq.mpr e h)
  exact C_of (c := C11_0) Tryz.func11 (by kernel_rfl) t
def S12_0 (v0 : Value) (w : World) (R : K1) (E : Ev) : Prop :=
  X P (.nilCheck v0) 0 w (fun t6 w1 =>
  X P (.fieldAddr 85 t6 2) 0 w1 (fun t7 w2 =>
  X P (.load 43 t7) 43 w2 (fun t8 w3 =>
  X P (.callF 32 #[t8]) 3 w3 (fun t9 w4 =>
  X P (.nilCheck v0) 0 w4 (fun t12 w5 =>
  X P (.fieldAddr 85 t12 1) 0 w5 (fun t13 w6 =>
  X P (.load 42 t13) 42 w6 (fun t14 w7 =>
  X P (.callF 33 #[t14]) 86 w7 (fun t15 w8 =>
  X P (.extract t15 0) 3 w8 (fun t16 w9 =>
  X P (.extract t15 1) 3 w9 (fun t17 w10 =>
  R t16 w10) E) E) E) E) E) E) E) E) E) E
noncomputable def C12_0 : Code := bodyOf Tryz.f12
theorem K12_0 (g : Env) (w : World) (R : K1) (E : Ev) :
  vcF P Z0 Z0 C12_0 (QC (fun _ _ => False) (fun a w => resQ P Tryz.f12.results a w R) Y0 E) g w = S12_0 (g 0) w R E := by kernel_rfl
theorem T12_0 (hs : a.tmps.size = 19) (R : K1) (E : Ev) (hR : ∀ a' w', Ag (wr C12_0) a a' → resQ P Tryz.f12.results (gt a') w' R → Q .ret a' w') (hE : HE Q E)
  (h : S12_0 (gt a 0) w R E) : C12_0.wpIn (Fw r) 0 P (Qs (wr C12_0) a Q) a w :=
  piece' (HJ := Z0) (HL := Z0) hmix hs (by decide +kernel) (fun _ _ => False) (fun a w => resQ P Tryz.f12.results a w R) Y0 E (fun _ _ _ h => h.elim) hR
  (fun _ _ _ _ h => h.elim) hE
  trivial (Eq.mpr (K12_0 (gt a) w R E) h)
theorem F12 (a0 : Value) (w : World) (R : K1) (E : Ev) (h : S12_0 a0 w R E) : C P 12 #[a0] w R E := by
  have e : S12_0 (gt (A0 Tryz.f12.ntmps #[a0]) 0) w R E = S12_0 a0 w R E := by kernel_rfl
  have t := T12_0 (r := none) (Q := QF P Tryz.f12 R E) (A0 Tryz.f12.ntmps #[a0]) w (by kernel_rfl) R E (fun _ _ _ h => h) (fun _ _ _ h => h) (Eq.mpr e h)
  exact C_of (c := C12_0) Tryz.func12 (by kernel_rfl) t
def S13_j4 (v1 v3 : Value) (w : World) (R : K1) (E : Ev) : Prop :=
  X P (.fieldAddr 40 v1 3) 0 w (fun t14 w1 =>
  X P (.load 3 t14) 3 w1 (fun t15 w2 =>
  X P (.callF 9 #[t15, (.int .i64 4096)]) 3 w2 (fun t16 w3 =>
  X P (.conv 3 38 t16) 38 w3 (fun t17 w4 =>
  X P (.bin .add 38 false false v3 t17) 38 w4 (fun t18 w5 =>
  R t18 w5) E) E) E) E) E
noncomputable def C13_j4 : Code := cR (cR (cR (bodyOf Tryz.f13)))
theorem K13_j4 (g : Env) (w : World) (R : K1) (E : Ev) :
  vcF P Z0 Z0 C13_j4 (QC (fun _ _ => False) (fun a w => resQ P Tryz.f13.results a w R) Y0 E) g w = S13_j4 (g 1) (g 3) w R E := by kernel_rfl
theorem T13_j4 (hs : a.tmps.size = 19) (R : K1) (E : Ev) (hR : ∀ a' w', Ag (wr C13_j4) a a' → resQ P Tryz.f13.results (gt a') w' R → Q .ret a' w') (hE : HE Q E)
  (h : S13_j4 (gt a 1) (gt a 3) w R E) : C13_j4.wpIn (Fw r) 0 P (Qs (wr C13_j4) a Q) a w :=
  piece' (HJ := Z0) (HL := Z0) hmix hs (by decide +kernel) (fun _ _ => False) (fun a w => resQ P Tryz.f13.results a w R) Y0 E (fun _ _ _ h => h.elim) hR
  (fun _ _ _ _ h => h.elim) hE
  trivial (Eq.mpr (K13_j4 (gt a) w R E) h)
def S13_0 (v0 : Value) (w : World) (R : K1) (E : Ev) : Prop :=
  X P (.box 40 v0) 0 w (fun t1 w1 =>
  X P (.fieldAddr 40 t1 2) 0 w1 (fun t4 w2 =>
  X P (.load 3 t4) 3 w2 (fun t5 w3 =>
  X P (.callF 9 #[t5, (.int .i64 33)]) 3 w3 (fun t6 w4 =>
  X P (.conv 3 38 t6) 38 w4 (fun t7 w5 =>
  X P (.bin .mul 38 false true t7 (.int .u32 4096)) 38 w5 (fun t8 w6 =>
  X P (.bin .geq 38 false true t8 (.int .u32 61440)) 4 w6 (fun t10 w7 =>
  Cnd t10 (
  X P (.bin .add 38 false true t8 (.int .u32 4194304)) 38 w7 (fun t12 w8 =>
  S13_j4 t1 t12 w8 R E) E) (
  S13_j4 t1 t8 w7 R E)) E) E) E) E) E) E) E
noncomputable def C13_0 : Code := bodyOf Tryz.f13
noncomputable def HJ13_0 (R : K1) (E : Ev) : Cut := fun i => match i with | some 4 => some (fun a w => S13_j4 (a 1) (a 3) w R E) | _ => none
theorem K13_0 (g : Env) (w : World) (R : K1) (E : Ev) :
  vcF P (HJ13_0 R E) Z0 C13_0 (QC (fun _ _ => False) (fun a w => resQ P Tryz.f13.results a w R) Y0 E) g w = S13_0 (g 0) w R E := by kernel_rfl
theorem T13_0 (hs : a.tmps.size = 19) (R : K1) (E : Ev) (hR : ∀ a' w', Ag (wr C13_0) a a' → resQ P Tryz.f13.results (gt a') w' R → Q .ret a' w') (hE : HE Q E)
  (h : S13_0 (gt a 0) w R E) : C13_0.wpIn (Fw r) 0 P (Qs (wr C13_0) a Q) a w :=
  piece' (HJ := HJ13_0 R E) (HL := Z0) hmix hs (by decide +kernel) (fun _ _ => False) (fun a w => resQ P Tryz.f13.results a w R) Y0 E (fun _ _ _ h => h.elim) hR
  (fun _ _ _ _ h => h.elim) hE
  ⟨pay (c := C13_j4) (W := wr C13_0) (h := fun a w => S13_j4 (a 1) (a 3) w R E) (by decide +kernel) fun a w hsz h => T13_j4 a w (hsz.trans hs) R E (fun _ _ _ h => h) (fun _ _ _ h => h) h, trivial⟩ (Eq.mpr (K13_0 (gt a) w R E) h)
theorem F13 (a0 : Value) (w : World) (R : K1) (E : Ev) (h : S13_0 a0 w R E) : C P 13 #[a0] w R E := by
  have e : S13_0 (gt (A0 Tryz.f13.ntmps #[a0]) 0) w R E = S13_0 a0 w R E := by kernel_rfl
  have t := T13_0 (r := none) (Q := QF P Tryz.f13 R E) (A0 Tryz.f13.ntmps #[a0]) w (by kernel_rfl) R E (fun _ _ _ h => h) (fun _ _ _ h => h) (Eq.mpr e h)
  exact C_of (c := C13_0) Tryz.func13 (by kernel_rfl) t
def S14_0 (v0 v1 v2 v3 : Value) (w : World) (R : K1) (E : Ev) : Prop :=
  X P (.callF 34 #[v0, v1, v2, v3, (.int .i64 1)]) 50 w (fun t15 w1 =>
  X P (.extract t15 0) 38 w1 (fun t16 w2 =>
  X P (.extract t15 1) 3 w2 (fun t17 w3 =>
  X P (.extract t15 2) 49 w3 (fun t18 w4 =>
  R (Value.tuple #[t16, t17, t18]) w4) E) E) E) E
noncomputable def C14_0 : Code := bodyOf Tryz.f14
theorem K14_0 (g : Env) (w : World) (R : K1) (E : Ev) :
  vcF P Z0 Z0 C14_0 (QC (fun _ _ => False) (fun a w => resQ P Tryz.f14.results a w R) Y0 E) g w = S14_0 (g 0) (g 1) (g 2) (g 3) w R E := by kernel_rfl
theorem T14_0 (hs : a.tmps.size = 19) (R : K1) (E : Ev) (hR : ∀ a' w', Ag (wr C14_0) a a' → resQ P Tryz.f14.results (gt a') w' R → Q .ret a' w') (hE : HE Q E)
  (h : S14_0 (gt a 0) (gt a 1) (gt a 2) (gt a 3) w R E) : C14_0.wpIn (Fw r) 0 P (Qs (wr C14_0) a Q) a w :=
  piece' (HJ := Z0) (HL := Z0) hmix hs (by decide +kernel) (fun _ _ => False) (fun a w => resQ P Tryz.f14.results a w R) Y0 E (fun _ _ _ h => h.elim) hR
  (fun _ _ _ _ h => h.elim) hE
  trivial (Eq.mpr (K14_0 (gt a) w R E) h)
theorem F14 (a0 a1 a2 a3 : Value) (w : World) (R : K1) (E : Ev) (h : S14_0 a0 a1 a2 a3 w R E) : C P 14 #[a0, a1, a2, a3] w R E := by
  have e : S14_0 (gt (A0 Tryz.f14.ntmps #[a0, a1, a2, a3]) 0) (gt (A0 Tryz.f14.ntmps #[a0, a1, a2, a3]) 1) (gt (A0 Tryz.f14.ntmps #[a0, a1, a2, a3]) 2) (gt (A0 Tryz.f14.ntmps #[a0, a1, a2, a3]) 3) w R E = S14_0 a0 a1 a2 a3 w R E := by kernel_rfl
  have t := T14_0 (r := none) (Q := QF P Tryz.f14 R E) (A0 Tryz.f14.ntmps #[a0, a1, a2, a3]) w (by kernel_rfl) R E (fun _ _ _ h => h) (fun _ _ _ h => h) (Eq.mpr e h)
  exact C_of (c := C14_0) Tryz.func14 (by kernel_rfl) t
def S15_0 (v0 v1 v2 : Value) (w : World) (R : K1) (E : Ev) : Prop :=
  X P (.callF 35 #[v0, v1, v2]) 53 w (fun t12 w1 =>
  X P (.bin .neq 53 false true t12 (.int .i64 0)) 4 w1 (fun t14 w2 =>
  Cnd t14 (
  R (Value.tuple #[(.slice none 0 0), t12]) w2) (
  X P (.callF 36 #[v0, v1, v2]) 34 w2 (fun t19 w3 =>
  R (Value.tuple #[t19, (.int .i64 0)]) w3) E)) E) E
noncomputable def C15_0 : Code := bodyOf Tryz.f15
theorem K15_0 (g : Env) (w : World) (R : K1) (E : Ev) :
  vcF P Z0 Z0 C15_0 (QC (fun _ _ => False) (fun a w => resQ P Tryz.f15.results a w R) Y0 E) g w = S15_0 (g 0) (g 1) (g 2) w R E := by kernel_rfl
theorem T15_0 (hs : a.tmps.size = 20) (R : K1) (E : Ev) (hR : ∀ a' w', Ag (wr C15_0) a a' → resQ P Tryz.f15.results (gt a') w' R → Q .ret a' w') (hE : HE Q E)
  (h : S15_0 (gt a 0) (gt a 1) (gt a 2) w R E) : C15_0.wpIn (Fw r) 0 P (Qs (wr C15_0) a Q) a w :=
  piece' (HJ := Z0) (HL := Z0) hmix hs (by decide +kernel) (fun _ _ => False) (fun a w => resQ P Tryz.f15.results a w R) Y0 E (fun _ _ _ h => h.elim) hR
  (fun _ _ _ _ h => h.elim) hE
  trivial (Eq.mpr (K15_0 (gt a) w R E) h)
theorem F15 (a0 a1 a2 : Value) (w : World) (R : K1) (E : Ev) (h : S15_0 a0 a1 a2 w R E) : C P 15 #[a0, a1, a2] w R E := by
  have e : S15_0 (gt (A0 Tryz.f15.ntmps #[a0, a1, a2]) 0) (gt (A0 Tryz.f15.ntmps #[a0, a1, a2]) 1) (gt (A0 Tryz.f15.ntmps #[a0, a1, a2]) 2) w R E = S15_0 a0 a1 a2 w R E := by kernel_rfl
  have t := T15_0 (r := none) (Q := QF P Tryz.f15 R E) (A0 Tryz.f15.ntmps #[a0, a1, a2]) w (by kernel_rfl) R E (fun _ _ _ h => h) (fun _ _ _ h => h) (Eq.mpr e h)
  exact C_of (c := C15_0) Tryz.func15 (by kernel_rfl) t
def S16_0 (v0 v1 v2 v3 : Value) (w : World) (R : K1) (E : Ev) : Prop :=
  X P (.callF 37 #[v0, v1, v2]) 53 w (fun t13 w1 =>
  X P (.bin .neq 53 false true t13 (.int .i64 0)) 4 w1 (fun t15 w2 =>
  Cnd t15 (
  R t13 w2) (
  X P (.conv 38 5 v3) 5 w2 (fun t20 w3 =>
  X P (.bin .shr 38 false true v3 (.int .u64 8)) 38 w3 (fun t22 w4 =>
  X P (.conv 38 5 t22) 5 w4 (fun t23 w5 =>
  X P (.bin .shr 38 false true v3 (.int .u64 16)) 38 w5 (fun t25 w6 =>
  X P (.conv 38 5 t25) 5 w6 (fun t26 w7 =>
  X P (.bin .shr 38 false true v3 (.int .u64 24)) 38 w7 (fun t28 w8 =>
  X P (.conv 38 5 t28) 5 w8 (fun t29 w9 =>
  X P (.buildSlice 34 4 #[(0, t20), (1, t23), (2, t26), (3, t29)]) 34 w9 (fun t30 w10 =>
  X P (.slice 34 t30 none (some v2) none) 34 w10 (fun t32 w11 =>
  X P (.callF 38 #[v0, v1, t32]) 0 w11 (fun t33 w12 =>
  R (.int .i64 0) w12) E) E) E) E) E) E) E) E) E) E)) E) E
noncomputable def C16_0 : Code := bodyOf Tryz.f16
theorem K16_0 (g : Env) (w : World) (R : K1) (E : Ev) :
  vcF P Z0 Z0 C16_0 (QC (fun _ _ => False) (fun a w => resQ P Tryz.f16.results a w R) Y0 E) g w = S16_0 (g 0) (g 1) (g 2) (g 3) w R E := by kernel_rfl
theorem T16_0 (hs : a.tmps.size = 34) (R : K1) (E : Ev) (hR : ∀ a' w', Ag (wr C16_0) a a' → resQ P Tryz.f16.results (gt a') w' R → Q .ret a' w') (hE : HE Q E)
  (h : S16_0 (gt a 0) (gt a 1) (gt a 2) (gt a 3) w R E) : C16_0.wpIn (Fw r) 0 P (Qs (wr C16_0) a Q) a w :=
  piece' (HJ := Z0) (HL := Z0) hmix hs (by decide +kernel) (fun _ _ => False) (fun a w => resQ P Tryz.f16.results a w R) Y0 E (fun _ _ _ h => h.elim) hR
  (fun _ _ _ _ h => h.elim) hE
  trivial (Eq.mpr (K16_0 (gt a) w R E) h)
theorem F16 (a0 a1 a2 a3 : Value) (w : World) (R : K1) (E : Ev) (h : S16_0 a0 a1 a2 a3 w R E) : C P 16 #[a0, a1, a2, a3] w R E := by
  have e : S16_0 (gt (A0 Tryz.f16.ntmps #[a0, a1, a2, a3]) 0) (gt (A0 Tryz.f16.ntmps #[a0, a1, a2, a3]) 1) (gt (A0 Tryz.f16.ntmps #[a0, a1, a2, a3]) 2) (gt (A0 Tryz.f16.ntmps #[a0, a1, a2, a3]) 3) w R E = S16_0 a0 a1 a2 a3 w R E := by kernel_rfl
  have t := T16_0 (r := none) (Q := QF P Tryz.f16 R E) (A0 Tryz.f16.ntmps #[a0, a1, a2, a3]) w (by kernel_rfl) R E (fun _ _ _ h => h) (fun _ _ _ h => h) (Eq.mpr e h)
  exact C_of (c := C16_0) Tryz.func16 (by kernel_rfl) t
def S17_0 (v0 v1 v2 v3 v4 : Value) (w : World) (R : K1) (E : Ev) : Prop :=
  X P (.box 44 v0) 0 w (fun t5 w1 =>
  X P (.box 3 v3) 0 w1 (fun t8 w2 =>
  X P (.box 38 v4) 0 w2 (fun t9 w3 =>
  X P (.load 44 t5) 44 w3 (fun t12 w4 =>
  X P (.load 3 t8) 3 w4 (fun t15 w5 =>
  X P (.mkFunc (Fn.func 40) #[] #[t5, t8, t9]) 95 w5 (fun t16 w6 =>
  X P (.callF 39 #[t12, v1, v2, t15, (.int .i64 2), t16]) 63 w6 (fun t17 w7 =>
  X P (.extract t17 0) 3 w7 (fun t18 w8 =>
  X P (.extract t17 1) 49 w8 (fun t19 w9 =>
  R (Value.tuple #[t18, t19]) w9) E) E) E) E) E) E) E) E) E
noncomputable def C17_0 : Code := bodyOf Tryz.f17
theorem K17_0 (g : Env) (w : World) (R : K1) (E : Ev) :
  vcF P Z0 Z0 C17_0 (QC (fun _ _ => False) (fun a w => resQ P Tryz.f17.results a w R) Y0 E) g w = S17_0 (g 0) (g 1) (g 2) (g 3) (g 4) w R E := by kernel_rfl
theorem T17_0 (hs : a.tmps.size = 20) (R : K1) (E : Ev) (hR : ∀ a' w', Ag (wr C17_0) a a' → resQ P Tryz.f17.results (gt a') w' R → Q .ret a' w') (hE : HE Q E)
  (h : S17_0 (gt a 0) (gt a 1) (gt a 2) (gt a 3) (gt a 4) w R E) : C17_0.wpIn (Fw r) 0 P (Qs (wr C17_0) a Q) a w :=
  piece' (HJ := Z0) (HL := Z0) hmix hs (by decide +kernel) (fun _ _ => False) (fun a w => resQ P Tryz.f17.results a w R) Y0 E (fun _ _ _ h => h.elim) hR
  (fun _ _ _ _ h => h.elim) hE
  trivial (Eq.mpr (K17_0 (gt a) w R E) h)
theorem F17 (a0 a1 a2 a3 a4 : Value) (w : World) (R : K1) (E : Ev) (h : S17_0 a0 a1 a2 a3 a4 w R E) : C P 17 #[a0, a1, a2, a3, a4] w R E := by
  have e : S17_0 (gt (A0 Tryz.f17.ntmps #[a0, a1, a2, a3, a4]) 0) (gt (A0 Tryz.f17.ntmps #[a0, a1, a2, a3, a4]) 1) (gt (A0 Tryz.f17.ntmps #[a0, a1, a2, a3, a4]) 2) (gt (A0 Tryz.f17.ntmps #[a0, a1, a2, a3, a4]) 3) (gt (A0 Tryz.f17.ntmps #[a0, a1, a2, a3, a4]) 4) w R E = S17_0 a0 a1 a2 a3 a4 w R E := by kernel_rfl
  have t := T17_0 (r := none) (Q := QF P Tryz.f17 R E) (A0 Tryz.f17.ntmps #[a0, a1, a2, a3, a4]) w (by kernel_rfl) R E (fun _ _ _ h => h) (fun _ _ _ h => h) (Eq.mpr e h)
  exact C_of (c := C17_0) Tryz.func17 (by kernel_rfl) t
def S18_0 (v0 : Value) (w : World) (R : K1) (E : Ev) : Prop :=
  X P (.buildSlice 96 5 #[(0, (.int .u8 1)), (1, (.int .u8 3)), (2, (.int .u8 4)), (3, (.int .u8 5)), (4, (.int .u8 7))]) 96 w (fun t4 w1 =>
  X P (.callB .len #[96] #[false] #[t4]) 3 w1 (fun t8 w2 =>
  X P (.callF 9 #[v0, t8]) 3 w2 (fun t9 w3 =>
  X P (.indexAddr 96 t4 t9) 0 w3 (fun t10 w4 =>
  X P (.load 58 t10) 58 w4 (fun t11 w5 =>
  R t11 w5) E) E) E) E) E
noncomputable def C18_0 : Code := bodyOf Tryz.f18
theorem K18_0 (g : Env) (w : World) (R : K1) (E : Ev) :
  vcF P Z0 Z0 C18_0 (QC (fun _ _ => False) (fun a w => resQ P Tryz.f18.results a w R) Y0 E) g w = S18_0 (g 0) w R E := by kernel_rfl
theorem T18_0 (hs : a.tmps.size = 12) (R : K1) (E : Ev) (hR : ∀ a' w', Ag (wr C18_0) a a' → resQ P Tryz.f18.results (gt a') w' R → Q .ret a' w') (hE : HE Q E)
  (h : S18_0 (gt a 0) w R E) : C18_0.wpIn (Fw r) 0 P (Qs (wr C18_0) a Q) a w :=
  piece' (HJ := Z0) (HL := Z0) hmix hs (by decide +kernel) (fun _ _ => False) (fun a w => resQ P Tryz.f18.results a w R) Y0 E (fun _ _ _ h => h.elim) hR
  (fun _ _ _ _ h => h.elim) hE
  trivial (Eq.mpr (K18_0 (gt a) w R E) h)
theorem F18 (a0 : Value) (w : World) (R : K1) (E : Ev) (h : S18_0 a0 w R E) : C P 18 #[a0] w R E := by
  have e : S18_0 (gt (A0 Tryz.f18.ntmps #[a0]) 0) w R E = S18_0 a0 w R E := by kernel_rfl
  have t := T18_0 (r := none) (Q := QF P Tryz.f18 R E) (A0 Tryz.f18.ntmps #[a0]) w (by kernel_rfl) R E (fun _ _ _ h => h) (fun _ _ _ h => h) (Eq.mpr e h)
  exact C_of (c := C18_0) Tryz.func18 (by kernel_rfl) t
def S19_0 (v0 v1 v2 : Value) (w : World) (R : K1) (E : Ev) : Prop :=
  X P (.box 28 v1) 0 w (fun t4 w1 =>
  X P (.callF 41 #[v0]) 97 w1 (fun t17 w2 =>
  X P (.extract t17 0) 41 w2 (fun t18 w3 =>
  X P (.extract t17 1) 53 w3 (fun t19 w4 =>
  X P (.load 28 t4) 28 w4 (fun t21 w5 =>
  X P (.callF 42 #[t21]) 99 w5 (fun t22 w6 =>
  X P (.extract t22 0) 42 w6 (fun t23 w7 =>
  X P (.extract t22 1) 53 w7 (fun t24 w8 =>
  X P (.callF 43 #[v2]) 101 w8 (fun t27 w9 =>
  X P (.extract t27 0) 43 w9 (fun t28 w10 =>
  X P (.extract t27 1) 53 w10 (fun t29 w11 =>
  X P (.bin .neq 53 false true t19 (.int .i64 0)) 4 w11 (fun t31 w12 =>
  XG (some t31) false P (.val t24) 53 w12 (fun t33 w13 =>
  XG (some t31) false P (.bin .neq 53 false true t33 (.int .i64 0)) 4 w13 (fun t34 w14 =>
  X P (.pick t31 (.bool true) t34) 4 w14 (fun t35 w15 =>
  XG (some t35) false P (.val t29) 53 w15 (fun t37 w16 =>
  XG (some t35) false P (.bin .neq 53 false true t37 (.int .i64 0)) 4 w16 (fun t38 w17 =>
  X P (.pick t35 (.bool true) t38) 4 w17 (fun t39 w18 =>
  XG (some t39) false P (.val t18) 41 w18 (fun t41 w19 =>
  XG (some t39) false P (.bin .eql 41 false true t41 (.pointer none)) 4 w19 (fun t42 w20 =>
  X P (.pick t39 (.bool true) t42) 4 w20 (fun t43 w21 =>
  XG (some t43) false P (.val t23) 42 w21 (fun t45 w22 =>
  XG (some t43) false P (.bin .eql 42 false true t45 (.pointer none)) 4 w22 (fun t46 w23 =>
  X P (.pick t43 (.bool true) t46) 4 w23 (fun t47 w24 =>
  XG (some t47) false P (.val t28) 43 w24 (fun t49 w25 =>
  XG (some t47) false P (.bin .eql 43 false true t49 (.pointer none)) 4 w25 (fun t50 w26 =>
  X P (.pick t47 (.bool true) t50) 4 w26 (fun t51 w27 =>
  Cnd t51 (
  R (.pointer none) w27) (
  X P (.callF 44 #[t18, t23, t28]) 103 w27 (fun t56 w28 =>
  X P (.extract t56 0) 44 w28 (fun t57 w29 =>
  X P (.extract t56 1) 53 w29 (fun t58 w30 =>
  X P (.bin .neq 53 false true t58 (.int .i64 0)) 4 w30 (fun t60 w31 =>
  XG (some t60) false P (.val t57) 44 w31 (fun t62 w32 =>
  XG (some t60) false P (.bin .eql 44 false true t62 (.pointer none)) 4 w32 (fun t63 w33 =>
  X P (.pick t60 (.bool true) t63) 4 w33 (fun t64 w34 =>
  Cnd t64 (
  R (.pointer none) w34) (
  X P (.build 46 #[(0, t18), (1, t23), (2, t28), (3, t57)]) 46 w34 (fun t69 w35 =>
  X P (.box 46 t69) 31 w35 (fun t70 w36 =>
  R t70 w36) E) E)) E) E) E) E) E) E) E)) E) E) E) E) E) E) E) E) E) E) E) E) E) E) E) E) E) E) E) E) E) E) E) E) E) E) E
noncomputable def C19_0 : Code := bodyOf Tryz.f19
theorem K19_0 (g : Env) (w : World) (R : K1) (E : Ev) :
  vcF P Z0 Z0 C19_0 (QC (fun _ _ => False) (fun a w => resQ P Tryz.f19.results a w R) Y0 E) g w = S19_0 (g 0) (g 1) (g 2) w R E := by kernel_rfl
theorem T19_0 (hs : a.tmps.size = 71) (R : K1) (E : Ev) (hR : ∀ a' w', Ag (wr C19_0) a a' → resQ P Tryz.f19.results (gt a') w' R → Q .ret a' w') (hE : HE Q E)
  (h : S19_0 (gt a 0) (gt a 1) (gt a 2) w R E) : C19_0.wpIn (Fw r) 0 P (Qs (wr C19_0) a Q) a w :=
  piece' (HJ := Z0) (HL := Z0) hmix hs (by decide +kernel) (fun _ _ => False) (fun a w => resQ P Tryz.f19.results a w R) Y0 E (fun _ _ _ h => h.elim) hR
  (fun _ _ _ _ h => h.elim) hE
  trivial (Eq.mpr (K19_0 (gt a) w R E) h)
theorem F19 (a0 a1 a2 : Value) (w : World) (R : K1) (E : Ev) (h : S19_0 a0 a1 a2 w R E) : C P 19 #[a0, a1, a2] w R E := by
  have e : S19_0 (gt (A0 Tryz.f19.ntmps #[a0, a1, a2]) 0) (gt (A0 Tryz.f19.ntmps #[a0, a1, a2]) 1) (gt (A0 Tryz.f19.ntmps #[a0, a1, a2]) 2) w R E = S19_0 a0 a1 a2 w R E := by kernel_rfl
  have t := T19_0 (r := none) (Q := QF P Tryz.f19 R E) (A0 Tryz.f19.ntmps #[a0, a1, a2]) w (by kernel_rfl) R E (fun _ _ _ h => h) (fun _ _ _ h => h) (Eq.mpr e h)
  exact C_of (c := C19_0) Tryz.func19 (by kernel_rfl) t
def S20_0 (v0 v1 v2 : Value) (w : World) (R : K1) (E : Ev) : Prop :=
  X P (.bin .eql 41 false true v0 (.pointer none)) 4 w (fun t9 w1 =>
  XG (some t9) false P (.val v1) 38 w1 (fun t11 w2 =>
  XG (some t9) false P (.bin .rem 38 false true t11 (.int .u32 4096)) 38 w2 (fun t12 w3 =>
  XG (some t9) false P (.bin .neq 38 false true t12 (.int .u32 0)) 4 w3 (fun t13 w4 =>
  X P (.pick t9 (.bool true) t13) 4 w4 (fun t14 w5 =>
  XG (some t14) false P (.val v2) 3 w5 (fun t16 w6 =>
  XG (some t14) false P (.bin .lss 3 false true t16 (.int .i64 0)) 4 w6 (fun t17 w7 =>
  X P (.pick t14 (.bool true) t17) 4 w7 (fun t18 w8 =>
  XG (some t18) false P (.val v2) 3 w8 (fun t20 w9 =>
  XG (some t18) false P (.val v0) 41 w9 (fun t21 w10 =>
  XG (some t18) false P (.callF 45 #[t21]) 3 w10 (fun t22 w11 =>
  XG (some t18) false P (.bin .gtr 3 false false t20 t22) 4 w11 (fun t23 w12 =>
  X P (.pick t18 (.bool true) t23) 4 w12 (fun t24 w13 =>
  XG (some t24) false P (.val v1) 38 w13 (fun t26 w14 =>
  XG (some t24) false P (.bin .quo 38 false true t26 (.int .u32 4096)) 38 w14 (fun t27 w15 =>
  XG (some t24) false P (.conv 38 3 t27) 3 w15 (fun t28 w16 =>
  XG (some t24) false P (.val v2) 3 w16 (fun t29 w17 =>
  XG (some t24) false P (.bin .add 3 false false t28 t29) 3 w17 (fun t30 w18 =>
  XG (some t24) false P (.val v0) 41 w18 (fun t31 w19 =>
  XG (some t24) false P (.callF 45 #[t31]) 3 w19 (fun t32 w20 =>
  XG (some t24) false P (.bin .gtr 3 false false t30 t32) 4 w20 (fun t33 w21 =>
  X P (.pick t24 (.bool true) t33) 4 w21 (fun t34 w22 =>
  Cnd t34 (
  R (Value.tuple #[(.pointer none), (.int .i64 60)]) w22) (
  X P (.build 106 #[(0, v0), (1, v1), (2, v2)]) 106 w22 (fun t38 w23 =>
  X P (.box 106 t38) 69 w23 (fun t39 w24 =>
  R (Value.tuple #[t39, (.int .i64 0)]) w24) E) E)) E) E) E) E) E) E) E) E) E) E) E) E) E) E) E) E) E) E) E) E) E) E
noncomputable def C20_0 : Code := bodyOf Tryz.f20
theorem K20_0 (g : Env) (w : World) (R : K1) (E : Ev) :
  vcF P Z0 Z0 C20_0 (QC (fun _ _ => False) (fun a w => resQ P Tryz.f20.results a w R) Y0 E) g w = S20_0 (g 0) (g 1) (g 2) w R E := by kernel_rfl
theorem T20_0 (hs : a.tmps.size = 40) (R : K1) (E : Ev) (hR : ∀ a' w', Ag (wr C20_0) a a' → resQ P Tryz.f20.results (gt a') w' R → Q .ret a' w') (hE : HE Q E)
  (h : S20_0 (gt a 0) (gt a 1) (gt a 2) w R E) : C20_0.wpIn (Fw r) 0 P (Qs (wr C20_0) a Q) a w :=
  piece' (HJ := Z0) (HL := Z0) hmix hs (by decide +kernel) (fun _ _ => False) (fun a w => resQ P Tryz.f20.results a w R) Y0 E (fun _ _ _ h => h.elim) hR
  (fun _ _ _ _ h => h.elim) hE
  trivial (Eq.mpr (K20_0 (gt a) w R E) h)
theorem F20 (a0 a1 a2 : Value) (w : World) (R : K1) (E : Ev) (h : S20_0 a0 a1 a2 w R E) : C P 20 #[a0, a1, a2] w R E := by
  have e : S20_0 (gt (A0 Tryz.f20.ntmps #[a0, a1, a2]) 0) (gt (A0 Tryz.f20.ntmps #[a0, a1, a2]) 1) (gt (A0 Tryz.f20.ntmps #[a0, a1, a2]) 2) w R E = S20_0 a0 a1 a2 w R E := by kernel_rfl
  have t := T20_0 (r := none) (Q := QF P Tryz.f20 R E) (A0 Tryz.f20.ntmps #[a0, a1, a2]) w (by kernel_rfl) R E (fun _ _ _ h => h) (fun _ _ _ h => h) (Eq.mpr e h)
  exact C_of (c := C20_0) Tryz.func20 (by kernel_rfl) t
def S21_0 (v0 : Value) (w : World) (R : K1) (E : Ev) : Prop :=
  X P (.bin .eql 69 false true v0 (.pointer none)) 4 w (fun t7 w1 =>
  Cnd t7 (
  R (Value.tuple #[(.pointer none), (.int .i64 70)]) w1) (
  X P (.callF 46 #[v0]) 107 w1 (fun t10 w2 =>
  X P (.extract t10 0) 38 w2 (fun t11 w3 =>
  X P (.extract t10 1) 53 w3 (fun t12 w4 =>
  X P (.bin .neq 53 false true t12 (.int .i64 0)) 4 w4 (fun t14 w5 =>
  Cnd t14 (
  X P (.callF 47 #[t12]) 53 w5 (fun t16 w6 =>
  R (Value.tuple #[(.pointer none), t16]) w6) E) (
  X P (.build 111 #[(0, v0), (1, t11)]) 111 w5 (fun t19 w6 =>
  X P (.box 111 t19) 72 w6 (fun t20 w7 =>
  R (Value.tuple #[t20, (.int .i64 0)]) w7) E) E)) E) E) E) E)) E
noncomputable def C21_0 : Code := bodyOf Tryz.f21
theorem K21_0 (g : Env) (w : World) (R : K1) (E : Ev) :
  vcF P Z0 Z0 C21_0 (QC (fun _ _ => False) (fun a w => resQ P Tryz.f21.results a w R) Y0 E) g w = S21_0 (g 0) w R E := by kernel_rfl
theorem T21_0 (hs : a.tmps.size = 21) (R : K1) (E : Ev) (hR : ∀ a' w', Ag (wr C21_0) a a' → resQ P Tryz.f21.results (gt a') w' R → Q .ret a' w') (hE : HE Q E)
  (h : S21_0 (gt a 0) w R E) : C21_0.wpIn (Fw r) 0 P (Qs (wr C21_0) a Q) a w :=
  piece' (HJ := Z0) (HL := Z0) hmix hs (by decide +kernel) (fun _ _ => False) (fun a w => resQ P Tryz.f21.results a w R) Y0 E (fun _ _ _ h => h.elim) hR
  (fun _ _ _ _ h => h.elim) hE
  trivial (Eq.mpr (K21_0 (gt a) w R E) h)
theorem F21 (a0 : Value) (w : World) (R : K1) (E : Ev) (h : S21_0 a0 w R E) : C P 21 #[a0] w R E := by
  have e : S21_0 (gt (A0 Tryz.f21.ntmps #[a0]) 0) w R E = S21_0 a0 w R E := by kernel_rfl
  have t := T21_0 (r := none) (Q := QF P Tryz.f21 R E) (A0 Tryz.f21.ntmps #[a0]) w (by kernel_rfl) R E (fun _ _ _ h => h) (fun _ _ _ h => h) (Eq.mpr e h)
  exact C_of (c := C21_0) Tryz.func21 (by kernel_rfl) t
def S23_0 (v0 v1 v2 : Value) (w : World) (R : K1) (E : Ev) : Prop :=
  X P (.bin .lss 3 false true v1 (.int .i64 1)) 4 w (fun t8 w1 =>
  XG (some t8) false P (.val v1) 3 w1 (fun t10 w2 =>
  XG (some t8) false P (.bin .gtr 3 false true t10 (.int .i64 8)) 4 w2 (fun t11 w3 =>
  X P (.pick t8 (.bool true) t11) 4 w3 (fun t12 w4 =>
  XG (some t12) false P (.val v2) 38 w4 (fun t14 w5 =>
  XG (some t12) false P (.bin .rem 38 false true t14 (.int .u32 4096)) 38 w5 (fun t15 w6 =>
  XG (some t12) false P (.bin .neq 38 false true t15 (.int .u32 0)) 4 w6 (fun t16 w7 =>
  X P (.pick t12 (.bool true) t16) 4 w7 (fun t17 w8 =>
  Cnd t17 (
  R (.int .i64 80) w8) (
  X P (.nilCheck v0) 0 w8 (fun t19 w9 =>
  X P (.fieldAddr 85 t19 3) 0 w9 (fun t20 w10 =>
  X P (.load 83 t20) 83 w10 (fun t21 w11 =>
  X P (.mapUpdate 83 t21 v1 v2) 0 w11 (fun _ w12 =>
  X P (.nilCheck v0) 0 w12 (fun t25 w13 =>
  X P (.fieldAddr 85 t25 2) 0 w13 (fun t26 w14 =>
  X P (.load 43 t26) 43 w14 (fun t27 w15 =>
  X P (.buildSlice 136 1 #[(0, v1)]) 136 w15 (fun t29 w16 =>
  X P (.callF 60 #[t27, t29]) 3 w16 (fun t30 w17 =>
  R (.int .i64 0) w17) E) E) E) E) E) E) E) E) E)) E) E) E) E) E) E) E) E
noncomputable def C23_0 : Code := bodyOf Tryz.f23
theorem K23_0 (g : Env) (w : World) (R : K1) (E : Ev) :
  vcF P Z0 Z0 C23_0 (QC (fun _ _ => False) (fun a w => resQ P Tryz.f23.results a w R) Y0 E) g w = S23_0 (g 0) (g 1) (g 2) w R E := by kernel_rfl
theorem T23_0 (hs : a.tmps.size = 31) (R : K1) (E : Ev) (hR : ∀ a' w', Ag (wr C23_0) a a' → resQ P Tryz.f23.results (gt a') w' R → Q .ret a' w') (hE : HE Q E)
  (h : S23_0 (gt a 0) (gt a 1) (gt a 2) w R E) : C23_0.wpIn (Fw r) 0 P (Qs (wr C23_0) a Q) a w :=
  piece' (HJ := Z0) (HL := Z0) hmix hs (by decide +kernel) (fun _ _ => False) (fun a w => resQ P Tryz.f23.results a w R) Y0 E (fun _ _ _ h => h.elim) hR
  (fun _ _ _ _ h => h.elim) hE
  trivial (Eq.mpr (K23_0 (gt a) w R E) h)
theorem F23 (a0 a1 a2 : Value) (w : World) (R : K1) (E : Ev) (h : S23_0 a0 a1 a2 w R E) : C P 23 #[a0, a1, a2] w R E := by
  have e : S23_0 (gt (A0 Tryz.f23.ntmps #[a0, a1, a2]) 0) (gt (A0 Tryz.f23.ntmps #[a0, a1, a2]) 1) (gt (A0 Tryz.f23.ntmps #[a0, a1, a2]) 2) w R E = S23_0 a0 a1 a2 w R E := by kernel_rfl
  have t := T23_0 (r := none) (Q := QF P Tryz.f23 R E) (A0 Tryz.f23.ntmps #[a0, a1, a2]) w (by kernel_rfl) R E (fun _ _ _ h => h) (fun _ _ _ h => h) (Eq.mpr e h)
  exact C_of (c := C23_0) Tryz.func23 (by kernel_rfl) t
def S24_0 (v0 : Value) (w : World) (R : K1) (E : Ev) : Prop :=
  X P (.nilCheck v0) 0 w (fun t4 w1 =>
  X P (.fieldAddr 111 t4 1) 0 w1 (fun t5 w2 =>
  X P (.load 38 t5) 38 w2 (fun t6 w3 =>
  R t6 w3) E) E) E
noncomputable def C24_0 : Code := bodyOf Tryz.f24
theorem K24_0 (g : Env) (w : World) (R : K1) (E : Ev) :
  vcF P Z0 Z0 C24_0 (QC (fun _ _ => False) (fun a w => resQ P Tryz.f24.results a w R) Y0 E) g w = S24_0 (g 0) w R E := by kernel_rfl
theorem T24_0 (hs : a.tmps.size = 7) (R : K1) (E : Ev) (hR : ∀ a' w', Ag (wr C24_0) a a' → resQ P Tryz.f24.results (gt a') w' R → Q .ret a' w') (hE : HE Q E)
  (h : S24_0 (gt a 0) w R E) : C24_0.wpIn (Fw r) 0 P (Qs (wr C24_0) a Q) a w :=
  piece' (HJ := Z0) (HL := Z0) hmix hs (by decide +kernel) (fun _ _ => False) (fun a w => resQ P Tryz.f24.results a w R) Y0 E (fun _ _ _ h => h.elim) hR
  (fun _ _ _ _ h => h.elim) hE
  trivial (Eq.mpr (K24_0 (gt a) w R E) h)
theorem F24 (a0 : Value) (w : World) (R : K1) (E : Ev) (h : S24_0 a0 w R E) : C P 24 #[a0] w R E := by
  have e : S24_0 (gt (A0 Tryz.f24.ntmps #[a0]) 0) w R E = S24_0 a0 w R E := by kernel_rfl
  have t := T24_0 (r := none) (Q := QF P Tryz.f24 R E) (A0 Tryz.f24.ntmps #[a0]) w (by kernel_rfl) R E (fun _ _ _ h => h) (fun _ _ _ h => h) (Eq.mpr e h)
  exact C_of (c := C24_0) Tryz.func24 (by kernel_rfl) t
def S25_0 (v0 : Value) (w : World) (R : K1) (E : Ev) : Prop :=
  X P (.box 40 v0) 0 w (fun t1 w1 =>
  X P (.buildSlice 136 3 #[(0, (.int .i64 1)), (1, (.int .i64 2)), (2, (.int .i64 4))]) 136 w1 (fun t4 w2 =>
  X P (.fieldAddr 40 t1 4) 0 w2 (fun t6 w3 =>
  X P (.load 3 t6) 3 w3 (fun t7 w4 =>
  X P (.callF 9 #[t7, (.int .i64 3)]) 3 w4 (fun t8 w5 =>
  X P (.indexAddr 136 t4 t8) 0 w5 (fun t9 w6 =>
  X P (.load 3 t9) 3 w6 (fun t10 w7 =>
  R t10 w7) E) E) E) E) E) E) E
noncomputable def C25_0 : Code := bodyOf Tryz.f25
theorem K25_0 (g : Env) (w : World) (R : K1) (E : Ev) :
  vcF P Z0 Z0 C25_0 (QC (fun _ _ => False) (fun a w => resQ P Tryz.f25.results a w R) Y0 E) g w = S25_0 (g 0) w R E := by kernel_rfl
theorem T25_0 (hs : a.tmps.size = 11) (R : K1) (E : Ev) (hR : ∀ a' w', Ag (wr C25_0) a a' → resQ P Tryz.f25.results (gt a') w' R → Q .ret a' w') (hE : HE Q E)
  (h : S25_0 (gt a 0) w R E) : C25_0.wpIn (Fw r) 0 P (Qs (wr C25_0) a Q) a w :=
  piece' (HJ := Z0) (HL := Z0) hmix hs (by decide +kernel) (fun _ _ => False) (fun a w => resQ P Tryz.f25.results a w R) Y0 E (fun _ _ _ h => h.elim) hR
  (fun _ _ _ _ h => h.elim) hE
  trivial (Eq.mpr (K25_0 (gt a) w R E) h)
theorem F25 (a0 : Value) (w : World) (R : K1) (E : Ev) (h : S25_0 a0 w R E) : C P 25 #[a0] w R E := by
  have e : S25_0 (gt (A0 Tryz.f25.ntmps #[a0]) 0) w R E = S25_0 a0 w R E := by kernel_rfl
  have t := T25_0 (r := none) (Q := QF P Tryz.f25 R E) (A0 Tryz.f25.ntmps #[a0]) w (by kernel_rfl) R E (fun _ _ _ h => h) (fun _ _ _ h => h) (Eq.mpr e h)
  exact C_of (c := C25_0) Tryz.func25 (by kernel_rfl) t
def S26_0 (v0 v1 v2 : Value) (w : World) (R : K1) (E : Ev) : Prop :=
  X P (.callF 61 #[v0, v1]) 137 w (fun t13 w1 =>
  X P (.extract t13 0) 60 w1 (fun t14 w2 =>
  X P (.extract t13 1) 4 w2 (fun t15 w3 =>
  X P (.alloc 60) 0 w3 (fun t8 w4 =>
  X P (.store 60 t8 t14) 0 w4 (fun _ w5 =>
  X P (.un .not t15) 4 w5 (fun t17 w6 =>
  Cnd t17 (
  R (Value.tuple #[(.int .u32 0), (.int .i64 3)]) w6) (
  X P (.fieldAddr 60 t8 3) 0 w6 (fun t18 w7 =>
  X P (.load 58 t18) 58 w7 (fun t19 w8 =>
  X P (.bin .and 58 false false t19 v2) 58 w8 (fun t21 w9 =>
  X P (.bin .eql 58 false true t21 (.int .u8 0)) 4 w9 (fun t22 w10 =>
  Cnd t22 (
  R (Value.tuple #[(.int .u32 0), (.int .i64 5)]) w10) (
  X P (.fieldAddr 60 t8 1) 0 w10 (fun t23 w11 =>
  X P (.load 38 t23) 38 w11 (fun t24 w12 =>
  X P (.bin .rem 38 false true v1 (.int .u32 4096)) 38 w12 (fun t26 w13 =>
  X P (.bin .add 38 false false t24 t26) 38 w13 (fun t27 w14 =>
  R (Value.tuple #[t27, (.int .i64 0)]) w14) E) E) E) E)) E) E) E) E)) E) E) E) E) E) E
noncomputable def C26_0 : Code := bodyOf Tryz.f26
theorem K26_0 (g : Env) (w : World) (R : K1) (E : Ev) :
  vcF P Z0 Z0 C26_0 (QC (fun _ _ => False) (fun a w => resQ P Tryz.f26.results a w R) Y0 E) g w = S26_0 (g 0) (g 1) (g 2) w R E := by kernel_rfl
theorem T26_0 (hs : a.tmps.size = 28) (R : K1) (E : Ev) (hR : ∀ a' w', Ag (wr C26_0) a a' → resQ P Tryz.f26.results (gt a') w' R → Q .ret a' w') (hE : HE Q E)
  (h : S26_0 (gt a 0) (gt a 1) (gt a 2) w R E) : C26_0.wpIn (Fw r) 0 P (Qs (wr C26_0) a Q) a w :=
  piece' (HJ := Z0) (HL := Z0) hmix hs (by decide +kernel) (fun _ _ => False) (fun a w => resQ P Tryz.f26.results a w R) Y0 E (fun _ _ _ h => h.elim) hR
  (fun _ _ _ _ h => h.elim) hE
  trivial (Eq.mpr (K26_0 (gt a) w R E) h)
theorem F26 (a0 a1 a2 : Value) (w : World) (R : K1) (E : Ev) (h : S26_0 a0 a1 a2 w R E) : C P 26 #[a0, a1, a2] w R E := by
  have e : S26_0 (gt (A0 Tryz.f26.ntmps #[a0, a1, a2]) 0) (gt (A0 Tryz.f26.ntmps #[a0, a1, a2]) 1) (gt (A0 Tryz.f26.ntmps #[a0, a1, a2]) 2) w R E = S26_0 a0 a1 a2 w R E := by kernel_rfl
  have t := T26_0 (r := none) (Q := QF P Tryz.f26 R E) (A0 Tryz.f26.ntmps #[a0, a1, a2]) w (by kernel_rfl) R E (fun _ _ _ h => h) (fun _ _ _ h => h) (Eq.mpr e h)
  exact C_of (c := C26_0) Tryz.func26 (by kernel_rfl) t
def S27_0 (v0 v1 v2 : Value) (w : World) (R : K1) (E : Ev) : Prop :=
  X P (.callF 34 #[v0, v1, v2, (.int .i64 4), (.int .i64 3)]) 50 w (fun t12 w1 =>
  X P (.extract t12 0) 38 w1 (fun t13 w2 =>
  X P (.extract t12 1) 3 w2 (fun t14 w3 =>
  X P (.extract t12 2) 49 w3 (fun t15 w4 =>
  R (Value.tuple #[t13, t14, t15]) w4) E) E) E) E
noncomputable def C27_0 : Code := bodyOf Tryz.f27
theorem K27_0 (g : Env) (w : World) (R : K1) (E : Ev) :
  vcF P Z0 Z0 C27_0 (QC (fun _ _ => False) (fun a w => resQ P Tryz.f27.results a w R) Y0 E) g w = S27_0 (g 0) (g 1) (g 2) w R E := by kernel_rfl
theorem T27_0 (hs : a.tmps.size = 16) (R : K1) (E : Ev) (hR : ∀ a' w', Ag (wr C27_0) a a' → resQ P Tryz.f27.results (gt a') w' R → Q .ret a' w') (hE : HE Q E)
  (h : S27_0 (gt a 0) (gt a 1) (gt a 2) w R E) : C27_0.wpIn (Fw r) 0 P (Qs (wr C27_0) a Q) a w :=
  piece' (HJ := Z0) (HL := Z0) hmix hs (by decide +kernel) (fun _ _ => False) (fun a w => resQ P Tryz.f27.results a w R) Y0 E (fun _ _ _ h => h.elim) hR
  (fun _ _ _ _ h => h.elim) hE
  trivial (Eq.mpr (K27_0 (gt a) w R E) h)
theorem F27 (a0 a1 a2 : Value) (w : World) (R : K1) (E : Ev) (h : S27_0 a0 a1 a2 w R E) : C P 27 #[a0, a1, a2] w R E := by
  have e : S27_0 (gt (A0 Tryz.f27.ntmps #[a0, a1, a2]) 0) (gt (A0 Tryz.f27.ntmps #[a0, a1, a2]) 1) (gt (A0 Tryz.f27.ntmps #[a0, a1, a2]) 2) w R E = S27_0 a0 a1 a2 w R E := by kernel_rfl
  have t := T27_0 (r := none) (Q := QF P Tryz.f27 R E) (A0 Tryz.f27.ntmps #[a0, a1, a2]) w (by kernel_rfl) R E (fun _ _ _ h => h) (fun _ _ _ h => h) (Eq.mpr e h)
  exact C_of (c := C27_0) Tryz.func27 (by kernel_rfl) t
def S28_j6 (v7 : Value) (w : World) (R : K1) (E : Ev) : Prop :=
  R v7 w
noncomputable def C28_j6 : Code := cR (cR (cR (bodyOf Tryz.f28)))
theorem K28_j6 (g : Env) (w : World) (R : K1) (E : Ev) :
  vcF P Z0 Z0 C28_j6 (QC (fun _ _ => False) (fun a w => resQ P Tryz.f28.results a w R) Y0 E) g w = S28_j6 (g 7) w R E := by kernel_rfl
theorem T28_j6 (hs : a.tmps.size = 31) (R : K1) (E : Ev) (hR : ∀ a' w', Ag (wr C28_j6) a a' → resQ P Tryz.f28.results (gt a') w' R → Q .ret a' w') (hE : HE Q E)
  (h : S28_j6 (gt a 7) w R E) : C28_j6.wpIn (Fw r) 0 P (Qs (wr C28_j6) a Q) a w :=
  piece' (HJ := Z0) (HL := Z0) hmix hs (by decide +kernel) (fun _ _ => False) (fun a w => resQ P Tryz.f28.results a w R) Y0 E (fun _ _ _ h => h.elim) hR
  (fun _ _ _ _ h => h.elim) hE
  trivial (Eq.mpr (K28_j6 (gt a) w R E) h)
def S28_b3 (v0 v1 v2 v7 v8 : Value) (w : World) (N : K5) (X0 : K1) (E : Ev) : Prop :=
  X P (.bin .lss 3 false false v8 v2) 4 w (fun t11 w1 =>
  Cnd t11 (
  X P (.nilCheck v0) 0 w1 (fun t16 w2 =>
  X P (.fieldAddr 36 t16 0) 0 w2 (fun t17 w3 =>
  X P (.load 34 t17) 34 w3 (fun t18 w4 =>
  X P (.conv 38 3 v1) 3 w4 (fun t20 w5 =>
  X P (.bin .add 3 false false t20 v8) 3 w5 (fun t22 w6 =>
  X P (.indexAddr 34 t18 t22) 0 w6 (fun t23 w7 =>
  X P (.load 5 t23) 5 w7 (fun t24 w8 =>
  X P (.conv 5 38 t24) 38 w8 (fun t25 w9 =>
  X P (.bin .mul 3 true false (.int .i64 8) v8) 3 w9 (fun t27 w10 =>
  X P (.bin .shl 38 false false t25 t27) 38 w10 (fun t28 w11 =>
  X P (.bin .add 38 false false v7 t28) 38 w11 (fun t29 w12 =>
  X P (.bin .add 3 false true v8 (.int .i64 1)) 3 w12 (fun t13 w13 =>
  N v0 v1 v2 t29 t13 w13) E) E) E) E) E) E) E) E) E) E) E) E) (
  X0 v7 w1)) E
noncomputable def C28_b3 : Code := cB (cB (cR (cL (cR (cR (bodyOf Tryz.f28))))))
noncomputable def J28_b3 (N : K5) (X0 : K1) (E : Ev) : Nat → Env → World → Prop := fun i a w => match i with | 0 => X0 (a 7) w | _ => False
theorem K28_b3 (g : Env) (w : World) (N : K5) (X0 : K1) (E : Ev) :
  vcF P Z0 Z0 C28_b3 (QC (fun a w => N (a 0) (a 1) (a 2) (a 7) (a 8) w) (fun _ _ => False) (J28_b3 N X0 E) E) g w = S28_b3 (g 0) (g 1) (g 2) (g 7) (g 8) w N X0 E := by kernel_rfl
theorem T28_b3 (hs : a.tmps.size = 31) (N : K5) (X0 : K1) (E : Ev) (hN : ∀ a' w', Ag (wr C28_b3) a a' → N (gt a' 0) (gt a' 1) (gt a' 2) (gt a' 7) (gt a' 8) w' → Q .normal a' w') (hX0 : ∀ a' w', Ag (wr C28_b3) a a' → X0 (gt a' 7) w' → Q (.exit 0) a' w') (hE : HE Q E)
  (h : S28_b3 (gt a 0) (gt a 1) (gt a 2) (gt a 7) (gt a 8) w N X0 E) : C28_b3.wpIn (Fw r) 0 P (Qs (wr C28_b3) a Q) a w :=
  piece' (HJ := Z0) (HL := Z0) hmix hs (by decide +kernel) (fun a w => N (a 0) (a 1) (a 2) (a 7) (a 8) w) (fun _ _ => False) (J28_b3 N X0 E) E hN (fun _ _ _ h => h.elim)
  (fun i a' w' hag h => by
  unfold J28_b3 at h
  split at h <;> first | exact hX0 _ _ hag h | exact h.elim) hE
  trivial (Eq.mpr (K28_b3 (gt a) w N X0 E) h)
def S28_l3 (v0 v1 v2 v7 v8 : Value) (w : World) (X0 : K1) (E : Ev) : Prop :=
  ∃ (I : K2) (μ : Value → Value → World → Nat), I v7 v8 w ∧ ∀ (v7 v8 : Value) (w : World), I v7 v8 w → S28_b3 v0 v1 v2 v7 v8 w (fun x0 x1 x2 x7 x8 y => I x7 x8 y ∧ μ x7 x8 y < μ v7 v8 w) X0 E
theorem T28_l3 (hs : a.tmps.size = 31) (X0 : K1) (E : Ev) (hX0 : ∀ a' w', Ag (wr (Code.loop C28_b3)) a a' → X0 (gt a' 7) w' → Q (.exit 0) a' w') (hE : HE Q E)
  (h : S28_l3 (gt a 0) (gt a 1) (gt a 2) (gt a 7) (gt a 8) w X0 E) : (Code.loop C28_b3).wpIn (Fw r) 0 P (Qs (wr (Code.loop C28_b3)) a Q) a w := by
  obtain ⟨I, μ, h0, hr⟩ := h
  refine loop_piece (c := C28_b3) (fun a w => I (gt a 7) (gt a 8) w) (fun a w => μ (gt a 7) (gt a 8) w) h0 fun a' w' hag hI => ?_
  have h' := hr (gt a' 7) (gt a' 8) w' hI
  rw [← hag.get 0 (by decide +kernel)] at h'
  rw [← hag.get 1 (by decide +kernel)] at h'
  rw [← hag.get 2 (by decide +kernel)] at h'
  exact T28_b3 a' w' (hag.size.trans hs) (fun x0 x1 x2 x7 x8 y => I x7 x8 y ∧ μ x7 x8 y < μ (gt a' 7) (gt a' 8) w') X0 E (fun _ _ _ h => h) (fun a1 w1 hag1 h => hX0 a1 w1 (hag.trans hag1) h) hE h'
def S28_0 (v0 v1 v2 : Value) (w : World) (R : K1) (E : Ev) : Prop :=
  S28_l3 v0 v1 v2 (.int .u32 0) (.int .i64 0) w (fun x7 y => S28_j6 x7 y R E) E
noncomputable def C28_0 : Code := bodyOf Tryz.f28
noncomputable def HJ28_0 (R : K1) (E : Ev) : Cut := fun i => match i with | some 6 => some (fun a w => S28_j6 (a 7) w R E) | _ => none
noncomputable def HL28_0 (R : K1) (E : Ev) : Cut := fun i => match i with | some 3 => some (fun a w => S28_l3 (a 0) (a 1) (a 2) (a 7) (a 8) w (fun x7 y => S28_j6 x7 y R E) E) | _ => none
theorem K28_0 (g : Env) (w : World) (R : K1) (E : Ev) :
  vcF P (HJ28_0 R E) (HL28_0 R E) C28_0 (QC (fun _ _ => False) (fun a w => resQ P Tryz.f28.results a w R) Y0 E) g w = S28_0 (g 0) (g 1) (g 2) w R E := by kernel_rfl
theorem T28_0 (hs : a.tmps.size = 31) (R : K1) (E : Ev) (hR : ∀ a' w', Ag (wr C28_0) a a' → resQ P Tryz.f28.results (gt a') w' R → Q .ret a' w') (hE : HE Q E)
  (h : S28_0 (gt a 0) (gt a 1) (gt a 2) w R E) : C28_0.wpIn (Fw r) 0 P (Qs (wr C28_0) a Q) a w :=
  piece' (HJ := HJ28_0 R E) (HL := HL28_0 R E) hmix hs (by decide +kernel) (fun _ _ => False) (fun a w => resQ P Tryz.f28.results a w R) Y0 E (fun _ _ _ h => h.elim) hR
  (fun _ _ _ _ h => h.elim) hE
  ⟨pay (c := Code.loop C28_b3) (W := wr C28_0) (h := fun a w => S28_l3 (a 0) (a 1) (a 2) (a 7) (a 8) w (fun x7 y => S28_j6 x7 y R E) E) (by decide +kernel) fun a w hsz h => T28_l3 a w (hsz.trans hs) (fun x7 y => S28_j6 x7 y R E) E (fun _ _ _ h => h) (fun _ _ _ h => h) h, pay (c := C28_j6) (W := wr C28_0) (h := fun a w => S28_j6 (a 7) w R E) (by decide +kernel) fun a w hsz h => T28_j6 a w (hsz.trans hs) R E (fun _ _ _ h => h) (fun _ _ _ h => h) h, trivial⟩ (Eq.mpr (K28_0 (gt a) w R E) h)
theorem F28 (a0 a1 a2 : Value) (w : World) (R : K1) (E : Ev) (h : S28_0 a0 a1 a2 w R E) : C P 28 #[a0, a1, a2] w R E := by
  have e : S28_0 (gt (A0 Tryz.f28.ntmps #[a0, a1, a2]) 0) (gt (A0 Tryz.f28.ntmps #[a0, a1, a2]) 1) (gt (A0 Tryz.f28.ntmps #[a0, a1, a2]) 2) w R E = S28_0 a0 a1 a2 w R E := by kernel_rfl
  have t := T28_0 (r := none) (Q := QF P Tryz.f28 R E) (A0 Tryz.f28.ntmps #[a0, a1, a2]) w (by kernel_rfl) R E (fun _ _ _ h => h) (fun _ _ _ h => h) (Eq.mpr e h)
  exact C_of (c := C28_0) Tryz.func28 (by kernel_rfl) t
def S29_b1 (v0 v1 v2 v3 v8 : Value) (w : World) (N : K5) (R : K1) (E : Ev) : Prop :=
  X P (.bin .lss 3 false false v8 v2) 4 w (fun t11 w1 =>
  Cnd t11 (
  XQ P (.nilCheck v0) 0 (drw w1) (fun t15 =>
  XQ P (.fieldAddr 36 t15 0) 0 (drw w1) (fun t16 =>
  XQ P (.load 34 t16) 34 (drw w1) (fun t17 =>
  XQ P (.conv 38 3 v1) 3 (drw w1) (fun t19 =>
  XQ P (.bin .add 3 false false t19 v8) 3 (drw w1) (fun t21 =>
  XQ P (.bin .mul 3 true false (.int .i64 8) v8) 3 (drw w1) (fun t24 =>
  XQ P (.bin .shr 38 false false v3 t24) 38 (drw w1) (fun t25 =>
  XQ P (.conv 38 5 t25) 5 (drw w1) (fun t26 =>
  XQ P (.indexAddr 34 t17 t21) 0 (drw w1) (fun t27 =>
  (X P (.store 5 t27 t26) 0 (drw w1) (fun _ w2 =>
  X P (.bin .add 3 false true v8 (.int .i64 1)) 3 w2 (fun t13 w3 =>
  N v0 v1 v2 v3 t13 w3) E) E))))))))))) (
  R (Value.tuple #[]) w1)) E
noncomputable def C29_b1 : Code := cB (cB (cR (bodyOf Tryz.f29)))
noncomputable def J29_b1 (N : K5) (R : K1) (E : Ev) : Nat → Env → World → Prop := fun i a w => match i with | 0 => resQ P Tryz.f29.results a w R | _ => False
theorem K29_b1 (g : Env) (w : World) (N : K5) (R : K1) (E : Ev) :
  vcF P Z0 Z0 C29_b1 (QC (fun a w => N (a 0) (a 1) (a 2) (a 3) (a 8) w) (fun a w => resQ P Tryz.f29.results a w R) (J29_b1 N R E) E) g w = S29_b1 (g 0) (g 1) (g 2) (g 3) (g 8) w N R E := by kernel_rfl
theorem T29_b1 (hs : a.tmps.size = 28) (N : K5) (R : K1) (E : Ev) (hN : ∀ a' w', Ag (wr C29_b1) a a' → N (gt a' 0) (gt a' 1) (gt a' 2) (gt a' 3) (gt a' 8) w' → Q .normal a' w') (hX0 : ∀ a' w', Ag (wr C29_b1) a a' → resQ P Tryz.f29.results (gt a') w' R → Q (.exit 0) a' w') (hR : ∀ a' w', Ag (wr C29_b1) a a' → resQ P Tryz.f29.results (gt a') w' R → Q .ret a' w') (hE : HE Q E)
  (h : S29_b1 (gt a 0) (gt a 1) (gt a 2) (gt a 3) (gt a 8) w N R E) : C29_b1.wpIn (Fw r) 0 P (Qs (wr C29_b1) a Q) a w :=
  piece' (HJ := Z0) (HL := Z0) hmix hs (by decide +kernel) (fun a w => N (a 0) (a 1) (a 2) (a 3) (a 8) w) (fun a w => resQ P Tryz.f29.results a w R) (J29_b1 N R E) E hN hR
  (fun i a' w' hag h => by
  unfold J29_b1 at h
  split at h <;> first | exact hX0 _ _ hag h | exact h.elim) hE
  trivial (Eq.mpr (K29_b1 (gt a) w N R E) h)
def S29_l1 (v0 v1 v2 v3 v8 : Value) (w : World) (R : K1) (E : Ev) : Prop :=
  ∃ (I : K1) (μ : Value → World → Nat), I v8 w ∧ ∀ (v8 : Value) (w : World), I v8 w → S29_b1 v0 v1 v2 v3 v8 w (fun x0 x1 x2 x3 x8 y => I x8 y ∧ μ x8 y < μ v8 w) R E
theorem T29_l1 (hs : a.tmps.size = 28) (R : K1) (E : Ev) (hX0 : ∀ a' w', Ag (wr (Code.loop C29_b1)) a a' → resQ P Tryz.f29.results (gt a') w' R → Q (.exit 0) a' w') (hR : ∀ a' w', Ag (wr (Code.loop C29_b1)) a a' → resQ P Tryz.f29.results (gt a') w' R → Q .ret a' w') (hE : HE Q E)
  (h : S29_l1 (gt a 0) (gt a 1) (gt a 2) (gt a 3) (gt a 8) w R E) : (Code.loop C29_b1).wpIn (Fw r) 0 P (Qs (wr (Code.loop C29_b1)) a Q) a w := by
  obtain ⟨I, μ, h0, hr⟩ := h
  refine loop_piece (c := C29_b1) (fun a w => I (gt a 8) w) (fun a w => μ (gt a 8) w) h0 fun a' w' hag hI => ?_
  have h' := hr (gt a' 8) w' hI
  rw [← hag.get 0 (by decide +kernel)] at h'
  rw [← hag.get 1 (by decide +kernel)] at h'
  rw [← hag.get 2 (by decide +kernel)] at h'
  rw [← hag.get 3 (by decide +kernel)] at h'
  exact T29_b1 a' w' (hag.size.trans hs) (fun x0 x1 x2 x3 x8 y => I x8 y ∧ μ x8 y < μ (gt a' 8) w') R E (fun _ _ _ h => h) (fun a1 w1 hag1 h => hX0 a1 w1 (hag.trans hag1) h) (fun a1 w1 hag1 h => hR a1 w1 (hag.trans hag1) h) hE h'
def S29_0 (v0 v1 v2 v3 : Value) (w : World) (R : K1) (E : Ev) : Prop :=
  S29_l1 v0 v1 v2 v3 (.int .i64 0) w R E
noncomputable def C29_0 : Code := bodyOf Tryz.f29
noncomputable def HL29_0 (R : K1) (E : Ev) : Cut := fun i => match i with | some 1 => some (fun a w => S29_l1 (a 0) (a 1) (a 2) (a 3) (a 8) w R E) | _ => none
theorem K29_0 (g : Env) (w : World) (R : K1) (E : Ev) :
  vcF P Z0 (HL29_0 R E) C29_0 (QC (fun a w => resQ P Tryz.f29.results a w R) (fun a w => resQ P Tryz.f29.results a w R) Y0 E) g w = S29_0 (g 0) (g 1) (g 2) (g 3) w R E := by kernel_rfl
theorem T29_0 (hs : a.tmps.size = 28) (R : K1) (E : Ev) (hN : ∀ a' w', Ag (wr C29_0) a a' → resQ P Tryz.f29.results (gt a') w' R → Q .normal a' w') (hR : ∀ a' w', Ag (wr C29_0) a a' → resQ P Tryz.f29.results (gt a') w' R → Q .ret a' w') (hE : HE Q E)
  (h : S29_0 (gt a 0) (gt a 1) (gt a 2) (gt a 3) w R E) : C29_0.wpIn (Fw r) 0 P (Qs (wr C29_0) a Q) a w :=
  piece' (HJ := Z0) (HL := HL29_0 R E) hmix hs (by decide +kernel) (fun a w => resQ P Tryz.f29.results a w R) (fun a w => resQ P Tryz.f29.results a w R) Y0 E hN hR
  (fun _ _ _ _ h => h.elim) hE
  ⟨pay (c := Code.loop C29_b1) (W := wr C29_0) (h := fun a w => S29_l1 (a 0) (a 1) (a 2) (a 3) (a 8) w R E) (by decide +kernel) fun a w hsz h => T29_l1 a w (hsz.trans hs) R E (fun _ _ _ h => h) (fun _ _ _ h => h) (fun _ _ _ h => h) h, trivial⟩ (Eq.mpr (K29_0 (gt a) w R E) h)
theorem F29 (a0 a1 a2 a3 : Value) (w : World) (R : K1) (E : Ev) (h : S29_0 a0 a1 a2 a3 w R E) : C P 29 #[a0, a1, a2, a3] w R E := by
  have e : S29_0 (gt (A0 Tryz.f29.ntmps #[a0, a1, a2, a3]) 0) (gt (A0 Tryz.f29.ntmps #[a0, a1, a2, a3]) 1) (gt (A0 Tryz.f29.ntmps #[a0, a1, a2, a3]) 2) (gt (A0 Tryz.f29.ntmps #[a0, a1, a2, a3]) 3) w R E = S29_0 a0 a1 a2 a3 w R E := by kernel_rfl
  have t := T29_0 (r := none) (Q := QF P Tryz.f29 R E) (A0 Tryz.f29.ntmps #[a0, a1, a2, a3]) w (by kernel_rfl) R E (fun _ _ _ h => h) (fun _ _ _ h => h) (fun _ _ _ h => h) (Eq.mpr e h)
  exact C_of (c := C29_0) Tryz.func29 (by kernel_rfl) t
def S30_0 (v0 : Value) (w : World) (R : K1) (E : Ev) : Prop :=
  X P (.nilCheck v0) 0 w (fun t4 w1 =>
  X P (.fieldAddr 142 t4 1) 0 w1 (fun t5 w2 =>
  X P (.load 139 t5) 139 w2 (fun t6 w3 =>
  X P (.callB .len #[139] #[false] #[t6]) 3 w3 (fun t7 w4 =>
  R t7 w4) E) E) E) E
noncomputable def C30_0 : Code := bodyOf Tryz.f30
theorem K30_0 (g : Env) (w : World) (R : K1) (E : Ev) :
  vcF P Z0 Z0 C30_0 (QC (fun _ _ => False) (fun a w => resQ P Tryz.f30.results a w R) Y0 E) g w = S30_0 (g 0) w R E := by kernel_rfl
theorem T30_0 (hs : a.tmps.size = 8) (R : K1) (E : Ev) (hR : ∀ a' w', Ag (wr C30_0) a a' → resQ P Tryz.f30.results (gt a') w' R → Q .ret a' w') (hE : HE Q E)
  (h : S30_0 (gt a 0) w R E) : C30_0.wpIn (Fw r) 0 P (Qs (wr C30_0) a Q) a w :=
  piece' (HJ := Z0) (HL := Z0) hmix hs (by decide +kernel) (fun _ _ => False) (fun a w => resQ P Tryz.f30.results a w R) Y0 E (fun _ _ _ h => h.elim) hR
  (fun _ _ _ _ h => h.elim) hE
  trivial (Eq.mpr (K30_0 (gt a) w R E) h)
theorem F30 (a0 : Value) (w : World) (R : K1) (E : Ev) (h : S30_0 a0 w R E) : C P 30 #[a0] w R E := by
  have e : S30_0 (gt (A0 Tryz.f30.ntmps #[a0]) 0) w R E = S30_0 a0 w R E := by kernel_rfl
  have t := T30_0 (r := none) (Q := QF P Tryz.f30 R E) (A0 Tryz.f30.ntmps #[a0]) w (by kernel_rfl) R E (fun _ _ _ h => h) (fun _ _ _ h => h) (Eq.mpr e h)
  exact C_of (c := C30_0) Tryz.func30 (by kernel_rfl) t
def S31_j34 (v15 v28 : Value) (w : World) (R : K1) (E : Ev) : Prop :=
  X P (.bin .eql 49 false false v28 v15) 4 w (fun t175 w1 =>
  R t175 w1) E
noncomputable def C31_j34 : Code := cR (cR (cR (cR (cR (cR (cR (cR (cR (cR (cR (bodyOf Tryz.f31)))))))))))
theorem K31_j34 (g : Env) (w : World) (R : K1) (E : Ev) :
  vcF P Z0 Z0 C31_j34 (QC (fun _ _ => False) (fun a w => resQ P Tryz.f31.results a w R) Y0 E) g w = S31_j34 (g 15) (g 28) w R E := by kernel_rfl
theorem T31_j34 (hs : a.tmps.size = 176) (R : K1) (E : Ev) (hR : ∀ a' w', Ag (wr C31_j34) a a' → resQ P Tryz.f31.results (gt a') w' R → Q .ret a' w') (hE : HE Q E)
  (h : S31_j34 (gt a 15) (gt a 28) w R E) : C31_j34.wpIn (Fw r) 0 P (Qs (wr C31_j34) a Q) a w :=
  piece' (HJ := Z0) (HL := Z0) hmix hs (by decide +kernel) (fun _ _ => False) (fun a w => resQ P Tryz.f31.results a w R) Y0 E (fun _ _ _ h => h.elim) hR
  (fun _ _ _ _ h => h.elim) hE
  trivial (Eq.mpr (K31_j34 (gt a) w R E) h)
def S31_b31 (v1 v13 v15 v16 v25 v28 v29 : Value) (w : World) (N : K7) (X6 : K2) (E : Ev) : Prop :=
  X P (.bin .lss 3 false false v29 v13) 4 w (fun t150 w1 =>
  XG (some t150) true P (.val v15) 49 w1 (fun t152 w2 =>
  XG (some t150) true P (.bin .eql 49 false true t152 (.int .i64 0)) 4 w2 (fun t153 w3 =>
  X P (.pick t150 t153 (.bool false)) 4 w3 (fun t154 w4 =>
  Cnd t154 (
  XQ P (.bin .quo 3 false true v29 (.int .i64 4)) 3 (drw w4) (fun t160 =>
  XQ P (.indexAddr 117 v16 t160) 0 (drw w4) (fun t161 =>
  XQ P (.load 38 t161) 38 (drw w4) (fun t162 =>
  XQ P (.bin .rem 3 false true v29 (.int .i64 4)) 3 (drw w4) (fun t164 =>
  XQ P (.conv 3 38 t164) 38 (drw w4) (fun t165 =>
  XQ P (.bin .add 38 false false t162 t165) 38 (drw w4) (fun t166 =>
  XQ P (.indexAddr 34 v25 v29) 0 (drw w4) (fun t169 =>
  XQ P (.load 5 t169) 5 (drw w4) (fun t170 =>
  XQ P (.conv 5 38 t170) 38 (drw w4) (fun t171 =>
  (X P (.callF 29 #[v1, t166, (.int .i64 1), t171]) 0 (drw w4) (fun t172 w5 =>
  X P (.bin .add 3 false true v29 (.int .i64 1)) 3 w5 (fun t156 w6 =>
  N v1 v13 v15 v16 v25 v28 t156 w6) E) E))))))))))) (
  X6 v15 v28 w4)) E) E) E) E
noncomputable def C31_b31 : Code := cB (cB (cR (cL (cR (cR (cR (cR (cR (cR (cR (cR (cR (cR (bodyOf Tryz.f31))))))))))))))
noncomputable def J31_b31 (N : K7) (X6 : K2) (E : Ev) : Nat → Env → World → Prop := fun i a w => match i with | 6 => X6 (a 15) (a 28) w | _ => False
theorem K31_b31 (g : Env) (w : World) (N : K7) (X6 : K2) (E : Ev) :
  vcF P Z0 Z0 C31_b31 (QC (fun a w => N (a 1) (a 13) (a 15) (a 16) (a 25) (a 28) (a 29) w) (fun _ _ => False) (J31_b31 N X6 E) E) g w = S31_b31 (g 1) (g 13) (g 15) (g 16) (g 25) (g 28) (g 29) w N X6 E := by kernel_rfl
theorem T31_b31 (hs : a.tmps.size = 176) (N : K7) (X6 : K2) (E : Ev) (hN : ∀ a' w', Ag (wr C31_b31) a a' → N (gt a' 1) (gt a' 13) (gt a' 15) (gt a' 16) (gt a' 25) (gt a' 28) (gt a' 29) w' → Q .normal a' w') (hX6 : ∀ a' w', Ag (wr C31_b31) a a' → X6 (gt a' 15) (gt a' 28) w' → Q (.exit 6) a' w') (hE : HE Q E)
  (h : S31_b31 (gt a 1) (gt a 13) (gt a 15) (gt a 16) (gt a 25) (gt a 28) (gt a 29) w N X6 E) : C31_b31.wpIn (Fw r) 0 P (Qs (wr C31_b31) a Q) a w :=
  piece' (HJ := Z0) (HL := Z0) hmix hs (by decide +kernel) (fun a w => N (a 1) (a 13) (a 15) (a 16) (a 25) (a 28) (a 29) w) (fun _ _ => False) (J31_b31 N X6 E) E hN (fun _ _ _ h => h.elim)
  (fun i a' w' hag h => by
  unfold J31_b31 at h
  split at h <;> first | exact hX6 _ _ hag h | exact h.elim) hE
  trivial (Eq.mpr (K31_b31 (gt a) w N X6 E) h)
def S31_l31 (v1 v13 v15 v16 v25 v28 v29 : Value) (w : World) (X6 : K2) (E : Ev) : Prop :=
  ∃ (I : K1) (μ : Value → World → Nat), I v29 w ∧ ∀ (v29 : Value) (w : World), I v29 w → S31_b31 v1 v13 v15 v16 v25 v28 v29 w (fun x1 x13 x15 x16 x25 x28 x29 y => I x29 y ∧ μ x29 y < μ v29 w) X6 E
theorem T31_l31 (hs : a.tmps.size = 176) (X6 : K2) (E : Ev) (hX6 : ∀ a' w', Ag (wr (Code.loop C31_b31)) a a' → X6 (gt a' 15) (gt a' 28) w' → Q (.exit 6) a' w') (hE : HE Q E)
  (h : S31_l31 (gt a 1) (gt a 13) (gt a 15) (gt a 16) (gt a 25) (gt a 28) (gt a 29) w X6 E) : (Code.loop C31_b31).wpIn (Fw r) 0 P (Qs (wr (Code.loop C31_b31)) a Q) a w := by
  obtain ⟨I, μ, h0, hr⟩ := h
  refine loop_piece (c := C31_b31) (fun a w => I (gt a 29) w) (fun a w => μ (gt a 29) w) h0 fun a' w' hag hI => ?_
  have h' := hr (gt a' 29) w' hI
  rw [← hag.get 1 (by decide +kernel)] at h'
  rw [← hag.get 13 (by decide +kernel)] at h'
  rw [← hag.get 15 (by decide +kernel)] at h'
  rw [← hag.get 16 (by decide +kernel)] at h'
  rw [← hag.get 25 (by decide +kernel)] at h'
  rw [← hag.get 28 (by decide +kernel)] at h'
  exact T31_b31 a' w' (hag.size.trans hs) (fun x1 x13 x15 x16 x25 x28 x29 y => I x29 y ∧ μ x29 y < μ (gt a' 29) w') X6 E (fun _ _ _ h => h) (fun a1 w1 hag1 h => hX6 a1 w1 (hag.trans hag1) h) hE h'
def S31_j29 (v0 v1 v3 v4 v13 v15 v16 v25 : Value) (w : World) (R : K1) (E : Ev) : Prop :=
  X P (.nilCheck v0) 0 w (fun t139 w1 =>
  X P (.fieldAddr 46 t139 3) 0 w1 (fun t140 w2 =>
  X P (.load 44 t140) 44 w2 (fun t141 w3 =>
  X P (.callF 63 #[t141, v3, v4, v25]) 63 w3 (fun t145 w4 =>
  X P (.extract t145 0) 3 w4 (fun t146 w5 =>
  X P (.extract t145 1) 49 w5 (fun t147 w6 =>
  S31_l31 v1 v13 v15 v16 v25 t147 (.int .i64 0) w6 (fun x15 x28 y => S31_j34 x15 x28 y R E) E) E) E) E) E) E) E
noncomputable def C31_j29 : Code := cR (cR (cR (cR (cR (cR (cR (cR (cR (bodyOf Tryz.f31)))))))))
noncomputable def HJ31_j29 (R : K1) (E : Ev) : Cut := fun i => match i with | some 34 => some (fun a w => S31_j34 (a 15) (a 28) w R E) | _ => none
noncomputable def HL31_j29 (R : K1) (E : Ev) : Cut := fun i => match i with | some 31 => some (fun a w => S31_l31 (a 1) (a 13) (a 15) (a 16) (a 25) (a 28) (a 29) w (fun x15 x28 y => S31_j34 x15 x28 y R E) E) | _ => none
theorem K31_j29 (g : Env) (w : World) (R : K1) (E : Ev) :
  vcF P (HJ31_j29 R E) (HL31_j29 R E) C31_j29 (QC (fun _ _ => False) (fun a w => resQ P Tryz.f31.results a w R) Y0 E) g w = S31_j29 (g 0) (g 1) (g 3) (g 4) (g 13) (g 15) (g 16) (g 25) w R E := by kernel_rfl
theorem T31_j29 (hs : a.tmps.size = 176) (R : K1) (E : Ev) (hR : ∀ a' w', Ag (wr C31_j29) a a' → resQ P Tryz.f31.results (gt a') w' R → Q .ret a' w') (hE : HE Q E)
  (h : S31_j29 (gt a 0) (gt a 1) (gt a 3) (gt a 4) (gt a 13) (gt a 15) (gt a 16) (gt a 25) w R E) : C31_j29.wpIn (Fw r) 0 P (Qs (wr C31_j29) a Q) a w :=
  piece' (HJ := HJ31_j29 R E) (HL := HL31_j29 R E) hmix hs (by decide +kernel) (fun _ _ => False) (fun a w => resQ P Tryz.f31.results a w R) Y0 E (fun _ _ _ h => h.elim) hR
  (fun _ _ _ _ h => h.elim) hE
  ⟨pay (c := Code.loop C31_b31) (W := wr C31_j29) (h := fun a w => S31_l31 (a 1) (a 13) (a 15) (a 16) (a 25) (a 28) (a 29) w (fun x15 x28 y => S31_j34 x15 x28 y R E) E) (by decide +kernel) fun a w hsz h => T31_l31 a w (hsz.trans hs) (fun x15 x28 y => S31_j34 x15 x28 y R E) E (fun _ _ _ h => h) (fun _ _ _ h => h) h, pay (c := C31_j34) (W := wr C31_j29) (h := fun a w => S31_j34 (a 15) (a 28) w R E) (by decide +kernel) fun a w hsz h => T31_j34 a w (hsz.trans hs) R E (fun _ _ _ h => h) (fun _ _ _ h => h) h, trivial⟩ (Eq.mpr (K31_j29 (gt a) w R E) h)
def S31_b26 (v0 v1 v3 v4 v11 v13 v15 v16 v25 v26 : Value) (w : World) (N : K10) (X4 : K8) (E : Ev) : Prop :=
  X P (.bin .lss 3 false false v26 v13) 4 w (fun t125 w1 =>
  Cnd t125 (
  X P (.fieldAddr 40 v11 5) 0 w1 (fun t129 w2 =>
  X P (.load 38 t129) 38 w2 (fun t130 w3 =>
  X P (.conv 38 3 t130) 3 w3 (fun t131 w4 =>
  X P (.bin .add 3 false false t131 v26) 3 w4 (fun t133 w5 =>
  X P (.conv 3 5 t133) 5 w5 (fun t134 w6 =>
  X P (.buildSlice 34 1 #[(0, t134)]) 34 w6 (fun t135 w7 =>
  X P (.callB .append #[34, 34] #[false, false] #[v25, t135]) 34 w7 (fun t136 w8 =>
  X P (.bin .add 3 false true v26 (.int .i64 1)) 3 w8 (fun t127 w9 =>
  N v0 v1 v3 v4 v11 v13 v15 v16 t136 t127 w9) E) E) E) E) E) E) E) E) (
  X4 v0 v1 v3 v4 v13 v15 v16 v25 w1)) E
noncomputable def C31_b26 : Code := cB (cB (cR (cL (cR (cR (cR (cR (cR (cR (cR (cR (bodyOf Tryz.f31))))))))))))
noncomputable def J31_b26 (N : K10) (X4 : K8) (E : Ev) : Nat → Env → World → Prop := fun i a w => match i with | 4 => X4 (a 0) (a 1) (a 3) (a 4) (a 13) (a 15) (a 16) (a 25) w | _ => False
theorem K31_b26 (g : Env) (w : World) (N : K10) (X4 : K8) (E : Ev) :
  vcF P Z0 Z0 C31_b26 (QC (fun a w => N (a 0) (a 1) (a 3) (a 4) (a 11) (a 13) (a 15) (a 16) (a 25) (a 26) w) (fun _ _ => False) (J31_b26 N X4 E) E) g w = S31_b26 (g 0) (g 1) (g 3) (g 4) (g 11) (g 13) (g 15) (g 16) (g 25) (g 26) w N X4 E := by kernel_rfl
theorem T31_b26 (hs : a.tmps.size = 176) (N : K10) (X4 : K8) (E : Ev) (hN : ∀ a' w', Ag (wr C31_b26) a a' → N (gt a' 0) (gt a' 1) (gt a' 3) (gt a' 4) (gt a' 11) (gt a' 13) (gt a' 15) (gt a' 16) (gt a' 25) (gt a' 26) w' → Q .normal a' w') (hX4 : ∀ a' w', Ag (wr C31_b26) a a' → X4 (gt a' 0) (gt a' 1) (gt a' 3) (gt a' 4) (gt a' 13) (gt a' 15) (gt a' 16) (gt a' 25) w' → Q (.exit 4) a' w') (hE : HE Q E)
  (h : S31_b26 (gt a 0) (gt a 1) (gt a 3) (gt a 4) (gt a 11) (gt a 13) (gt a 15) (gt a 16) (gt a 25) (gt a 26) w N X4 E) : C31_b26.wpIn (Fw r) 0 P (Qs (wr C31_b26) a Q) a w :=
  piece' (HJ := Z0) (HL := Z0) hmix hs (by decide +kernel) (fun a w => N (a 0) (a 1) (a 3) (a 4) (a 11) (a 13) (a 15) (a 16) (a 25) (a 26) w) (fun _ _ => False) (J31_b26 N X4 E) E hN (fun _ _ _ h => h.elim)
  (fun i a' w' hag h => by
  unfold J31_b26 at h
  split at h <;> first | exact hX4 _ _ hag h | exact h.elim) hE
  trivial (Eq.mpr (K31_b26 (gt a) w N X4 E) h)
def S31_l26 (v0 v1 v3 v4 v11 v13 v15 v16 v25 v26 : Value) (w : World) (X4 : K8) (E : Ev) : Prop :=
  ∃ (I : K2) (μ : Value → Value → World → Nat), I v25 v26 w ∧ ∀ (v25 v26 : Value) (w : World), I v25 v26 w → S31_b26 v0 v1 v3 v4 v11 v13 v15 v16 v25 v26 w (fun x0 x1 x3 x4 x11 x13 x15 x16 x25 x26 y => I x25 x26 y ∧ μ x25 x26 y < μ v25 v26 w) X4 E
theorem T31_l26 (hs : a.tmps.size = 176) (X4 : K8) (E : Ev) (hX4 : ∀ a' w', Ag (wr (Code.loop C31_b26)) a a' → X4 (gt a' 0) (gt a' 1) (gt a' 3) (gt a' 4) (gt a' 13) (gt a' 15) (gt a' 16) (gt a' 25) w' → Q (.exit 4) a' w') (hE : HE Q E)
  (h : S31_l26 (gt a 0) (gt a 1) (gt a 3) (gt a 4) (gt a 11) (gt a 13) (gt a 15) (gt a 16) (gt a 25) (gt a 26) w X4 E) : (Code.loop C31_b26).wpIn (Fw r) 0 P (Qs (wr (Code.loop C31_b26)) a Q) a w := by
  obtain ⟨I, μ, h0, hr⟩ := h
  refine loop_piece (c := C31_b26) (fun a w => I (gt a 25) (gt a 26) w) (fun a w => μ (gt a 25) (gt a 26) w) h0 fun a' w' hag hI => ?_
  have h' := hr (gt a' 25) (gt a' 26) w' hI
  rw [← hag.get 0 (by decide +kernel)] at h'
  rw [← hag.get 1 (by decide +kernel)] at h'
  rw [← hag.get 3 (by decide +kernel)] at h'
  rw [← hag.get 4 (by decide +kernel)] at h'
  rw [← hag.get 11 (by decide +kernel)] at h'
  rw [← hag.get 13 (by decide +kernel)] at h'
  rw [← hag.get 15 (by decide +kernel)] at h'
  rw [← hag.get 16 (by decide +kernel)] at h'
  exact T31_b26 a' w' (hag.size.trans hs) (fun x0 x1 x3 x4 x11 x13 x15 x16 x25 x26 y => I x25 x26 y ∧ μ x25 x26 y < μ (gt a' 25) (gt a' 26) w') X4 E (fun _ _ _ h => h) (fun a1 w1 hag1 h => hX4 a1 w1 (hag.trans hag1) h) hE h'
def S31_j24 (v0 v1 v3 v4 v11 v13 v15 v16 : Value) (w : World) (R : K1) (E : Ev) : Prop :=
  S31_l26 v0 v1 v3 v4 v11 v13 v15 v16 (.slice none 0 0) (.int .i64 0) w (fun x0 x1 x3 x4 x13 x15 x16 x25 y => S31_j29 x0 x1 x3 x4 x13 x15 x16 x25 y R E) E
noncomputable def C31_j24 : Code := cR (cR (cR (cR (cR (cR (cR (bodyOf Tryz.f31)))))))
noncomputable def HJ31_j24 (R : K1) (E : Ev) : Cut := fun i => match i with | some 29 => some (fun a w => S31_j29 (a 0) (a 1) (a 3) (a 4) (a 13) (a 15) (a 16) (a 25) w R E) | _ => none
noncomputable def HL31_j24 (R : K1) (E : Ev) : Cut := fun i => match i with | some 26 => some (fun a w => S31_l26 (a 0) (a 1) (a 3) (a 4) (a 11) (a 13) (a 15) (a 16) (a 25) (a 26) w (fun x0 x1 x3 x4 x13 x15 x16 x25 y => S31_j29 x0 x1 x3 x4 x13 x15 x16 x25 y R E) E) | _ => none
theorem K31_j24 (g : Env) (w : World) (R : K1) (E : Ev) :
  vcF P (HJ31_j24 R E) (HL31_j24 R E) C31_j24 (QC (fun _ _ => False) (fun a w => resQ P Tryz.f31.results a w R) Y0 E) g w = S31_j24 (g 0) (g 1) (g 3) (g 4) (g 11) (g 13) (g 15) (g 16) w R E := by kernel_rfl
theorem T31_j24 (hs : a.tmps.size = 176) (R : K1) (E : Ev) (hR : ∀ a' w', Ag (wr C31_j24) a a' → resQ P Tryz.f31.results (gt a') w' R → Q .ret a' w') (hE : HE Q E)
  (h : S31_j24 (gt a 0) (gt a 1) (gt a 3) (gt a 4) (gt a 11) (gt a 13) (gt a 15) (gt a 16) w R E) : C31_j24.wpIn (Fw r) 0 P (Qs (wr C31_j24) a Q) a w :=
  piece' (HJ := HJ31_j24 R E) (HL := HL31_j24 R E) hmix hs (by decide +kernel) (fun _ _ => False) (fun a w => resQ P Tryz.f31.results a w R) Y0 E (fun _ _ _ h => h.elim) hR
  (fun _ _ _ _ h => h.elim) hE
  ⟨pay (c := Code.loop C31_b26) (W := wr C31_j24) (h := fun a w => S31_l26 (a 0) (a 1) (a 3) (a 4) (a 11) (a 13) (a 15) (a 16) (a 25) (a 26) w (fun x0 x1 x3 x4 x13 x15 x16 x25 y => S31_j29 x0 x1 x3 x4 x13 x15 x16 x25 y R E) E) (by decide +kernel) fun a w hsz h => T31_l26 a w (hsz.trans hs) (fun x0 x1 x3 x4 x13 x15 x16 x25 y => S31_j29 x0 x1 x3 x4 x13 x15 x16 x25 y R E) E (fun _ _ _ h => h) (fun _ _ _ h => h) h, pay (c := C31_j29) (W := wr C31_j24) (h := fun a w => S31_j29 (a 0) (a 1) (a 3) (a 4) (a 13) (a 15) (a 16) (a 25) w R E) (by decide +kernel) fun a w hsz h => T31_j29 a w (hsz.trans hs) R E (fun _ _ _ h => h) (fun _ _ _ h => h) h, trivial⟩ (Eq.mpr (K31_j24 (gt a) w R E) h)
def S31_j23 (v13 v21 : Value) (w : World) (R : K1) (E : Ev) : Prop :=
  X P (.callB .len #[34] #[false] #[v21]) 3 w (fun t120 w1 =>
  X P (.bin .eql 3 false false t120 v13) 4 w1 (fun t122 w2 =>
  R t122 w2) E) E
noncomputable def C31_j23 : Code := cR (cR (cR (cT (cR (cL (cR (cR (cR (cR (cR (cR (bodyOf Tryz.f31))))))))))))
theorem K31_j23 (g : Env) (w : World) (R : K1) (E : Ev) :
  vcF P Z0 Z0 C31_j23 (QC (fun _ _ => False) (fun a w => resQ P Tryz.f31.results a w R) Y0 E) g w = S31_j23 (g 13) (g 21) w R E := by kernel_rfl
theorem T31_j23 (hs : a.tmps.size = 176) (R : K1) (E : Ev) (hR : ∀ a' w', Ag (wr C31_j23) a a' → resQ P Tryz.f31.results (gt a') w' R → Q .ret a' w') (hE : HE Q E)
  (h : S31_j23 (gt a 13) (gt a 21) w R E) : C31_j23.wpIn (Fw r) 0 P (Qs (wr C31_j23) a Q) a w :=
  piece' (HJ := Z0) (HL := Z0) hmix hs (by decide +kernel) (fun _ _ => False) (fun a w => resQ P Tryz.f31.results a w R) Y0 E (fun _ _ _ h => h.elim) hR
  (fun _ _ _ _ h => h.elim) hE
  trivial (Eq.mpr (K31_j23 (gt a) w R E) h)
def S31_b19 (v1 v13 v16 v21 v24 : Value) (w : World) (N : K5) (X2 : K2) (R : K1) (E : Ev) : Prop :=
  X P (.bin .lss 3 false false v24 v13) 4 w (fun t93 w1 =>
  Cnd t93 (
  XQ P (.callB .len #[34] #[false] #[v21]) 3 (drw w1) (fun t97 =>
  XQ P (.bin .neq 3 false false t97 v13) 4 (drw w1) (fun t99 =>
  XQG (some t99) false P (.val v21) 34 (drw w1) (fun t101 =>
  XQG (some t99) false P (.val v24) 3 (drw w1) (fun t102 =>
  XQG (some t99) false P (.indexAddr 34 t101 t102) 0 (drw w1) (fun t103 =>
  XQG (some t99) false P (.load 5 t103) 5 (drw w1) (fun t104 =>
  XQG (some t99) false P (.conv 5 38 t104) 38 (drw w1) (fun t105 =>
  XQG (some t99) false P (.val v1) 33 (drw w1) (fun t106 =>
  XQG (some t99) false P (.val v16) 117 (drw w1) (fun t107 =>
  XQG (some t99) false P (.val v24) 3 (drw w1) (fun t108 =>
  XQG (some t99) false P (.bin .quo 3 false true t108 (.int .i64 4)) 3 (drw w1) (fun t109 =>
  XQG (some t99) false P (.indexAddr 117 t107 t109) 0 (drw w1) (fun t110 =>
  XQG (some t99) false P (.load 38 t110) 38 (drw w1) (fun t111 =>
  XQG (some t99) false P (.val v24) 3 (drw w1) (fun t112 =>
  XQG (some t99) false P (.bin .rem 3 false true t112 (.int .i64 4)) 3 (drw w1) (fun t113 =>
  XQG (some t99) false P (.conv 3 38 t113) 38 (drw w1) (fun t114 =>
  XQG (some t99) false P (.bin .add 38 false false t111 t114) 38 (drw w1) (fun t115 =>
  (XG (some t99) false P (.callF 28 #[t106, t115, (.int .i64 1)]) 38 (drw w1) (fun t116 w2 =>
  (XQG (some t99) false P (.conv 5 38 t104) 38 w2 (fun v => v = t105)) ∧
  (XQG (some t99) false P (.load 5 t103) 5 w2 (fun v => v = t104)) ∧
  (XQG (some t99) false P (.indexAddr 34 t101 t102) 0 w2 (fun v => v = t103)) ∧
  (XQG (some t99) false P (.val v24) 3 w2 (fun v => v = t102)) ∧
  (XQG (some t99) false P (.val v21) 34 w2 (fun v => v = t101)) ∧
  XQG (some t99) false P (.bin .neq 38 false false t105 t116) 4 w2 (fun t117 =>
  XQ P (.pick t99 (.bool true) t117) 4 w2 (fun t118 =>
  Cnd t118 (
  R (.bool false) w2) (
  X P (.bin .add 3 false true v24 (.int .i64 1)) 3 w2 (fun t95 w3 =>
  N v1 v13 v16 v21 t95 w3) E)))) E))))))))))))))))))) (
  X2 v13 v21 w1)) E
noncomputable def C31_b19 : Code := cB (cB (cR (cL (cR (cR (cT (cR (cL (cR (cR (cR (cR (cR (cR (bodyOf Tryz.f31)))))))))))))))
noncomputable def J31_b19 (N : K5) (X2 : K2) (R : K1) (E : Ev) : Nat → Env → World → Prop := fun i a w => match i with | 2 => X2 (a 13) (a 21) w | _ => False
theorem K31_b19 (g : Env) (w : World) (N : K5) (X2 : K2) (R : K1) (E : Ev) :
  vcF P Z0 Z0 C31_b19 (QC (fun a w => N (a 1) (a 13) (a 16) (a 21) (a 24) w) (fun a w => resQ P Tryz.f31.results a w R) (J31_b19 N X2 R E) E) g w = S31_b19 (g 1) (g 13) (g 16) (g 21) (g 24) w N X2 R E := by kernel_rfl
theorem T31_b19 (hs : a.tmps.size = 176) (N : K5) (X2 : K2) (R : K1) (E : Ev) (hN : ∀ a' w', Ag (wr C31_b19) a a' → N (gt a' 1) (gt a' 13) (gt a' 16) (gt a' 21) (gt a' 24) w' → Q .normal a' w') (hX2 : ∀ a' w', Ag (wr C31_b19) a a' → X2 (gt a' 13) (gt a' 21) w' → Q (.exit 2) a' w') (hR : ∀ a' w', Ag (wr C31_b19) a a' → resQ P Tryz.f31.results (gt a') w' R → Q .ret a' w') (hE : HE Q E)
  (h : S31_b19 (gt a 1) (gt a 13) (gt a 16) (gt a 21) (gt a 24) w N X2 R E) : C31_b19.wpIn (Fw r) 0 P (Qs (wr C31_b19) a Q) a w :=
  piece' (HJ := Z0) (HL := Z0) hmix hs (by decide +kernel) (fun a w => N (a 1) (a 13) (a 16) (a 21) (a 24) w) (fun a w => resQ P Tryz.f31.results a w R) (J31_b19 N X2 R E) E hN hR
  (fun i a' w' hag h => by
  unfold J31_b19 at h
  split at h <;> first | exact hX2 _ _ hag h | exact h.elim) hE
  trivial (Eq.mpr (K31_b19 (gt a) w N X2 R E) h)
def S31_l19 (v1 v13 v16 v21 v24 : Value) (w : World) (X2 : K2) (R : K1) (E : Ev) : Prop :=
  ∃ (I : K1) (μ : Value → World → Nat), I v24 w ∧ ∀ (v24 : Value) (w : World), I v24 w → S31_b19 v1 v13 v16 v21 v24 w (fun x1 x13 x16 x21 x24 y => I x24 y ∧ μ x24 y < μ v24 w) X2 R E
theorem T31_l19 (hs : a.tmps.size = 176) (X2 : K2) (R : K1) (E : Ev) (hX2 : ∀ a' w', Ag (wr (Code.loop C31_b19)) a a' → X2 (gt a' 13) (gt a' 21) w' → Q (.exit 2) a' w') (hR : ∀ a' w', Ag (wr (Code.loop C31_b19)) a a' → resQ P Tryz.f31.results (gt a') w' R → Q .ret a' w') (hE : HE Q E)
  (h : S31_l19 (gt a 1) (gt a 13) (gt a 16) (gt a 21) (gt a 24) w X2 R E) : (Code.loop C31_b19).wpIn (Fw r) 0 P (Qs (wr (Code.loop C31_b19)) a Q) a w := by
  obtain ⟨I, μ, h0, hr⟩ := h
  refine loop_piece (c := C31_b19) (fun a w => I (gt a 24) w) (fun a w => μ (gt a 24) w) h0 fun a' w' hag hI => ?_
  have h' := hr (gt a' 24) w' hI
  rw [← hag.get 1 (by decide +kernel)] at h'
  rw [← hag.get 13 (by decide +kernel)] at h'
  rw [← hag.get 16 (by decide +kernel)] at h'
  rw [← hag.get 21 (by decide +kernel)] at h'
  exact T31_b19 a' w' (hag.size.trans hs) (fun x1 x13 x16 x21 x24 y => I x24 y ∧ μ x24 y < μ (gt a' 24) w') X2 R E (fun _ _ _ h => h) (fun a1 w1 hag1 h => hX2 a1 w1 (hag.trans hag1) h) (fun a1 w1 hag1 h => hR a1 w1 (hag.trans hag1) h) hE h'
def S31_j14 (v0 v1 v3 v4 v11 v13 v14 v15 v16 : Value) (w : World) (R : K1) (E : Ev) : Prop :=
  Cnd v14 (
  X P (.nilCheck v0) 0 w (fun t66 w1 =>
  X P (.fieldAddr 46 t66 3) 0 w1 (fun t67 w2 =>
  X P (.load 44 t67) 44 w2 (fun t68 w3 =>
  X P (.callF 62 #[t68, v3, v4, v13]) 143 w3 (fun t72 w4 =>
  X P (.extract t72 0) 34 w4 (fun t73 w5 =>
  X P (.extract t72 1) 3 w5 (fun t74 w6 =>
  X P (.extract t72 2) 49 w6 (fun t75 w7 =>
  X P (.bin .neq 49 false false t75 v15) 4 w7 (fun t78 w8 =>
  XG (some t78) false P (.val v15) 49 w8 (fun t80 w9 =>
  XG (some t78) false P (.bin .neq 49 false true t80 (.int .i64 0)) 4 w9 (fun t81 w10 =>
  X P (.pick t78 (.bool true) t81) 4 w10 (fun t82 w11 =>
  Cnd t82 (
  X P (.bin .eql 49 false false t75 v15) 4 w11 (fun t85 w12 =>
  XG (some t85) true P (.val t73) 34 w12 (fun t87 w13 =>
  XG (some t85) true P (.callB .len #[34] #[false] #[t87]) 3 w13 (fun t88 w14 =>
  XG (some t85) true P (.bin .eql 3 false true t88 (.int .i64 0)) 4 w14 (fun t89 w15 =>
  X P (.pick t85 t89 (.bool false)) 4 w15 (fun t90 w16 =>
  R t90 w16) E) E) E) E) E) (
  S31_l19 v1 v13 v16 t73 (.int .i64 0) w11 (fun x13 x21 y => S31_j23 x13 x21 y R E) R E)) E) E) E) E) E) E) E) E) E) E) E) (
  S31_j24 v0 v1 v3 v4 v11 v13 v15 v16 w R E)
noncomputable def C31_j14 : Code := cR (cR (cR (cR (cR (cR (bodyOf Tryz.f31))))))
noncomputable def HJ31_j14 (R : K1) (E : Ev) : Cut := fun i => match i with | some 24 => some (fun a w => S31_j24 (a 0) (a 1) (a 3) (a 4) (a 11) (a 13) (a 15) (a 16) w R E) | some 23 => some (fun a w => S31_j23 (a 13) (a 21) w R E) | _ => none
noncomputable def HL31_j14 (R : K1) (E : Ev) : Cut := fun i => match i with | some 19 => some (fun a w => S31_l19 (a 1) (a 13) (a 16) (a 21) (a 24) w (fun x13 x21 y => S31_j23 x13 x21 y R E) R E) | _ => none
theorem K31_j14 (g : Env) (w : World) (R : K1) (E : Ev) :
  vcF P (HJ31_j14 R E) (HL31_j14 R E) C31_j14 (QC (fun _ _ => False) (fun a w => resQ P Tryz.f31.results a w R) Y0 E) g w = S31_j14 (g 0) (g 1) (g 3) (g 4) (g 11) (g 13) (g 14) (g 15) (g 16) w R E := by kernel_rfl
theorem T31_j14 (hs : a.tmps.size = 176) (R : K1) (E : Ev) (hR : ∀ a' w', Ag (wr C31_j14) a a' → resQ P Tryz.f31.results (gt a') w' R → Q .ret a' w') (hE : HE Q E)
  (h : S31_j14 (gt a 0) (gt a 1) (gt a 3) (gt a 4) (gt a 11) (gt a 13) (gt a 14) (gt a 15) (gt a 16) w R E) : C31_j14.wpIn (Fw r) 0 P (Qs (wr C31_j14) a Q) a w :=
  piece' (HJ := HJ31_j14 R E) (HL := HL31_j14 R E) hmix hs (by decide +kernel) (fun _ _ => False) (fun a w => resQ P Tryz.f31.results a w R) Y0 E (fun _ _ _ h => h.elim) hR
  (fun _ _ _ _ h => h.elim) hE
  ⟨pay (c := Code.loop C31_b19) (W := wr C31_j14) (h := fun a w => S31_l19 (a 1) (a 13) (a 16) (a 21) (a 24) w (fun x13 x21 y => S31_j23 x13 x21 y R E) R E) (by decide +kernel) fun a w hsz h => T31_l19 a w (hsz.trans hs) (fun x13 x21 y => S31_j23 x13 x21 y R E) R E (fun _ _ _ h => h) (fun _ _ _ h => h) (fun _ _ _ h => h) h, pay (c := C31_j23) (W := wr C31_j14) (h := fun a w => S31_j23 (a 13) (a 21) w R E) (by decide +kernel) fun a w hsz h => T31_j23 a w (hsz.trans hs) R E (fun _ _ _ h => h) (fun _ _ _ h => h) h, pay (c := C31_j24) (W := wr C31_j14) (h := fun a w => S31_j24 (a 0) (a 1) (a 3) (a 4) (a 11) (a 13) (a 15) (a 16) w R E) (by decide +kernel) fun a w hsz h => T31_j24 a w (hsz.trans hs) R E (fun _ _ _ h => h) (fun _ _ _ h => h) h, trivial⟩ (Eq.mpr (K31_j14 (gt a) w R E) h)
def S31_j7 (v0 v1 v2 v3 v4 v11 v13 v14 v15 v16 v17 : Value) (w : World) (N : K11) (E : Ev) : Prop :=
  X P (.bin .add 3 false true v17 (.int .i64 4)) 3 w (fun t46 w1 =>
  N v0 v1 v2 v3 v4 v11 v13 v14 v15 v16 t46 w1) E
noncomputable def C31_j7 : Code := cR (cR (cB (cB (cR (cL (cR (cR (cR (cR (cR (bodyOf Tryz.f31)))))))))))
theorem K31_j7 (g : Env) (w : World) (N : K11) (E : Ev) :
  vcF P Z0 Z0 C31_j7 (QC (fun a w => N (a 0) (a 1) (a 2) (a 3) (a 4) (a 11) (a 13) (a 14) (a 15) (a 16) (a 17) w) (fun _ _ => False) Y0 E) g w = S31_j7 (g 0) (g 1) (g 2) (g 3) (g 4) (g 11) (g 13) (g 14) (g 15) (g 16) (g 17) w N E := by kernel_rfl
theorem T31_j7 (hs : a.tmps.size = 176) (N : K11) (E : Ev) (hN : ∀ a' w', Ag (wr C31_j7) a a' → N (gt a' 0) (gt a' 1) (gt a' 2) (gt a' 3) (gt a' 4) (gt a' 11) (gt a' 13) (gt a' 14) (gt a' 15) (gt a' 16) (gt a' 17) w' → Q .normal a' w') (hE : HE Q E)
  (h : S31_j7 (gt a 0) (gt a 1) (gt a 2) (gt a 3) (gt a 4) (gt a 11) (gt a 13) (gt a 14) (gt a 15) (gt a 16) (gt a 17) w N E) : C31_j7.wpIn (Fw r) 0 P (Qs (wr C31_j7) a Q) a w :=
  piece' (HJ := Z0) (HL := Z0) hmix hs (by decide +kernel) (fun a w => N (a 0) (a 1) (a 2) (a 3) (a 4) (a 11) (a 13) (a 14) (a 15) (a 16) (a 17) w) (fun _ _ => False) Y0 E hN (fun _ _ _ h => h.elim)
  (fun _ _ _ _ h => h.elim) hE
  trivial (Eq.mpr (K31_j7 (gt a) w N E) h)
def S31_j11 (v0 v1 v2 v3 v4 v11 v13 v14 v16 v17 v18 : Value) (w : World) (N : K11) (E : Ev) : Prop :=
  X P (.conv 3 38 v17) 38 w (fun t52 w1 =>
  X P (.bin .add 38 false false v4 t52) 38 w1 (fun t53 w2 =>
  X P (.callF 26 #[v2, t53, v18]) 77 w2 (fun t55 w3 =>
  X P (.extract t55 0) 38 w3 (fun t56 w4 =>
  X P (.extract t55 1) 49 w4 (fun t57 w5 =>
  X P (.buildSlice 117 1 #[(0, t56)]) 117 w5 (fun t60 w6 =>
  X P (.callB .append #[117, 117] #[false, false] #[v16, t60]) 117 w6 (fun t61 w7 =>
  N v0 v1 v2 v3 v4 v11 v13 v14 t57 t61 v17 w7) E) E) E) E) E) E) E
noncomputable def C31_j11 : Code := cR (cR (cB (cL (cR (cB (cB (cR (cL (cR (cR (cR (cR (cR (bodyOf Tryz.f31))))))))))))))
theorem K31_j11 (g : Env) (w : World) (N : K11) (E : Ev) :
  vcF P Z0 Z0 C31_j11 (QC (fun a w => N (a 0) (a 1) (a 2) (a 3) (a 4) (a 11) (a 13) (a 14) (a 15) (a 16) (a 17) w) (fun _ _ => False) Y0 E) g w = S31_j11 (g 0) (g 1) (g 2) (g 3) (g 4) (g 11) (g 13) (g 14) (g 16) (g 17) (g 18) w N E := by kernel_rfl
theorem T31_j11 (hs : a.tmps.size = 176) (N : K11) (E : Ev) (hN : ∀ a' w', Ag (wr C31_j11) a a' → N (gt a' 0) (gt a' 1) (gt a' 2) (gt a' 3) (gt a' 4) (gt a' 11) (gt a' 13) (gt a' 14) (gt a' 15) (gt a' 16) (gt a' 17) w' → Q .normal a' w') (hE : HE Q E)
  (h : S31_j11 (gt a 0) (gt a 1) (gt a 2) (gt a 3) (gt a 4) (gt a 11) (gt a 13) (gt a 14) (gt a 16) (gt a 17) (gt a 18) w N E) : C31_j11.wpIn (Fw r) 0 P (Qs (wr C31_j11) a Q) a w :=
  piece' (HJ := Z0) (HL := Z0) hmix hs (by decide +kernel) (fun a w => N (a 0) (a 1) (a 2) (a 3) (a 4) (a 11) (a 13) (a 14) (a 15) (a 16) (a 17) w) (fun _ _ => False) Y0 E hN (fun _ _ _ h => h.elim)
  (fun _ _ _ _ h => h.elim) hE
  trivial (Eq.mpr (K31_j11 (gt a) w N E) h)
def S31_b6 (v0 v1 v2 v3 v4 v11 v13 v14 v15 v16 v17 : Value) (w : World) (N : K11) (X0 : K9) (E : Ev) : Prop :=
  X P (.bin .lss 3 false false v17 v13) 4 w (fun t40 w1 =>
  XG (some t40) true P (.val v15) 49 w1 (fun t42 w2 =>
  XG (some t40) true P (.bin .eql 49 false true t42 (.int .i64 0)) 4 w2 (fun t43 w3 =>
  X P (.pick t40 t43 (.bool false)) 4 w3 (fun t44 w4 =>
  Cnd t44 (
  Cnd v14 (
  S31_j11 v0 v1 v2 v3 v4 v11 v13 v14 v16 v17 (.int .u8 1) w4 (fun x0 x1 x2 x3 x4 x11 x13 x14 x15 x16 x17 y => S31_j7 x0 x1 x2 x3 x4 x11 x13 x14 x15 x16 x17 y N E) E) (
  S31_j11 v0 v1 v2 v3 v4 v11 v13 v14 v16 v17 (.int .u8 2) w4 (fun x0 x1 x2 x3 x4 x11 x13 x14 x15 x16 x17 y => S31_j7 x0 x1 x2 x3 x4 x11 x13 x14 x15 x16 x17 y N E) E)) (
  X0 v0 v1 v3 v4 v11 v13 v14 v15 v16 w4)) E) E) E) E
noncomputable def C31_b6 : Code := cB (cB (cR (cL (cR (cR (cR (cR (cR (bodyOf Tryz.f31)))))))))
noncomputable def HJ31_b6 (N : K11) (X0 : K9) (E : Ev) : Cut := fun i => match i with | some 7 => some (fun a w => S31_j7 (a 0) (a 1) (a 2) (a 3) (a 4) (a 11) (a 13) (a 14) (a 15) (a 16) (a 17) w N E) | some 11 => some (fun a w => S31_j11 (a 0) (a 1) (a 2) (a 3) (a 4) (a 11) (a 13) (a 14) (a 16) (a 17) (a 18) w (fun x0 x1 x2 x3 x4 x11 x13 x14 x15 x16 x17 y => S31_j7 x0 x1 x2 x3 x4 x11 x13 x14 x15 x16 x17 y N E) E) | _ => none
noncomputable def J31_b6 (N : K11) (X0 : K9) (E : Ev) : Nat → Env → World → Prop := fun i a w => match i with | 0 => X0 (a 0) (a 1) (a 3) (a 4) (a 11) (a 13) (a 14) (a 15) (a 16) w | _ => False
theorem K31_b6 (g : Env) (w : World) (N : K11) (X0 : K9) (E : Ev) :
  vcF P (HJ31_b6 N X0 E) Z0 C31_b6 (QC (fun a w => N (a 0) (a 1) (a 2) (a 3) (a 4) (a 11) (a 13) (a 14) (a 15) (a 16) (a 17) w) (fun _ _ => False) (J31_b6 N X0 E) E) g w = S31_b6 (g 0) (g 1) (g 2) (g 3) (g 4) (g 11) (g 13) (g 14) (g 15) (g 16) (g 17) w N X0 E := by kernel_rfl
theorem T31_b6 (hs : a.tmps.size = 176) (N : K11) (X0 : K9) (E : Ev) (hN : ∀ a' w', Ag (wr C31_b6) a a' → N (gt a' 0) (gt a' 1) (gt a' 2) (gt a' 3) (gt a' 4) (gt a' 11) (gt a' 13) (gt a' 14) (gt a' 15) (gt a' 16) (gt a' 17) w' → Q .normal a' w') (hX0 : ∀ a' w', Ag (wr C31_b6) a a' → X0 (gt a' 0) (gt a' 1) (gt a' 3) (gt a' 4) (gt a' 11) (gt a' 13) (gt a' 14) (gt a' 15) (gt a' 16) w' → Q (.exit 0) a' w') (hE : HE Q E)
  (h : S31_b6 (gt a 0) (gt a 1) (gt a 2) (gt a 3) (gt a 4) (gt a 11) (gt a 13) (gt a 14) (gt a 15) (gt a 16) (gt a 17) w N X0 E) : C31_b6.wpIn (Fw r) 0 P (Qs (wr C31_b6) a Q) a w :=
  piece' (HJ := HJ31_b6 N X0 E) (HL := Z0) hmix hs (by decide +kernel) (fun a w => N (a 0) (a 1) (a 2) (a 3) (a 4) (a 11) (a 13) (a 14) (a 15) (a 16) (a 17) w) (fun _ _ => False) (J31_b6 N X0 E) E hN (fun _ _ _ h => h.elim)
  (fun i a' w' hag h => by
  unfold J31_b6 at h
  split at h <;> first | exact hX0 _ _ hag h | exact h.elim) hE
  ⟨pay (c := C31_j11) (W := wr C31_b6) (h := fun a w => S31_j11 (a 0) (a 1) (a 2) (a 3) (a 4) (a 11) (a 13) (a 14) (a 16) (a 17) (a 18) w (fun x0 x1 x2 x3 x4 x11 x13 x14 x15 x16 x17 y => S31_j7 x0 x1 x2 x3 x4 x11 x13 x14 x15 x16 x17 y N E) E) (by decide +kernel) fun a w hsz h => T31_j11 a w (hsz.trans hs) (fun x0 x1 x2 x3 x4 x11 x13 x14 x15 x16 x17 y => S31_j7 x0 x1 x2 x3 x4 x11 x13 x14 x15 x16 x17 y N E) E (fun _ _ _ h => h) (fun _ _ _ h => h) h, pay (c := C31_j7) (W := wr C31_b6) (h := fun a w => S31_j7 (a 0) (a 1) (a 2) (a 3) (a 4) (a 11) (a 13) (a 14) (a 15) (a 16) (a 17) w N E) (by decide +kernel) fun a w hsz h => T31_j7 a w (hsz.trans hs) N E (fun _ _ _ h => h) (fun _ _ _ h => h) h, trivial⟩ (Eq.mpr (K31_b6 (gt a) w N X0 E) h)
def S31_l6 (v0 v1 v2 v3 v4 v11 v13 v14 v15 v16 v17 : Value) (w : World) (X0 : K9) (E : Ev) : Prop :=
  ∃ (I : K3) (μ : Value → Value → Value → World → Nat), I v15 v16 v17 w ∧ ∀ (v15 v16 v17 : Value) (w : World), I v15 v16 v17 w → S31_b6 v0 v1 v2 v3 v4 v11 v13 v14 v15 v16 v17 w (fun x0 x1 x2 x3 x4 x11 x13 x14 x15 x16 x17 y => I x15 x16 x17 y ∧ μ x15 x16 x17 y < μ v15 v16 v17 w) X0 E
theorem T31_l6 (hs : a.tmps.size = 176) (X0 : K9) (E : Ev) (hX0 : ∀ a' w', Ag (wr (Code.loop C31_b6)) a a' → X0 (gt a' 0) (gt a' 1) (gt a' 3) (gt a' 4) (gt a' 11) (gt a' 13) (gt a' 14) (gt a' 15) (gt a' 16) w' → Q (.exit 0) a' w') (hE : HE Q E)
  (h : S31_l6 (gt a 0) (gt a 1) (gt a 2) (gt a 3) (gt a 4) (gt a 11) (gt a 13) (gt a 14) (gt a 15) (gt a 16) (gt a 17) w X0 E) : (Code.loop C31_b6).wpIn (Fw r) 0 P (Qs (wr (Code.loop C31_b6)) a Q) a w := by
  obtain ⟨I, μ, h0, hr⟩ := h
  refine loop_piece (c := C31_b6) (fun a w => I (gt a 15) (gt a 16) (gt a 17) w) (fun a w => μ (gt a 15) (gt a 16) (gt a 17) w) h0 fun a' w' hag hI => ?_
  have h' := hr (gt a' 15) (gt a' 16) (gt a' 17) w' hI
  rw [← hag.get 0 (by decide +kernel)] at h'
  rw [← hag.get 1 (by decide +kernel)] at h'
  rw [← hag.get 2 (by decide +kernel)] at h'
  rw [← hag.get 3 (by decide +kernel)] at h'
  rw [← hag.get 4 (by decide +kernel)] at h'
  rw [← hag.get 11 (by decide +kernel)] at h'
  rw [← hag.get 13 (by decide +kernel)] at h'
  rw [← hag.get 14 (by decide +kernel)] at h'
  exact T31_b6 a' w' (hag.size.trans hs) (fun x0 x1 x2 x3 x4 x11 x13 x14 x15 x16 x17 y => I x15 x16 x17 y ∧ μ x15 x16 x17 y < μ (gt a' 15) (gt a' 16) (gt a' 17) w') X0 E (fun _ _ _ h => h) (fun a1 w1 hag1 h => hX0 a1 w1 (hag.trans hag1) h) hE h'
def S31_0 (v0 v1 v2 v3 v4 v5 : Value) (w : World) (R : K1) (E : Ev) : Prop :=
  X P (.box 40 v5) 0 w (fun t11 w1 =>
  X P (.fieldAddr 40 t11 4) 0 w1 (fun t30 w2 =>
  X P (.load 3 t30) 3 w2 (fun t31 w3 =>
  X P (.callF 9 #[t31, (.int .i64 17)]) 3 w3 (fun t32 w4 =>
  X P (.bin .mul 3 true false (.int .i64 4) t32) 3 w4 (fun t33 w5 =>
  X P (.fieldAddr 40 t11 0) 0 w5 (fun t34 w6 =>
  X P (.load 3 t34) 3 w6 (fun t35 w7 =>
  X P (.callF 9 #[t35, (.int .i64 8)]) 3 w7 (fun t36 w8 =>
  X P (.bin .eql 3 false true t36 (.int .i64 5)) 4 w8 (fun t37 w9 =>
  S31_l6 v0 v1 v2 v3 v4 t11 t33 t37 (.int .i64 0) (.slice none 0 0) (.int .i64 0) w9 (fun x0 x1 x3 x4 x11 x13 x14 x15 x16 y => S31_j14 x0 x1 x3 x4 x11 x13 x14 x15 x16 y R E) E) E) E) E) E) E) E) E) E) E
noncomputable def C31_0 : Code := bodyOf Tryz.f31
noncomputable def HJ31_0 (R : K1) (E : Ev) : Cut := fun i => match i with | some 14 => some (fun a w => S31_j14 (a 0) (a 1) (a 3) (a 4) (a 11) (a 13) (a 14) (a 15) (a 16) w R E) | _ => none
noncomputable def HL31_0 (R : K1) (E : Ev) : Cut := fun i => match i with | some 6 => some (fun a w => S31_l6 (a 0) (a 1) (a 2) (a 3) (a 4) (a 11) (a 13) (a 14) (a 15) (a 16) (a 17) w (fun x0 x1 x3 x4 x11 x13 x14 x15 x16 y => S31_j14 x0 x1 x3 x4 x11 x13 x14 x15 x16 y R E) E) | _ => none
theorem K31_0 (g : Env) (w : World) (R : K1) (E : Ev) :
  vcF P (HJ31_0 R E) (HL31_0 R E) C31_0 (QC (fun _ _ => False) (fun a w => resQ P Tryz.f31.results a w R) Y0 E) g w = S31_0 (g 0) (g 1) (g 2) (g 3) (g 4) (g 5) w R E := by kernel_rfl
theorem T31_0 (hs : a.tmps.size = 176) (R : K1) (E : Ev) (hR : ∀ a' w', Ag (wr C31_0) a a' → resQ P Tryz.f31.results (gt a') w' R → Q .ret a' w') (hE : HE Q E)
  (h : S31_0 (gt a 0) (gt a 1) (gt a 2) (gt a 3) (gt a 4) (gt a 5) w R E) : C31_0.wpIn (Fw r) 0 P (Qs (wr C31_0) a Q) a w :=
  piece' (HJ := HJ31_0 R E) (HL := HL31_0 R E) hmix hs (by decide +kernel) (fun _ _ => False) (fun a w => resQ P Tryz.f31.results a w R) Y0 E (fun _ _ _ h => h.elim) hR
  (fun _ _ _ _ h => h.elim) hE
  ⟨pay (c := Code.loop C31_b6) (W := wr C31_0) (h := fun a w => S31_l6 (a 0) (a 1) (a 2) (a 3) (a 4) (a 11) (a 13) (a 14) (a 15) (a 16) (a 17) w (fun x0 x1 x3 x4 x11 x13 x14 x15 x16 y => S31_j14 x0 x1 x3 x4 x11 x13 x14 x15 x16 y R E) E) (by decide +kernel) fun a w hsz h => T31_l6 a w (hsz.trans hs) (fun x0 x1 x3 x4 x11 x13 x14 x15 x16 y => S31_j14 x0 x1 x3 x4 x11 x13 x14 x15 x16 y R E) E (fun _ _ _ h => h) (fun _ _ _ h => h) h, pay (c := C31_j14) (W := wr C31_0) (h := fun a w => S31_j14 (a 0) (a 1) (a 3) (a 4) (a 11) (a 13) (a 14) (a 15) (a 16) w R E) (by decide +kernel) fun a w hsz h => T31_j14 a w (hsz.trans hs) R E (fun _ _ _ h => h) (fun _ _ _ h => h) h, trivial⟩ (Eq.mpr (K31_0 (gt a) w R E) h)
theorem F31 (a0 a1 a2 a3 a4 a5 : Value) (w : World) (R : K1) (E : Ev) (h : S31_0 a0 a1 a2 a3 a4 a5 w R E) : C P 31 #[a0, a1, a2, a3, a4, a5] w R E := by
  have e : S31_0 (gt (A0 Tryz.f31.ntmps #[a0, a1, a2, a3, a4, a5]) 0) (gt (A0 Tryz.f31.ntmps #[a0, a1, a2, a3, a4, a5]) 1) (gt (A0 Tryz.f31.ntmps #[a0, a1, a2, a3, a4, a5]) 2) (gt (A0 Tryz.f31.ntmps #[a0, a1, a2, a3, a4, a5]) 3) (gt (A0 Tryz.f31.ntmps #[a0, a1, a2, a3, a4, a5]) 4) (gt (A0 Tryz.f31.ntmps #[a0, a1, a2, a3, a4, a5]) 5) w R E = S31_0 a0 a1 a2 a3 a4 a5 w R E := by kernel_rfl
  have t := T31_0 (r := none) (Q := QF P Tryz.f31 R E) (A0 Tryz.f31.ntmps #[a0, a1, a2, a3, a4, a5]) w (by kernel_rfl) R E (fun _ _ _ h => h) (fun _ _ _ h => h) (Eq.mpr e h)
  exact C_of (c := C31_0) Tryz.func31 (by kernel_rfl) t
def S32_0 (v0 : Value) (w : World) (R : K1) (E : Ev) : Prop :=
  X P (.nilCheck v0) 0 w (fun t5 w1 =>
  X P (.fieldAddr 142 t5 1) 0 w1 (fun t6 w2 =>
  X P (.load 139 t6) 139 w2 (fun t7 w3 =>
  X P (.callB .len #[139] #[false] #[t7]) 3 w3 (fun t8 w4 =>
  X P (.nilCheck v0) 0 w4 (fun t10 w5 =>
  X P (.fieldAddr 142 t10 1) 0 w5 (fun t11 w6 =>
  X P (.load 139 t11) 139 w6 (fun t12 w7 =>
  X P (.callB .clear #[139] #[false] #[t12]) 0 w7 (fun _ w8 =>
  R t8 w8) E) E) E) E) E) E) E) E
noncomputable def C32_0 : Code := bodyOf Tryz.f32
theorem K32_0 (g : Env) (w : World) (R : K1) (E : Ev) :
  vcF P Z0 Z0 C32_0 (QC (fun _ _ => False) (fun a w => resQ P Tryz.f32.results a w R) Y0 E) g w = S32_0 (g 0) w R E := by kernel_rfl
theorem T32_0 (hs : a.tmps.size = 14) (R : K1) (E : Ev) (hR : ∀ a' w', Ag (wr C32_0) a a' → resQ P Tryz.f32.results (gt a') w' R → Q .ret a' w') (hE : HE Q E)
  (h : S32_0 (gt a 0) w R E) : C32_0.wpIn (Fw r) 0 P (Qs (wr C32_0) a Q) a w :=
  piece' (HJ := Z0) (HL := Z0) hmix hs (by decide +kernel) (fun _ _ => False) (fun a w => resQ P Tryz.f32.results a w R) Y0 E (fun _ _ _ h => h.elim) hR
  (fun _ _ _ _ h => h.elim) hE
  trivial (Eq.mpr (K32_0 (gt a) w R E) h)
theorem F32 (a0 : Value) (w : World) (R : K1) (E : Ev) (h : S32_0 a0 w R E) : C P 32 #[a0] w R E := by
  have e : S32_0 (gt (A0 Tryz.f32.ntmps #[a0]) 0) w R E = S32_0 a0 w R E := by kernel_rfl
  have t := T32_0 (r := none) (Q := QF P Tryz.f32 R E) (A0 Tryz.f32.ntmps #[a0]) w (by kernel_rfl) R E (fun _ _ _ h => h) (fun _ _ _ h => h) (Eq.mpr e h)
  exact C_of (c := C32_0) Tryz.func32 (by kernel_rfl) t
def S33_0 (v0 : Value) (w : World) (R : K1) (E : Ev) : Prop :=
  X P (.callF 64 #[v0]) 3 w (fun t5 w1 =>
  X P (.build 151 #[]) 151 w1 (fun t7 w2 =>
  X P (.nilCheck v0) 0 w2 (fun t8 w3 =>
  X P (.fieldAddr 153 t8 1) 0 w3 (fun t9 w4 =>
  X P (.store 151 t9 t7) 0 w4 (fun _ w5 =>
  X P (.nilCheck v0) 0 w5 (fun t11 w6 =>
  X P (.fieldAddr 153 t11 0) 0 w6 (fun t12 w7 =>
  X P (.fieldAddr 28 t12 0) 0 w7 (fun t13 w8 =>
  X P (.load 3 t13) 3 w8 (fun t14 w9 =>
  X P (.bin .mul 3 false true t14 (.int .i64 1)) 3 w9 (fun t15 w10 =>
  X P (.bin .mul 3 false true t5 (.int .i64 8)) 3 w10 (fun t17 w11 =>
  X P (.bin .add 3 false false t15 t17) 3 w11 (fun t18 w12 =>
  R (Value.tuple #[t18, t5]) w12) E) E) E) E) E) E) E) E) E) E) E) E
noncomputable def C33_0 : Code := bodyOf Tryz.f33
theorem K33_0 (g : Env) (w : World) (R : K1) (E : Ev) :
  vcF P Z0 Z0 C33_0 (QC (fun _ _ => False) (fun a w => resQ P Tryz.f33.results a w R) Y0 E) g w = S33_0 (g 0) w R E := by kernel_rfl
theorem T33_0 (hs : a.tmps.size = 20) (R : K1) (E : Ev) (hR : ∀ a' w', Ag (wr C33_0) a a' → resQ P Tryz.f33.results (gt a') w' R → Q .ret a' w') (hE : HE Q E)
  (h : S33_0 (gt a 0) w R E) : C33_0.wpIn (Fw r) 0 P (Qs (wr C33_0) a Q) a w :=
  piece' (HJ := Z0) (HL := Z0) hmix hs (by decide +kernel) (fun _ _ => False) (fun a w => resQ P Tryz.f33.results a w R) Y0 E (fun _ _ _ h => h.elim) hR
  (fun _ _ _ _ h => h.elim) hE
  trivial (Eq.mpr (K33_0 (gt a) w R E) h)
theorem F33 (a0 : Value) (w : World) (R : K1) (E : Ev) (h : S33_0 a0 w R E) : C P 33 #[a0] w R E := by
  have e : S33_0 (gt (A0 Tryz.f33.ntmps #[a0]) 0) w R E = S33_0 a0 w R E := by kernel_rfl
  have t := T33_0 (r := none) (Q := QF P Tryz.f33 R E) (A0 Tryz.f33.ntmps #[a0]) w (by kernel_rfl) R E (fun _ _ _ h => h) (fun _ _ _ h => h) (Eq.mpr e h)
  exact C_of (c := C33_0) Tryz.func33 (by kernel_rfl) t
def S34_0 (v0 v1 v2 v3 v4 : Value) (w : World) (R : K1) (E : Ev) : Prop :=
  X P (.box 44 v0) 0 w (fun t5 w1 =>
  X P (.box 3 v3) 0 w1 (fun t8 w2 =>
  X P (.alloc 38) 0 w2 (fun t10 w3 =>
  X P (.load 44 t5) 44 w3 (fun t14 w4 =>
  X P (.load 3 t8) 3 w4 (fun t17 w5 =>
  X P (.mkFunc (Fn.func 65) #[] #[t5, t8, t10]) 95 w5 (fun t19 w6 =>
  X P (.callF 39 #[t14, v1, v2, t17, v4, t19]) 63 w6 (fun t20 w7 =>
  X P (.extract t20 0) 3 w7 (fun t21 w8 =>
  X P (.extract t20 1) 49 w8 (fun t22 w9 =>
  X P (.load 38 t10) 38 w9 (fun t23 w10 =>
  X P (.store 38 t10 t23) 0 w10 (fun _ w11 =>
  XRes P [(t10, some 38), (t21, none), (t22, none)] w11 R) E) E) E) E) E) E) E) E) E) E) E
noncomputable def C34_0 : Code := bodyOf Tryz.f34
theorem K34_0 (g : Env) (w : World) (R : K1) (E : Ev) :
  vcF P Z0 Z0 C34_0 (QC (fun _ _ => False) (fun a w => resQ P Tryz.f34.results a w R) Y0 E) g w = S34_0 (g 0) (g 1) (g 2) (g 3) (g 4) w R E := by kernel_rfl
theorem T34_0 (hs : a.tmps.size = 26) (R : K1) (E : Ev) (hR : ∀ a' w', Ag (wr C34_0) a a' → resQ P Tryz.f34.results (gt a') w' R → Q .ret a' w') (hE : HE Q E)
  (h : S34_0 (gt a 0) (gt a 1) (gt a 2) (gt a 3) (gt a 4) w R E) : C34_0.wpIn (Fw r) 0 P (Qs (wr C34_0) a Q) a w :=
  piece' (HJ := Z0) (HL := Z0) hmix hs (by decide +kernel) (fun _ _ => False) (fun a w => resQ P Tryz.f34.results a w R) Y0 E (fun _ _ _ h => h.elim) hR
  (fun _ _ _ _ h => h.elim) hE
  trivial (Eq.mpr (K34_0 (gt a) w R E) h)
theorem F34 (a0 a1 a2 a3 a4 : Value) (w : World) (R : K1) (E : Ev) (h : S34_0 a0 a1 a2 a3 a4 w R E) : C P 34 #[a0, a1, a2, a3, a4] w R E := by
  have e : S34_0 (gt (A0 Tryz.f34.ntmps #[a0, a1, a2, a3, a4]) 0) (gt (A0 Tryz.f34.ntmps #[a0, a1, a2, a3, a4]) 1) (gt (A0 Tryz.f34.ntmps #[a0, a1, a2, a3, a4]) 2) (gt (A0 Tryz.f34.ntmps #[a0, a1, a2, a3, a4]) 3) (gt (A0 Tryz.f34.ntmps #[a0, a1, a2, a3, a4]) 4) w R E = S34_0 a0 a1 a2 a3 a4 w R E := by kernel_rfl
  have t := T34_0 (r := none) (Q := QF P Tryz.f34 R E) (A0 Tryz.f34.ntmps #[a0, a1, a2, a3, a4]) w (by kernel_rfl) R E (fun _ _ _ h => h) (fun _ _ _ h => h) (Eq.mpr e h)
  exact C_of (c := C34_0) Tryz.func34 (by kernel_rfl) t
def S35_0 (v0 v1 v2 : Value) (w : World) (R : K1) (E : Ev) : Prop :=
  X P (.nilCheck v0) 0 w (fun t9 w1 =>
  X P (.fieldAddr 157 t9 0) 0 w1 (fun t10 w2 =>
  X P (.load 3 t10) 3 w2 (fun t11 w3 =>
  X P (.bin .mul 3 false true t11 (.int .i64 4096)) 3 w3 (fun t12 w4 =>
  X P (.bin .lss 3 false true v2 (.int .i64 0)) 4 w4 (fun t15 w5 =>
  Cnd t15 (
  R (.int .i64 20) w5) (
  X P (.bin .gtr 3 false false v2 t12) 4 w5 (fun t19 w6 =>
  XG (some t19) false P (.val v1) 38 w6 (fun t21 w7 =>
  XG (some t19) false P (.conv 38 3 t21) 3 w7 (fun t22 w8 =>
  XG (some t19) false P (.val t12) 3 w8 (fun t23 w9 =>
  XG (some t19) false P (.val v2) 3 w9 (fun t24 w10 =>
  XG (some t19) false P (.bin .sub 3 false false t23 t24) 3 w10 (fun t25 w11 =>
  XG (some t19) false P (.bin .gtr 3 false false t22 t25) 4 w11 (fun t26 w12 =>
  X P (.pick t19 (.bool true) t26) 4 w12 (fun t27 w13 =>
  Cnd t27 (
  R (.int .i64 22) w13) (
  R (.int .i64 0) w13)) E) E) E) E) E) E) E) E)) E) E) E) E) E
noncomputable def C35_0 : Code := bodyOf Tryz.f35
theorem K35_0 (g : Env) (w : World) (R : K1) (E : Ev) :
  vcF P Z0 Z0 C35_0 (QC (fun _ _ => False) (fun a w => resQ P Tryz.f35.results a w R) Y0 E) g w = S35_0 (g 0) (g 1) (g 2) w R E := by kernel_rfl
theorem T35_0 (hs : a.tmps.size = 28) (R : K1) (E : Ev) (hR : ∀ a' w', Ag (wr C35_0) a a' → resQ P Tryz.f35.results (gt a') w' R → Q .ret a' w') (hE : HE Q E)
  (h : S35_0 (gt a 0) (gt a 1) (gt a 2) w R E) : C35_0.wpIn (Fw r) 0 P (Qs (wr C35_0) a Q) a w :=
  piece' (HJ := Z0) (HL := Z0) hmix hs (by decide +kernel) (fun _ _ => False) (fun a w => resQ P Tryz.f35.results a w R) Y0 E (fun _ _ _ h => h.elim) hR
  (fun _ _ _ _ h => h.elim) hE
  trivial (Eq.mpr (K35_0 (gt a) w R E) h)
theorem F35 (a0 a1 a2 : Value) (w : World) (R : K1) (E : Ev) (h : S35_0 a0 a1 a2 w R E) : C P 35 #[a0, a1, a2] w R E := by
  have e : S35_0 (gt (A0 Tryz.f35.ntmps #[a0, a1, a2]) 0) (gt (A0 Tryz.f35.ntmps #[a0, a1, a2]) 1) (gt (A0 Tryz.f35.ntmps #[a0, a1, a2]) 2) w R E = S35_0 a0 a1 a2 w R E := by kernel_rfl
  have t := T35_0 (r := none) (Q := QF P Tryz.f35 R E) (A0 Tryz.f35.ntmps #[a0, a1, a2]) w (by kernel_rfl) R E (fun _ _ _ h => h) (fun _ _ _ h => h) (Eq.mpr e h)
  exact C_of (c := C35_0) Tryz.func35 (by kernel_rfl) t
def S36_0 (v0 v1 v2 : Value) (w : World) (R : K1) (E : Ev) : Prop :=
  X P (.box 41 v0) 0 w (fun t3 w1 =>
  X P (.makeSlice 34 v2 v2) 34 w1 (fun t9 w2 =>
  X P (.alloc 34) 0 w2 (fun t7 w3 =>
  X P (.store 34 t7 t9) 0 w3 (fun _ w4 =>
  X P (.mkFunc (Fn.func 68) #[] #[t3, t7]) 160 w4 (fun t12 w5 =>
  X P (.callF 67 #[v1, v2, t12]) 0 w5 (fun t13 w6 =>
  X P (.load 34 t7) 34 w6 (fun t14 w7 =>
  R t14 w7) E) E) E) E) E) E) E
noncomputable def C36_0 : Code := bodyOf Tryz.f36
theorem K36_0 (g : Env) (w : World) (R : K1) (E : Ev) :
  vcF P Z0 Z0 C36_0 (QC (fun _ _ => False) (fun a w => resQ P Tryz.f36.results a w R) Y0 E) g w = S36_0 (g 0) (g 1) (g 2) w R E := by kernel_rfl
theorem T36_0 (hs : a.tmps.size = 15) (R : K1) (E : Ev) (hR : ∀ a' w', Ag (wr C36_0) a a' → resQ P Tryz.f36.results (gt a') w' R → Q .ret a' w') (hE : HE Q E)
  (h : S36_0 (gt a 0) (gt a 1) (gt a 2) w R E) : C36_0.wpIn (Fw r) 0 P (Qs (wr C36_0) a Q) a w :=
  piece' (HJ := Z0) (HL := Z0) hmix hs (by decide +kernel) (fun _ _ => False) (fun a w => resQ P Tryz.f36.results a w R) Y0 E (fun _ _ _ h => h.elim) hR
  (fun _ _ _ _ h => h.elim) hE
  trivial (Eq.mpr (K36_0 (gt a) w R E) h)
theorem F36 (a0 a1 a2 : Value) (w : World) (R : K1) (E : Ev) (h : S36_0 a0 a1 a2 w R E) : C P 36 #[a0, a1, a2] w R E := by
  have e : S36_0 (gt (A0 Tryz.f36.ntmps #[a0, a1, a2]) 0) (gt (A0 Tryz.f36.ntmps #[a0, a1, a2]) 1) (gt (A0 Tryz.f36.ntmps #[a0, a1, a2]) 2) w R E = S36_0 a0 a1 a2 w R E := by kernel_rfl
  have t := T36_0 (r := none) (Q := QF P Tryz.f36 R E) (A0 Tryz.f36.ntmps #[a0, a1, a2]) w (by kernel_rfl) R E (fun _ _ _ h => h) (fun _ _ _ h => h) (Eq.mpr e h)
  exact C_of (c := C36_0) Tryz.func36 (by kernel_rfl) t
def S37_0 (v0 v1 v2 : Value) (w : World) (R : K1) (E : Ev) : Prop :=
  X P (.bin .neq 3 false true v2 (.int .i64 1)) 4 w (fun t9 w1 =>
  XG (some t9) true P (.val v2) 3 w1 (fun t11 w2 =>
  XG (some t9) true P (.bin .neq 3 false true t11 (.int .i64 2)) 4 w2 (fun t12 w3 =>
  X P (.pick t9 t12 (.bool false)) 4 w3 (fun t13 w4 =>
  XG (some t13) true P (.val v2) 3 w4 (fun t15 w5 =>
  XG (some t13) true P (.bin .neq 3 false true t15 (.int .i64 4)) 4 w5 (fun t16 w6 =>
  X P (.pick t13 t16 (.bool false)) 4 w6 (fun t17 w7 =>
  Cnd t17 (
  R (.int .i64 20) w7) (
  X P (.conv 3 38 v2) 38 w7 (fun t21 w8 =>
  X P (.bin .rem 38 false false v1 t21) 38 w8 (fun t22 w9 =>
  X P (.bin .neq 38 false true t22 (.int .u32 0)) 4 w9 (fun t23 w10 =>
  Cnd t23 (
  R (.int .i64 21) w10) (
  X P (.callF 35 #[v0, v1, v2]) 53 w10 (fun t27 w11 =>
  R t27 w11) E)) E) E) E)) E) E) E) E) E) E) E
noncomputable def C37_0 : Code := bodyOf Tryz.f37
theorem K37_0 (g : Env) (w : World) (R : K1) (E : Ev) :
  vcF P Z0 Z0 C37_0 (QC (fun _ _ => False) (fun a w => resQ P Tryz.f37.results a w R) Y0 E) g w = S37_0 (g 0) (g 1) (g 2) w R E := by kernel_rfl
theorem T37_0 (hs : a.tmps.size = 28) (R : K1) (E : Ev) (hR : ∀ a' w', Ag (wr C37_0) a a' → resQ P Tryz.f37.results (gt a') w' R → Q .ret a' w') (hE : HE Q E)
  (h : S37_0 (gt a 0) (gt a 1) (gt a 2) w R E) : C37_0.wpIn (Fw r) 0 P (Qs (wr C37_0) a Q) a w :=
  piece' (HJ := Z0) (HL := Z0) hmix hs (by decide +kernel) (fun _ _ => False) (fun a w => resQ P Tryz.f37.results a w R) Y0 E (fun _ _ _ h => h.elim) hR
  (fun _ _ _ _ h => h.elim) hE
  trivial (Eq.mpr (K37_0 (gt a) w R E) h)
theorem F37 (a0 a1 a2 : Value) (w : World) (R : K1) (E : Ev) (h : S37_0 a0 a1 a2 w R E) : C P 37 #[a0, a1, a2] w R E := by
  have e : S37_0 (gt (A0 Tryz.f37.ntmps #[a0, a1, a2]) 0) (gt (A0 Tryz.f37.ntmps #[a0, a1, a2]) 1) (gt (A0 Tryz.f37.ntmps #[a0, a1, a2]) 2) w R E = S37_0 a0 a1 a2 w R E := by kernel_rfl
  have t := T37_0 (r := none) (Q := QF P Tryz.f37 R E) (A0 Tryz.f37.ntmps #[a0, a1, a2]) w (by kernel_rfl) R E (fun _ _ _ h => h) (fun _ _ _ h => h) (Eq.mpr e h)
  exact C_of (c := C37_0) Tryz.func37 (by kernel_rfl) t
def S38_0 (v0 v1 v2 : Value) (w : World) (R : K1) (E : Ev) : Prop :=
  X P (.box 41 v0) 0 w (fun t3 w1 =>
  X P (.box 34 v2) 0 w1 (fun t5 w2 =>
  X P (.load 34 t5) 34 w2 (fun t7 w3 =>
  X P (.callB .len #[34] #[false] #[t7]) 3 w3 (fun t8 w4 =>
  X P (.mkFunc (Fn.func 69) #[] #[t3, t5]) 160 w4 (fun t9 w5 =>
  X P (.callF 67 #[v1, t8, t9]) 0 w5 (fun t10 w6 =>
  R (Value.tuple #[]) w6) E) E) E) E) E) E
noncomputable def C38_0 : Code := bodyOf Tryz.f38
theorem K38_0 (g : Env) (w : World) (R : K1) (E : Ev) :
  vcF P Z0 Z0 C38_0 (QC (fun a w => resQ P Tryz.f38.results a w R) (fun a w => resQ P Tryz.f38.results a w R) Y0 E) g w = S38_0 (g 0) (g 1) (g 2) w R E := by kernel_rfl
theorem T38_0 (hs : a.tmps.size = 11) (R : K1) (E : Ev) (hN : ∀ a' w', Ag (wr C38_0) a a' → resQ P Tryz.f38.results (gt a') w' R → Q .normal a' w') (hR : ∀ a' w', Ag (wr C38_0) a a' → resQ P Tryz.f38.results (gt a') w' R → Q .ret a' w') (hE : HE Q E)
  (h : S38_0 (gt a 0) (gt a 1) (gt a 2) w R E) : C38_0.wpIn (Fw r) 0 P (Qs (wr C38_0) a Q) a w :=
  piece' (HJ := Z0) (HL := Z0) hmix hs (by decide +kernel) (fun a w => resQ P Tryz.f38.results a w R) (fun a w => resQ P Tryz.f38.results a w R) Y0 E hN hR
  (fun _ _ _ _ h => h.elim) hE
  trivial (Eq.mpr (K38_0 (gt a) w R E) h)
theorem F38 (a0 a1 a2 : Value) (w : World) (R : K1) (E : Ev) (h : S38_0 a0 a1 a2 w R E) : C P 38 #[a0, a1, a2] w R E := by
  have e : S38_0 (gt (A0 Tryz.f38.ntmps #[a0, a1, a2]) 0) (gt (A0 Tryz.f38.ntmps #[a0, a1, a2]) 1) (gt (A0 Tryz.f38.ntmps #[a0, a1, a2]) 2) w R E = S38_0 a0 a1 a2 w R E := by kernel_rfl
  have t := T38_0 (r := none) (Q := QF P Tryz.f38 R E) (A0 Tryz.f38.ntmps #[a0, a1, a2]) w (by kernel_rfl) R E (fun _ _ _ h => h) (fun _ _ _ h => h) (fun _ _ _ h => h) (Eq.mpr e h)
  exact C_of (c := C38_0) Tryz.func38 (by kernel_rfl) t
def S39_0 (v0 v1 v2 v3 v4 v5 : Value) (w : World) (R : K1) (E : Ev) : Prop :=
  X P (.callF 70 #[v2, v3]) 4 w (fun t19 w1 =>
  X P (.un .not t19) 4 w1 (fun t20 w2 =>
  Cnd t20 (
  R (Value.tuple #[(.int .i64 0), (.int .i64 1)]) w2) (
  X P (.callF 71 #[v0, v1, v2, v4]) 50 w2 (fun t26 w3 =>
  X P (.extract t26 0) 38 w3 (fun t27 w4 =>
  X P (.extract t26 1) 3 w4 (fun t28 w5 =>
  X P (.extract t26 2) 49 w5 (fun t29 w6 =>
  X P (.bin .neq 49 false true t29 (.int .i64 0)) 4 w6 (fun t31 w7 =>
  Cnd t31 (
  R (Value.tuple #[t28, t29]) w7) (
  X P (.nilCheck v0) 0 w7 (fun t36 w8 =>
  X P (.fieldAddr 85 t36 1) 0 w8 (fun t37 w9 =>
  X P (.load 42 t37) 42 w9 (fun t38 w10 =>
  X P (.bin .eql 89 false true v4 (.int .i64 2)) 4 w10 (fun t41 w11 =>
  X P (.callF 72 #[t38, t27, t41]) 166 w11 (fun t42 w12 =>
  X P (.field 166 t42 2) 3 w12 (fun t43 w13 =>
  X P (.bin .add 3 false false t28 t43) 3 w13 (fun t44 w14 =>
  X P (.callV v5 #[t27]) 0 w14 (fun t47 w15 =>
  R (Value.tuple #[t44, (.int .i64 0)]) w15) E) E) E) E) E) E) E) E)) E) E) E) E) E)) E) E
noncomputable def C39_0 : Code := bodyOf Tryz.f39
theorem K39_0 (g : Env) (w : World) (R : K1) (E : Ev) :
  vcF P Z0 Z0 C39_0 (QC (fun _ _ => False) (fun a w => resQ P Tryz.f39.results a w R) Y0 E) g w = S39_0 (g 0) (g 1) (g 2) (g 3) (g 4) (g 5) w R E := by kernel_rfl
theorem T39_0 (hs : a.tmps.size = 49) (R : K1) (E : Ev) (hR : ∀ a' w', Ag (wr C39_0) a a' → resQ P Tryz.f39.results (gt a') w' R → Q .ret a' w') (hE : HE Q E)
  (h : S39_0 (gt a 0) (gt a 1) (gt a 2) (gt a 3) (gt a 4) (gt a 5) w R E) : C39_0.wpIn (Fw r) 0 P (Qs (wr C39_0) a Q) a w :=
  piece' (HJ := Z0) (HL := Z0) hmix hs (by decide +kernel) (fun _ _ => False) (fun a w => resQ P Tryz.f39.results a w R) Y0 E (fun _ _ _ h => h.elim) hR
  (fun _ _ _ _ h => h.elim) hE
  trivial (Eq.mpr (K39_0 (gt a) w R E) h)
theorem F39 (a0 a1 a2 a3 a4 a5 : Value) (w : World) (R : K1) (E : Ev) (h : S39_0 a0 a1 a2 a3 a4 a5 w R E) : C P 39 #[a0, a1, a2, a3, a4, a5] w R E := by
  have e : S39_0 (gt (A0 Tryz.f39.ntmps #[a0, a1, a2, a3, a4, a5]) 0) (gt (A0 Tryz.f39.ntmps #[a0, a1, a2, a3, a4, a5]) 1) (gt (A0 Tryz.f39.ntmps #[a0, a1, a2, a3, a4, a5]) 2) (gt (A0 Tryz.f39.ntmps #[a0, a1, a2, a3, a4, a5]) 3) (gt (A0 Tryz.f39.ntmps #[a0, a1, a2, a3, a4, a5]) 4) (gt (A0 Tryz.f39.ntmps #[a0, a1, a2, a3, a4, a5]) 5) w R E = S39_0 a0 a1 a2 a3 a4 a5 w R E := by kernel_rfl
  have t := T39_0 (r := none) (Q := QF P Tryz.f39 R E) (A0 Tryz.f39.ntmps #[a0, a1, a2, a3, a4, a5]) w (by kernel_rfl) R E (fun _ _ _ h => h) (fun _ _ _ h => h) (Eq.mpr e h)
  exact C_of (c := C39_0) Tryz.func39 (by kernel_rfl) t
def S40_0 (v0 v1 v2 v3 : Value) (w : World) (R : K1) (E : Ev) : Prop :=
  XQ P (.load 44 v1) 44 (drw w) (fun t5 =>
  XQ P (.nilCheck t5) 0 (drw w) (fun t6 =>
  XQ P (.fieldAddr 85 t6 0) 0 (drw w) (fun t7 =>
  XQ P (.load 41 t7) 41 (drw w) (fun t8 =>
  XQ P (.load 3 v2) 3 (drw w) (fun t10 =>
  XQ P (.load 38 v3) 38 (drw w) (fun t11 =>
  (X P (.callF 16 #[t8, v0, t10, t11]) 53 (drw w) (fun t12 w1 =>
  R (Value.tuple #[]) w1) E)))))))
noncomputable def C40_0 : Code := bodyOf Tryz.f40
theorem K40_0 (g : Env) (w : World) (R : K1) (E : Ev) :
  vcF P Z0 Z0 C40_0 (QC (fun a w => resQ P Tryz.f40.results a w R) (fun a w => resQ P Tryz.f40.results a w R) Y0 E) g w = S40_0 (g 0) (g 1) (g 2) (g 3) w R E := by kernel_rfl
theorem T40_0 (hs : a.tmps.size = 13) (R : K1) (E : Ev) (hN : ∀ a' w', Ag (wr C40_0) a a' → resQ P Tryz.f40.results (gt a') w' R → Q .normal a' w') (hR : ∀ a' w', Ag (wr C40_0) a a' → resQ P Tryz.f40.results (gt a') w' R → Q .ret a' w') (hE : HE Q E)
  (h : S40_0 (gt a 0) (gt a 1) (gt a 2) (gt a 3) w R E) : C40_0.wpIn (Fw r) 0 P (Qs (wr C40_0) a Q) a w :=
  piece' (HJ := Z0) (HL := Z0) hmix hs (by decide +kernel) (fun a w => resQ P Tryz.f40.results a w R) (fun a w => resQ P Tryz.f40.results a w R) Y0 E hN hR
  (fun _ _ _ _ h => h.elim) hE
  trivial (Eq.mpr (K40_0 (gt a) w R E) h)
theorem F40 (a0 a1 a2 a3 : Value) (w : World) (R : K1) (E : Ev) (h : S40_0 a0 a1 a2 a3 w R E) : C P 40 #[a0, a1, a2, a3] w R E := by
  have e : S40_0 (gt (A0 Tryz.f40.ntmps #[a0, a1, a2, a3]) 0) (gt (A0 Tryz.f40.ntmps #[a0, a1, a2, a3]) 1) (gt (A0 Tryz.f40.ntmps #[a0, a1, a2, a3]) 2) (gt (A0 Tryz.f40.ntmps #[a0, a1, a2, a3]) 3) w R E = S40_0 a0 a1 a2 a3 w R E := by kernel_rfl
  have t := T40_0 (r := none) (Q := QF P Tryz.f40 R E) (A0 Tryz.f40.ntmps #[a0, a1, a2, a3]) w (by kernel_rfl) R E (fun _ _ _ h => h) (fun _ _ _ h => h) (fun _ _ _ h => h) (Eq.mpr e h)
  exact C_of (c := C40_0) Tryz.func40 (by kernel_rfl) t
end Go.Eng
