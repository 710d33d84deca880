/- A part (4 of 6) of the proof that the law of MMUSees answers true for every input and that each argument reads afterwards as before. Conditions: those of the card alone (the two tables of math/bits read as the program text lays them). -/
import Derived.Test.YtcjcbgeogaighaaGreatDoorP3
import Derived.RangeFuncLeaves
import Derived.RangeFuncRecord
set_option linter.all false
namespace Go.Eng
open Go.Proofs
variable {r : Option Nat} {Q : Qx} (a : Act) (w : World)
set_option maxRecDepth 100000
def S3_j20 (v5 v17 v18 v22 : Value) (w : World) (N : K4) (E : Ev) : Prop :=
  X P (.bin .add 3 false true v22 (.int .i64 1)) 3 w (fun t107 w1 =>
  N v5 v17 v18 t107 w1) E
noncomputable def HJ3_b19 (N : K4) (X2 : K0) (R : K1) (E : Ev) : Cut := fun i => match i with | some 20 => some (fun a w => S3_j20 (a 5) (a 17) (a 18) (a 22) w N E) | _ => none
noncomputable def J3_b11 (N : K7) (X0 : K3) (R : K1) (E : Ev) : Nat → Env → World → Prop := fun i a w => match i with | 0 => X0 (a 5) (a 17) (a 18) w | _ => False
def S4_j14 (v13 v14 v15 v16 : Value) (w : World) (R : K1) (E : Ev) : Prop :=
  X P (.nilCheck v13) 0 w (fun t73 w1 =>
  X P (.fieldAddr 46 t73 0) 0 w1 (fun t74 w2 =>
  X P (.load 41 t74) 41 w2 (fun t75 w3 =>
  X P (.callF 15 #[t75, (.int .u32 0), (.int .i64 131072)]) 54 w3 (fun t76 w4 =>
  X P (.extract t76 0) 34 w4 (fun t77 w5 =>
  X P (.extract t76 1) 53 w5 (fun t78 w6 =>
  X P (.nilCheck v13) 0 w6 (fun t81 w7 =>
  X P (.fieldAddr 46 t81 0) 0 w7 (fun t82 w8 =>
  X P (.load 41 t82) 41 w8 (fun t83 w9 =>
  X P (.callF 15 #[t83, (.int .u32 131072), (.int .i64 131072)]) 54 w9 (fun t84 w10 =>
  X P (.extract t84 0) 34 w10 (fun t85 w11 =>
  X P (.extract t84 1) 53 w11 (fun t86 w12 =>
  XQ P (.bin .eql 53 false true v15 (.int .i64 0)) 4 (drw w12) (fun t88 =>
  XQG (some t88) true P (.val t78) 53 (drw w12) (fun t90 =>
  XQG (some t88) true P (.bin .eql 53 false true t90 (.int .i64 0)) 4 (drw w12) (fun t91 =>
  XQ P (.pick t88 t91 (.bool false)) 4 (drw w12) (fun t92 =>
  XQG (some t92) true P (.val t86) 53 (drw w12) (fun t94 =>
  XQG (some t92) true P (.bin .eql 53 false true t94 (.int .i64 0)) 4 (drw w12) (fun t95 =>
  XQ P (.pick t92 t95 (.bool false)) 4 (drw w12) (fun t96 =>
  XQG (some t96) true P (.val t77) 34 (drw w12) (fun t98 =>
  XQG (some t96) true P (.conv 34 9 t98) 9 (drw w12) (fun t99 =>
  XQG (some t96) true P (.val v16) 33 (drw w12) (fun t100 =>
  XQG (some t96) true P (.nilCheck t100) 0 (drw w12) (fun t101 =>
  XQG (some t96) true P (.fieldAddr 36 t101 0) 0 (drw w12) (fun t102 =>
  XQG (some t96) true P (.load 34 t102) 34 (drw w12) (fun t103 =>
  XQG (some t96) true P (.conv 34 9 t103) 9 (drw w12) (fun t104 =>
  XQG (some t96) true P (.bin .eql 9 false false t99 t104) 4 (drw w12) (fun t105 =>
  XQ P (.pick t96 t105 (.bool false)) 4 (drw w12) (fun t106 =>
  XQG (some t106) true P (.val v14) 34 (drw w12) (fun t108 =>
  XQG (some t106) true P (.conv 34 9 t108) 9 (drw w12) (fun t109 =>
  XQG (some t106) true P (.val t85) 34 (drw w12) (fun t110 =>
  XQG (some t106) true P (.conv 34 9 t110) 9 (drw w12) (fun t111 =>
  XQG (some t106) true P (.bin .eql 9 false false t109 t111) 4 (drw w12) (fun t112 =>
  XQ P (.pick t106 t112 (.bool false)) 4 (drw w12) (fun t113 =>
  R t113 (drw w12)))))))))))))))))))))))) E) E) E) E) E) E) E) E) E) E) E) E
noncomputable def C4_j14 : Code := cR (cR (cR (cR (cR (cR (cR (cR (bodyOf Tryz.f4))))))))
theorem K4_j14 (g : Env) (w : World) (R : K1) (E : Ev) :
  vcF P Z0 Z0 C4_j14 (QC (fun _ _ => False) (fun a w => resQ P Tryz.f4.results a w R) Y0 E) g w = S4_j14 (g 13) (g 14) (g 15) (g 16) w R E := by kernel_rfl
theorem T4_j14 (hs : a.tmps.size = 114) (R : K1) (E : Ev) (hR : ∀ a' w', Ag (wr C4_j14) a a' → resQ P Tryz.f4.results (gt a') w' R → Q .ret a' w') (hE : HE Q E)
  (h : S4_j14 (gt a 13) (gt a 14) (gt a 15) (gt a 16) w R E) : C4_j14.wpIn (Fw r) 0 P (Qs (wr C4_j14) a Q) a w :=
  piece' (HJ := Z0) (HL := Z0) hmix hs (by decide +kernel) (fun _ _ => False) (fun a w => resQ P Tryz.f4.results a w R) Y0 E (fun _ _ _ h => h.elim) hR
  (fun _ _ _ _ h => h.elim) hE
  trivial (Eq.mpr (K4_j14 (gt a) w R E) h)
def S4_b9 (v4 v12 v13 v14 v15 v16 v17 : Value) (w : World) (N : K7) (X0 : K4) (R : K1) (E : Ev) : Prop :=
  X P (.callB .len #[23] #[false] #[v4]) 3 w (fun t53 w1 =>
  X P (.bin .lss 3 false false v17 t53) 4 w1 (fun t54 w2 =>
  XG (some t54) true P (.val v17) 3 w2 (fun t56 w3 =>
  XG (some t54) true P (.bin .lss 3 false true t56 (.int .i64 150)) 4 w3 (fun t57 w4 =>
  X P (.pick t54 t57 (.bool false)) 4 w4 (fun t58 w5 =>
  Cnd t58 (
  X P (.indexAddr 23 v4 v17) 0 w5 (fun t66 w6 =>
  X P (.load 40 t66) 40 w6 (fun t67 w7 =>
  X P (.callF 11 #[v13, v16, v12, t67]) 4 w7 (fun t68 w8 =>
  X P (.un .not t68) 4 w8 (fun t70 w9 =>
  Cnd t70 (
  R (.bool false) w9) (
  X P (.bin .add 3 false true v17 (.int .i64 1)) 3 w9 (fun t60 w10 =>
  N v4 v12 v13 v14 v15 v16 t60 w10) E)) E) E) E) E) (
  X0 v13 v14 v15 v16 w5)) E) E) E) E) E
noncomputable def C4_b9 : Code := cB (cB (cR (cL (cR (cR (cR (cR (cR (cR (cR (bodyOf Tryz.f4)))))))))))
noncomputable def J4_b9 (N : K7) (X0 : K4) (R : K1) (E : Ev) : Nat → Env → World → Prop := fun i a w => match i with | 0 => X0 (a 13) (a 14) (a 15) (a 16) w | _ => False
theorem K4_b9 (g : Env) (w : World) (N : K7) (X0 : K4) (R : K1) (E : Ev) :
  vcF P Z0 Z0 C4_b9 (QC (fun a w => N (a 4) (a 12) (a 13) (a 14) (a 15) (a 16) (a 17) w) (fun a w => resQ P Tryz.f4.results a w R) (J4_b9 N X0 R E) E) g w = S4_b9 (g 4) (g 12) (g 13) (g 14) (g 15) (g 16) (g 17) w N X0 R E := by kernel_rfl
theorem T4_b9 (hs : a.tmps.size = 114) (N : K7) (X0 : K4) (R : K1) (E : Ev) (hN : ∀ a' w', Ag (wr C4_b9) a a' → N (gt a' 4) (gt a' 12) (gt a' 13) (gt a' 14) (gt a' 15) (gt a' 16) (gt a' 17) w' → Q .normal a' w') (hX0 : ∀ a' w', Ag (wr C4_b9) a a' → X0 (gt a' 13) (gt a' 14) (gt a' 15) (gt a' 16) w' → Q (.exit 0) a' w') (hR : ∀ a' w', Ag (wr C4_b9) a a' → resQ P Tryz.f4.results (gt a') w' R → Q .ret a' w') (hE : HE Q E)
  (h : S4_b9 (gt a 4) (gt a 12) (gt a 13) (gt a 14) (gt a 15) (gt a 16) (gt a 17) w N X0 R E) : C4_b9.wpIn (Fw r) 0 P (Qs (wr C4_b9) a Q) a w :=
  piece' (HJ := Z0) (HL := Z0) hmix hs (by decide +kernel) (fun a w => N (a 4) (a 12) (a 13) (a 14) (a 15) (a 16) (a 17) w) (fun a w => resQ P Tryz.f4.results a w R) (J4_b9 N X0 R E) E hN hR
  (fun i a' w' hag h => by
  unfold J4_b9 at h
  split at h <;> first | exact hX0 _ _ hag h | exact h.elim) hE
  trivial (Eq.mpr (K4_b9 (gt a) w N X0 R E) h)
def S4_l9 (v4 v12 v13 v14 v15 v16 v17 : Value) (w : World) (X0 : K4) (R : K1) (E : Ev) : Prop :=
  ∃ (I : K1) (μ : Value → World → Nat), I v17 w ∧ ∀ (v17 : Value) (w : World), I v17 w → S4_b9 v4 v12 v13 v14 v15 v16 v17 w (fun x4 x12 x13 x14 x15 x16 x17 y => I x17 y ∧ μ x17 y < μ v17 w) X0 R E
theorem T4_l9 (hs : a.tmps.size = 114) (X0 : K4) (R : K1) (E : Ev) (hX0 : ∀ a' w', Ag (wr (Code.loop C4_b9)) a a' → X0 (gt a' 13) (gt a' 14) (gt a' 15) (gt a' 16) w' → Q (.exit 0) a' w') (hR : ∀ a' w', Ag (wr (Code.loop C4_b9)) a a' → resQ P Tryz.f4.results (gt a') w' R → Q .ret a' w') (hE : HE Q E)
  (h : S4_l9 (gt a 4) (gt a 12) (gt a 13) (gt a 14) (gt a 15) (gt a 16) (gt a 17) w X0 R E) : (Code.loop C4_b9).wpIn (Fw r) 0 P (Qs (wr (Code.loop C4_b9)) a Q) a w := by
  obtain ⟨I, μ, h0, hr⟩ := h
  refine loop_piece (c := C4_b9) (fun a w => I (gt a 17) w) (fun a w => μ (gt a 17) w) h0 fun a' w' hag hI => ?_
  have h' := hr (gt a' 17) w' hI
  rw [← hag.get 4 (by decide +kernel)] at h'
  rw [← hag.get 12 (by decide +kernel)] at h'
  rw [← hag.get 13 (by decide +kernel)] at h'
  rw [← hag.get 14 (by decide +kernel)] at h'
  rw [← hag.get 15 (by decide +kernel)] at h'
  rw [← hag.get 16 (by decide +kernel)] at h'
  exact T4_b9 a' w' (hag.size.trans hs) (fun x4 x12 x13 x14 x15 x16 x17 y => I x17 y ∧ μ x17 y < μ (gt a' 17) w') X0 R E (fun _ _ _ h => h) (fun a1 w1 hag1 h => hX0 a1 w1 (hag.trans hag1) h) (fun a1 w1 hag1 h => hR a1 w1 (hag.trans hag1) h) hE h'
def S4_0 (v0 v1 v2 v3 v4 : Value) (w : World) (R : K1) (E : Ev) : Prop :=
  X P (.callF 6 #[]) 4 w (fun t23 w1 =>
  X P (.callF 7 #[v0]) 25 w1 (fun t25 w2 =>
  X P (.callF 8 #[v1, v2]) 28 w2 (fun t29 w3 =>
  X P (.callF 9 #[v3, (.int .i64 8)]) 3 w3 (fun t31 w4 =>
  X P (.bin .add 3 true false (.int .i64 1) t31) 3 w4 (fun t32 w5 =>
  X P (.callF 10 #[t25, t29, t32]) 31 w5 (fun t33 w6 =>
  X P (.un .not t23) 4 w6 (fun t35 w7 =>
  XG (some t35) false P (.val t33) 31 w7 (fun t37 w8 =>
  XG (some t35) false P (.bin .eql 31 false true t37 (.pointer none)) 4 w8 (fun t38 w9 =>
  X P (.pick t35 (.bool true) t38) 4 w9 (fun t39 w10 =>
  Cnd t39 (
  R (.bool false) w10) (
  X P (.nilCheck t33) 0 w10 (fun t42 w11 =>
  X P (.fieldAddr 46 t42 0) 0 w11 (fun t43 w12 =>
  X P (.load 41 t43) 41 w12 (fun t44 w13 =>
  X P (.callF 15 #[t44, (.int .u32 131072), (.int .i64 131072)]) 54 w13 (fun t45 w14 =>
  X P (.extract t45 0) 34 w14 (fun t46 w15 =>
  X P (.extract t45 1) 53 w15 (fun t47 w16 =>
  X P (.makeSlice 34 (.int .i64 131072) (.int .i64 131072)) 34 w16 (fun t48 w17 =>
  X P (.build 36 #[(0, t48)]) 36 w17 (fun t49 w18 =>
  X P (.box 36 t49) 33 w18 (fun t50 w19 =>
  S4_l9 v4 t25 t33 t46 t47 t50 (.int .i64 0) w19 (fun x13 x14 x15 x16 y => S4_j14 x13 x14 x15 x16 y R E) R E) E) E) E) E) E) E) E) E) E)) E) E) E) E) E) E) E) E) E) E
noncomputable def C4_0 : Code := bodyOf Tryz.f4
noncomputable def HJ4_0 (R : K1) (E : Ev) : Cut := fun i => match i with | some 14 => some (fun a w => S4_j14 (a 13) (a 14) (a 15) (a 16) w R E) | _ => none
noncomputable def HL4_0 (R : K1) (E : Ev) : Cut := fun i => match i with | some 9 => some (fun a w => S4_l9 (a 4) (a 12) (a 13) (a 14) (a 15) (a 16) (a 17) w (fun x13 x14 x15 x16 y => S4_j14 x13 x14 x15 x16 y R E) R E) | _ => none
theorem K4_0 (g : Env) (w : World) (R : K1) (E : Ev) :
  vcF P (HJ4_0 R E) (HL4_0 R E) C4_0 (QC (fun _ _ => False) (fun a w => resQ P Tryz.f4.results a w R) Y0 E) g w = S4_0 (g 0) (g 1) (g 2) (g 3) (g 4) w R E := by kernel_rfl
theorem T4_0 (hs : a.tmps.size = 114) (R : K1) (E : Ev) (hR : ∀ a' w', Ag (wr C4_0) a a' → resQ P Tryz.f4.results (gt a') w' R → Q .ret a' w') (hE : HE Q E)
  (h : S4_0 (gt a 0) (gt a 1) (gt a 2) (gt a 3) (gt a 4) w R E) : C4_0.wpIn (Fw r) 0 P (Qs (wr C4_0) a Q) a w :=
  piece' (HJ := HJ4_0 R E) (HL := HL4_0 R E) hmix hs (by decide +kernel) (fun _ _ => False) (fun a w => resQ P Tryz.f4.results a w R) Y0 E (fun _ _ _ h => h.elim) hR
  (fun _ _ _ _ h => h.elim) hE
  ⟨pay (c := Code.loop C4_b9) (W := wr C4_0) (h := fun a w => S4_l9 (a 4) (a 12) (a 13) (a 14) (a 15) (a 16) (a 17) w (fun x13 x14 x15 x16 y => S4_j14 x13 x14 x15 x16 y R E) R E) (by decide +kernel) fun a w hsz h => T4_l9 a w (hsz.trans hs) (fun x13 x14 x15 x16 y => S4_j14 x13 x14 x15 x16 y R E) R E (fun _ _ _ h => h) (fun _ _ _ h => h) (fun _ _ _ h => h) h, pay (c := C4_j14) (W := wr C4_0) (h := fun a w => S4_j14 (a 13) (a 14) (a 15) (a 16) w R E) (by decide +kernel) fun a w hsz h => T4_j14 a w (hsz.trans hs) R E (fun _ _ _ h => h) (fun _ _ _ h => h) h, trivial⟩ (Eq.mpr (K4_0 (gt a) w R E) h)
theorem F4 (a0 a1 a2 a3 a4 : Value) (w : World) (R : K1) (E : Ev) (h : S4_0 a0 a1 a2 a3 a4 w R E) : C P 4 #[a0, a1, a2, a3, a4] w R E := by
  have e : S4_0 (gt (A0 Tryz.f4.ntmps #[a0, a1, a2, a3, a4]) 0) (gt (A0 Tryz.f4.ntmps #[a0, a1, a2, a3, a4]) 1) (gt (A0 Tryz.f4.ntmps #[a0, a1, a2, a3, a4]) 2) (gt (A0 Tryz.f4.ntmps #[a0, a1, a2, a3, a4]) 3) (gt (A0 Tryz.f4.ntmps #[a0, a1, a2, a3, a4]) 4) w R E = S4_0 a0 a1 a2 a3 a4 w R E := by kernel_rfl
  have t := T4_0 (r := none) (Q := QF P Tryz.f4 R E) (A0 Tryz.f4.ntmps #[a0, a1, a2, a3, a4]) w (by kernel_rfl) R E (fun _ _ _ h => h) (fun _ _ _ h => h) (Eq.mpr e h)
  exact C_of (c := C4_0) Tryz.func4 (by kernel_rfl) t
end Go.Eng
namespace Go.Eng
theorem two_mk {q r : IntKind} {a b : Int} : Two q r (.agg #[.int q a, .int r b]) := ⟨_, _, rfl⟩
theorem keyI {k : IntKind} {n : Int} : Go.MapKept.IsKey (.int k) (.int k n) := rfl
section
variable {P : Program} {w : World} {ty : TypeId} {K : Value → World → Prop} {E : List PanicEntry → World → Prop}
theorem run_getObj_iter {r : Nat} {m : Option Nat} {since last : Nat} {seen : Array Nat} (hb : w.heap[r]? = some (.mapIter m since seen last)) : (getObj r).run P w = .ok (.mapIter m since seen last) w := by
  simp [getObj, Sem.run, hb]
theorem run_setObj_iter {r : Nat} {m : Option Nat} {since last : Nat} {seen : Array Nat} {o : Obj} (hb : w.heap[r]? = some (.mapIter m since seen last)) : (setObj r o).run P w = .ok () (setBlk w r o) := by
  have := lt_of_blk hb
  simp [setObj, Sem.run, setBlk, hb]
theorem x_lookS {t kt et : TypeId} {Q : Value → Prop} [hu : UT P t (.map kt et)] [T : KeyT P kt Q] {r : Nat} {es : Array MapEntry} {ck : Nat} {f : Value → Option Value} {x z v : Value} [hz : ZV P et z] (hb : w.heap[r]? = some (.map es ck)) (m : MapOf es ck Q f) (hx : Q x) (hf : f x = some v)
    (h : K v w) : X P (.lookup t (.map (some r)) x false) ty w K E := x_look hb m hx (by rw [hf]; exact h)
theorem x_lookN {t kt et : TypeId} {Q : Value → Prop} [hu : UT P t (.map kt et)] [T : KeyT P kt Q] {r : Nat} {es : Array MapEntry} {ck : Nat} {f : Value → Option Value} {x z : Value} [hz : ZV P et z] (hb : w.heap[r]? = some (.map es ck)) (m : MapOf es ck Q f) (hx : Q x) (hf : f x = none)
    (h : K z w) : X P (.lookup t (.map (some r)) x false) ty w K E := x_look hb m hx (by rw [hf]; exact h)
theorem x_lookOkS {t kt et : TypeId} {Q : Value → Prop} [hu : UT P t (.map kt et)] [T : KeyT P kt Q] {r : Nat} {es : Array MapEntry} {ck : Nat} {f : Value → Option Value} {x z v : Value} [hz : ZV P et z] (hb : w.heap[r]? = some (.map es ck)) (m : MapOf es ck Q f) (hx : Q x) (hf : f x = some v)
    (h : K (.tuple #[v, .bool true]) w) : X P (.lookup t (.map (some r)) x true) ty w K E := x_lookOk hb m hx (by rw [hf]; exact h)
theorem x_lookOkN {t kt et : TypeId} {Q : Value → Prop} [hu : UT P t (.map kt et)] [T : KeyT P kt Q] {r : Nat} {es : Array MapEntry} {ck : Nat} {f : Value → Option Value} {x z : Value} [hz : ZV P et z] (hb : w.heap[r]? = some (.map es ck)) (m : MapOf es ck Q f) (hx : Q x) (hf : f x = none)
    (h : K (.tuple #[z, .bool false]) w) : X P (.lookup t (.map (some r)) x true) ty w K E := x_lookOk hb m hx (by rw [hf]; exact h)
theorem x_deleteS {t kt et ta : TypeId} {cs : Array Bool} {Q : Value → Prop} [hu : UT P t (.map kt et)] [T : KeyT P kt Q] {r : Nat} {es : Array MapEntry} {ck : Nat} {f : Value → Option Value} {x : Value} (hb : w.heap[r]? = some (.map es ck)) (m : MapOf es ck Q f) (hx : Q x)
    (h : ∀ es' : Array MapEntry, MapOf es' ck Q (del f x) → es'.size = (if (f x).isSome then es.size - 1 else es.size) → es'.toList.Sublist es.toList → K (.tuple #[]) (setBlk w r (.map es' ck))) : X P (.callB .delete #[t, ta] cs #[.map (some r), x]) ty w K E := by
  have hu := hu.h
  rcases run_find (P := P) (w := w) (kt := kt) m hx with ⟨h1, h2, h3⟩ | ⟨j, e, h1, h2, h3, h4⟩
  · refine .run (v := .tuple #[]) ?_ (h es (m.congr fun y => ?_) (by simp [h2]) (List.Sublist.refl _))
    · simp [Cop.sem, builtin, Builtin.delete_, run_underlying hu, Go.MapKept.run_getObj_map hb, T.check _ _ _ hx, h1, run_setObj_at hb]
    · by_cases h : y = x
      · subst h; rw [del_same, h2]
      · rw [del_ne h]
  · have hlt := (List.getElem?_eq_some_iff.1 h2).1
    simp at hlt
    refine .run (v := .tuple #[]) ?_ (h (es.eraseIdxIfInBounds j) (m.erase h2 h3) (by simp [h4, Array.eraseIdxIfInBounds, hlt]) (by simp [Array.eraseIdxIfInBounds, hlt, List.eraseIdx_sublist]))
    simp [Cop.sem, builtin, Builtin.delete_, run_underlying hu, Go.MapKept.run_getObj_map hb, T.check _ _ _ hx, h1, run_setObj_at hb]
theorem x_range {t k e : TypeId} {m : Nat} {es : Array MapEntry} {ck : Nat} [hu : UT P t (.map k e)] (hb : w.heap[m]? = some (.map es ck)) (h : K (.pointer (some ⟨w.heap.size, 0, none⟩)) (w.alloc (.mapIter (some m) ck #[] ck))) : X P (.range t (.map (some m))) ty w K E :=
  .run (v := .pointer (some ⟨w.heap.size, 0, none⟩)) (by simp [Cop.sem, Instr.range, run_underlying hu.h, Go.MapKept.run_getObj_map hb, newObj, Sem.run]) h
theorem x_entry {r m ck : Nat} {seen : Array Nat} {es : Array MapEntry} {e : MapEntry} (hb : w.heap[r]? = some (.mapIter (some m) ck (seen.push e.born) ck)) (hm : w.heap[m]? = some (.map es ck)) (hf : es.find? (·.born == e.born) = some e)
    (h : K (.tuple #[e.key, e.val]) w) : X P (.entry (.pointer (some ⟨r, 0, none⟩))) ty w K E :=
  .run (v := .tuple #[e.key, e.val]) (by simp [Cop.sem, Instr.entry, run_getObj_iter hb, Go.MapKept.run_getObj_map hm, hf]) h
theorem x_next {r m ck : Nat} {seen : Array Nat} {es : Array MapEntry} (hb : w.heap[r]? = some (.mapIter (some m) ck seen ck)) (hm : w.heap[m]? = some (.map es ck)) (hck : ∀ e ∈ es.toList, e.born < ck)
    (h0 : (∀ e ∈ es.toList, e.born ∈ seen.toList) → ∀ w1, (w1 = w ∨ w1 = drw w) → K (.tuple #[.bool false]) w1)
    (h1 : ∀ e ∈ es.toList, e.born ∉ seen.toList → ∀ w1, (w1 = w ∨ w1 = drw w) → K (.tuple #[.bool true, e.key, e.val]) (setBlk w1 r (.mapIter (some m) ck (seen.push e.born) ck))) :
    X P (.next (.pointer (some ⟨r, 0, none⟩)) false) ty w K E := by
  have hall : (!seen.isEmpty && !es.isEmpty && es.all (·.born ≥ ck)) = false := by
    by_cases he : es.isEmpty = true
    · simp [he]
    · have hne : es.toList ≠ [] := by simpa using he
      obtain ⟨e, l, hl⟩ := List.exists_cons_of_ne_nil hne
      have := hck e (by rw [hl]; simp)
      have hf : es.all (·.born ≥ ck) = false := by
        rw [← Array.all_toList, hl]
        simp only [List.all_cons, Bool.and_eq_false_iff]
        left
        simpa using this
      simp [hf]
  obtain ⟨left, hleft⟩ : ∃ left, left = es.filter fun e => !seen.contains e.born := ⟨_, rfl⟩
  have hmem : ∀ e, e ∈ left → e ∈ es.toList ∧ e.born ∉ seen.toList := fun e he => by
    rw [hleft] at he
    simpa using he
  have hold : left.filter (·.born < ck) = left := by
    rw [Array.filter_eq_self]
    intro e he
    simpa using hck e (hmem e he).1
  have hnew : left.filter (·.born ≥ ck) = #[] := by
    rw [Array.filter_eq_empty_iff]
    intro e he
    have := hck e (hmem e he).1
    simpa using this
  obtain ⟨cs, hcs⟩ : ∃ cs : Array (Option MapEntry), cs = (if left.isEmpty then #[none] else #[]) ++ (left ++ #[]).map some := ⟨_, rfl⟩
  have hpos : 0 < cs.size := by
    rw [hcs]
    by_cases he : left.isEmpty = true
    · simp [he]; omega
    · simp [he]
      have : left ≠ #[] := by simpa using he
      exact Nat.pos_of_ne_zero fun h => this (Array.eq_empty_of_size_eq_zero h)
  obtain ⟨c, w1, hc, hw1, hrun⟩ : ∃ c w1, c < cs.size ∧ (w1 = w ∨ w1 = drw w) ∧ (choose (.mapNext cs.size)).run P w = .ok c w1 := by
    rw [run_choose]
    by_cases hf : (Question.mapNext cs.size).forced = true
    · exact ⟨0, w, hpos, .inl rfl, by rw [if_pos hf]⟩
    · exact ⟨(Question.mapNext cs.size).cut (w.tape w.drawn (Question.mapNext cs.size)), drw w, Nat.mod_lt _ hpos, .inr rfl, by rw [if_neg hf]⟩
  have hb1 : w1.heap[r]? = some (.mapIter (some m) ck seen ck) := by rcases hw1 with rfl | rfl <;> exact hb
  have hget : cs[c]? = some cs[c] := by simp [hc]
  have hin : cs[c] ∈ cs := Array.getElem_mem hc
  cases hx : cs[c] with
  | none =>
    have hl : left.isEmpty = true := by
      by_cases he : left.isEmpty = true
      · exact he
      · rw [hx, hcs] at hin
        simp [he] at hin
    refine .run (v := .tuple #[.bool false]) (w' := w1) ?_ (h0 (fun e he => ?_) w1 hw1)
    · rw [hx] at hget
      simp only [Cop.sem, Instr.next, Sem.run_bind, run_getObj_iter hb, Result.andThen_ok, Go.MapKept.run_getObj_map hm, hall, ← hleft, hold, hnew, ← hcs, hrun, hget, Sem.run_pure, Bool.false_eq_true, if_false]
    · have hz : left = #[] := by simpa using hl
      by_cases hn : e.born ∈ seen.toList
      · exact hn
      · have : e ∈ left := by rw [hleft]; simp; exact ⟨by simpa using he, by simpa using hn⟩
        rw [hz] at this
        simp at this
  | some e =>
    have hl : e ∈ left := by
      rw [hx, hcs] at hin
      by_cases he : left.isEmpty = true
      · have hz : left = #[] := by simpa using he
        simp [hz] at hin
      · simpa [he] using hin
    refine .run (v := .tuple #[.bool true, e.key, e.val]) ?_ (h1 e (hmem e hl).1 (hmem e hl).2 w1 hw1)
    rw [hx] at hget
    simp only [Cop.sem, Instr.next, Sem.run_bind, run_getObj_iter hb, Result.andThen_ok, Go.MapKept.run_getObj_map hm, hall, ← hleft, hold, hnew, ← hcs, hrun, hget, Sem.run_pure, Bool.false_eq_true, if_false]
    simp [run_setObj_iter hb1]
end
end Go.Eng
namespace Go.Eng
variable {P : Program}
def cA : Code → Code | .rangeFunc _ _ x _ => x | c => c
def cY : Code → Code | .rangeFunc _ _ _ y => y | c => c
def rdPost (l : Nat) (r : Loop) (K : Value → World → Prop) : Exit → Act → World → Prop
  | .normal, _, w => w.heap[l]? = some (.loop { r with state := .busy }) ∧ K (.bool true) (setBlk w l (.loop { r with state := .ready, pending := none }))
  | .ret, _, w => w.heap[l]? = some (.loop { r with state := .busy }) ∧ K (.bool false) (setBlk w l (.loop { r with state := .done, pending := some .ret }))
  | _, _, _ => False
theorem x_round {l : Nat} {r : Loop} {args : Array Value} {w : World} {ty : TypeId} {K : Value → World → Prop} {E : List PanicEntry → World → Prop} (hl : w.heap[l]? = some (.loop r)) (hst : r.state = .ready) (hsz : args.size = r.params.size)
    (h : r.assign.wpIn (Fw (some l)) 0 P (Exit.then (fun a1 w1 => w1.heap[l]? = some (.loop r) ∧ r.body.wpIn (Fw (some l)) 0 P (rdPost l r K) a1 (setBlk w1 l (.loop { r with state := .busy }))) (fun _ _ _ => False))
      { tmps := (r.params.zip args).foldl (fun t (p, v) => t.setIfInBounds p v) r.tmps, defers := [] } w) :
    X P (.callV (.func (.yield l) #[] #[]) args) ty w K E := by
  refine ⟨?_⟩
  unfold X0
  have hr : ((Cop.callV (.func (.yield l) #[] #[]) args).sem ty).run P w = .ok (.round l r.fn ((r.params.zip args).foldl (fun t (p, v) => t.setIfInBounds p v) r.tmps) r.assign r.body) w := by
    simp [Cop.sem, Deferred.ofValue, invoke, run_yield hl hsz]
  rw [hr]
  show RoundIn Fence.wide 0 P l r.fn _ r.assign r.body w _
  refine roundIn_of_wpIn trivial (wpIn_mono h fun e a1 w1 he => ?_)
  cases e <;> simp only [Exit.then] at he ⊢
  obtain ⟨h1, h2⟩ := he
  refine ⟨_, run_beginRound h1 hst, wpIn_mono h2 fun e a2 w2 he => ?_⟩
  cases e <;> simp only [rdPost, roundPost] at he ⊢
  · exact ⟨_, _, run_endRound none he.1, he.2⟩
  · exact ⟨_, _, run_endRound (some .ret) he.1, he.2⟩
abbrev markD (D : Nat) : Deferred := { target := .collected D, args := #[] }
theorem rf_wp {g : Operand} {ps : Array Tmp} {asg body : Code} {Q : Exit → Act → World → Prop} {a : Act} {w : World} {gf : Nat} {lb : List Value} (hcf : CF P gf) (hg : a.eval g = .func (.func gf) (List.toArray []) (List.toArray lb))
    (h : ∀ r : Loop, r.params = ps → r.assign = asg → r.body = body → r.tmps = a.tmps → r.state = .ready → r.pending = none →
      C P gf (List.toArray ([.func (.yield (w.heap.size + 1)) #[] #[]] ++ lb)) ((w.alloc (.deferred (some []))).alloc (.loop r))
        (fun _ y => (y.heap[w.heap.size + 1]? = some (.loop { r with state := .ready, pending := none }) ∧ Q .normal { a with defers := markD w.heap.size :: a.defers } (setBlk y (w.heap.size + 1) (.loop { r with state := .exhausted, pending := none }))) ∨
          (y.heap[w.heap.size + 1]? = some (.loop { r with state := .done, pending := some .ret }) ∧ Q .ret { a with defers := markD w.heap.size :: a.defers } (setBlk y (w.heap.size + 1) (.loop { r with state := .exhausted, pending := some .ret }))))
        (fun _ _ => False)) : (Code.rangeFunc g ps asg body).wpIn (Fw none) 0 P Q a w := by
  refine wpIn_rangeFunc fun fn _ => ?_
  obtain ⟨w1, hw1⟩ : ∃ w1, w1 = (w.alloc (.deferred (some []))).alloc (.loop { state := .ready, pending := none, fn, tmps := a.tmps, params := ps, assign := asg, body, defers := w.heap.size }) := ⟨_, rfl⟩
  refine ⟨w.heap.size + 1, [markD w.heap.size], w1, { target := .fn (.func gf) (List.toArray lb), args := #[.func (.yield (w.heap.size + 1)) #[] #[]] }, w1, gf, List.toArray ([.func (.yield (w.heap.size + 1)) #[] #[]] ++ lb), w1, by rw [hw1]; exact run_enterLoop_outer fn a.tmps ps asg body, ?_, fun _ _ => trivial, ?_, (fun h => by cases h), ?_⟩
  · have e : a.eval (.const (.func (.yield (w.heap.size + 1)) #[] #[])) = .func (.yield (w.heap.size + 1)) #[] #[] := rfl
    simp [resolve, rangeCall, hg, e, Deferred.ofValue]
  · have := hcf.h (List.toArray ([.func (.yield (w.heap.size + 1)) #[] #[]] ++ lb))
    simp only [invoke]
    simpa using this _
  · rw [hw1]
    have hc := h { state := .ready, pending := none, fn, tmps := a.tmps, params := ps, assign := asg, body, defers := w.heap.size } rfl rfl rfl rfl rfl rfl
    refine callsFw (Calls.mono hc fun e y he => ?_)
    cases e with
    | panicked ch => exact he.elim
    | outgrown => exact he.elim
    | returned v =>
      simp only at he
      rcases he with ⟨h1, h2⟩ | ⟨h1, h2⟩
      · exact ⟨_, _, run_endLoop h1 (by simp), h2⟩
      · exact ⟨_, _, run_endLoop h1 (by simp), wpIn_ret h2⟩
def XM : List Nat → World → (World → Prop) → Prop
  | [], w, k => k w
  | D :: ds, w, k => w.heap[D]? = some (.deferred (some [])) ∧ XM ds (setBlk w D (.deferred none)) k
def QM (P : Program) (fn : Func) (K : Value → World → Prop) : Exit → Act → World → Prop
  | .normal, a, w | .ret, a, w => ∃ ds : List Nat, a.defers = ds.map markD ∧ XM ds w (fun w' => resQ P fn.results (gt a) w' K)
  | _, _, _ => False
theorem leaves_of_XM {fn : Func} {a : Act} {K : Value → World → Prop} {R : Ending → World → Prop} (hR : ∀ v w, K v w → R (.returned v) w) : ∀ (ds : List Nat) (w : World), XM ds w (fun w' => resQ P fn.results (gt a) w' K) → LeavesInM (Fw none) 0 P fn a.tmps R (ds.map markD) .returning w
  | [], w, h => by
    obtain ⟨v, h1, h2⟩ := results_of_resQ h
    exact ⟨v, h1, hR _ _ h2⟩
  | D :: ds, w, h => ⟨by simp, .inl ⟨D, _, rfl, run_takeDeferred h.1, leaves_of_XM hR ds _ h.2⟩⟩
theorem C_of_marks {f : FuncId} {fn : Func} {c : Code} {args : Array Value} {w : World} {K : Value → World → Prop} {E : List PanicEntry → World → Prop}
    (hf : P.funcs[f]? = some fn) (hb : fn.body = some c)
    (h : c.wpIn (Fw none) 0 P (QM P fn K) { tmps := args ++ Array.replicate (fn.ntmps - args.size) undef, defers := [] } w) : C P f args w K E := by
  refine callsIn_wide.1 (callsIn_of_wp_marks (n := 0) (F := Fence.wide) hf hb trivial (wpIn_mono h fun e a w he => ?_))
  cases e <;> simp only [QM, bodyPostM] at he ⊢
  · obtain ⟨ds, h1, h2⟩ := he
    rw [h1]
    exact leaves_of_XM (fun _ _ h => h) ds w h2
  · obtain ⟨ds, h1, h2⟩ := he
    rw [h1]
    exact leaves_of_XM (fun _ _ h => h) ds w h2
theorem seg {x y : Code} {Q : Exit → Act → World → Prop} {a : Act} {w : World} (h : x.wpIn (Fw none) 0 P (Qs (wr x) a (Exit.then (y.wpIn (Fw none) 0 P Q) Q)) a w) : (Code.seq x y).wpIn (Fw none) 0 P Q a w :=
  wpIn_seq (wpIn_mono h fun e a w he => by cases e <;> first | exact he.1 | exact he)
end Go.Eng
namespace Go.Eng
open Go.Proofs
variable {r : Option Nat} {Q : Qx} (a : Act) (w : World)
set_option maxRecDepth 100000
def S22_s0 (v0 v1 : Value) (w : World) (N : K3) (E : Ev) : Prop :=
  X P (.box 72 v0) 0 w (fun t2 w1 =>
  X P (.alloc 53) 0 w1 (fun t4 w2 =>
  N v1 t2 t4 w2) E) E
noncomputable def C22_s0 : Code := cL (bodyOf Tryz.f22)
theorem K22_s0 (g : Env) (w : World) (N : K3) (E : Ev) :
    vcF P Z0 Z0 C22_s0 (QC (fun a w => N (a 1) (a 2) (a 4) w) (fun _ _ => False) Y0 E) g w = S22_s0 (g 0) (g 1) w N E := by kernel_rfl
theorem T22_s0 (hs : a.tmps.size = 184) (N : K3) (E : Ev) (hN : ∀ a' w', Ag (wr C22_s0) a a' → N (gt a' 1) (gt a' 2) (gt a' 4) w' → Q .normal a' w') (hE : HE Q E)
    (h : S22_s0 (gt a 0) (gt a 1) w N E) : C22_s0.wpIn (Fw r) 0 P (Qs (wr C22_s0) a Q) a w :=
  piece' (HJ := Z0) (HL := Z0) hmix hs (by decide +kernel) (fun a w => N (a 1) (a 2) (a 4) w) (fun _ _ => False) Y0 E hN (fun _ _ _ h => h.elim)
    (fun _ _ _ _ h => h.elim) hE
    trivial (Eq.mpr (K22_s0 (gt a) w N E) h)
def S22_s1 (v1 v2 v4 : Value) (w : World) (N : K3) (R : K1) (E : Ev) : Prop :=
  X P (.callF 48 #[v1, (Value.func (Fn.func 49) #[] #[])]) 4 w (fun t25 w1 =>
  Cnd t25 (
    X P (.store 53 v4 (.int .i64 70)) 0 w1 (fun _ w2 =>
    R v4 w2) E) (
    N v1 v2 v4 w1)) E
noncomputable def C22_s1 : Code := cL (cR (bodyOf Tryz.f22))
theorem K22_s1 (g : Env) (w : World) (N : K3) (R : K1) (E : Ev) :
    vcF P Z0 Z0 C22_s1 (QC (fun a w => N (a 1) (a 2) (a 4) w) (fun a w => R (a 4) w) Y0 E) g w = S22_s1 (g 1) (g 2) (g 4) w N R E := by kernel_rfl
theorem T22_s1 (hs : a.tmps.size = 184) (N : K3) (R : K1) (E : Ev) (hN : ∀ a' w', Ag (wr C22_s1) a a' → N (gt a' 1) (gt a' 2) (gt a' 4) w' → Q .normal a' w') (hR : ∀ a' w', Ag (wr C22_s1) a a' → R (gt a' 4) w' → Q .ret a' w') (hE : HE Q E)
    (h : S22_s1 (gt a 1) (gt a 2) (gt a 4) w N R E) : C22_s1.wpIn (Fw r) 0 P (Qs (wr C22_s1) a Q) a w :=
  piece' (HJ := Z0) (HL := Z0) hmix hs (by decide +kernel) (fun a w => N (a 1) (a 2) (a 4) w) (fun a w => R (a 4) w) Y0 E hN hR
    (fun _ _ _ _ h => h.elim) hE
    trivial (Eq.mpr (K22_s1 (gt a) w N R E) h)
def S22_s2 (v1 v2 v4 : Value) (w : World) (N : K4) (E : Ev) : Prop :=
  X P (.load 72 v2) 72 w (fun t26 w1 =>
  X P (.nilCheck t26) 0 w1 (fun t27 w2 =>
  X P (.fieldAddr 111 t27 0) 0 w2 (fun t28 w3 =>
  X P (.load 69 t28) 69 w3 (fun t29 w4 =>
  X P (.callF 51 #[t29]) 41 w4 (fun t30 w5 =>
  X P (.alloc 41) 0 w5 (fun t5 w6 =>
  X P (.store 41 t5 t30) 0 w6 (fun _ w7 =>
  N v1 v2 v4 t5 w7) E) E) E) E) E) E) E
noncomputable def C22_s2 : Code := cL (cR (cR (bodyOf Tryz.f22)))
theorem K22_s2 (g : Env) (w : World) (N : K4) (E : Ev) :
    vcF P Z0 Z0 C22_s2 (QC (fun a w => N (a 1) (a 2) (a 4) (a 5) w) (fun _ _ => False) Y0 E) g w = S22_s2 (g 1) (g 2) (g 4) w N E := by kernel_rfl
theorem T22_s2 (hs : a.tmps.size = 184) (N : K4) (E : Ev) (hN : ∀ a' w', Ag (wr C22_s2) a a' → N (gt a' 1) (gt a' 2) (gt a' 4) (gt a' 5) w' → Q .normal a' w') (hE : HE Q E)
    (h : S22_s2 (gt a 1) (gt a 2) (gt a 4) w N E) : C22_s2.wpIn (Fw r) 0 P (Qs (wr C22_s2) a Q) a w :=
  piece' (HJ := Z0) (HL := Z0) hmix hs (by decide +kernel) (fun a w => N (a 1) (a 2) (a 4) (a 5) w) (fun _ _ => False) Y0 E hN (fun _ _ _ h => h.elim)
    (fun _ _ _ _ h => h.elim) hE
    trivial (Eq.mpr (K22_s2 (gt a) w N E) h)
def S22_s3 (v1 v2 v4 v5 : Value) (w : World) (N : K5) (E : Ev) : Prop :=
  X P (.makeMap 115 none) 115 w (fun t31 w1 =>
  X P (.alloc 115) 0 w1 (fun t6 w2 =>
  X P (.store 115 t6 t31) 0 w2 (fun _ w3 =>
  N v1 v2 v4 v5 t6 w3) E) E) E
noncomputable def C22_s3 : Code := cL (cR (cR (cR (bodyOf Tryz.f22))))
theorem K22_s3 (g : Env) (w : World) (N : K5) (E : Ev) :
    vcF P Z0 Z0 C22_s3 (QC (fun a w => N (a 1) (a 2) (a 4) (a 5) (a 6) w) (fun _ _ => False) Y0 E) g w = S22_s3 (g 1) (g 2) (g 4) (g 5) w N E := by kernel_rfl
theorem T22_s3 (hs : a.tmps.size = 184) (N : K5) (E : Ev) (hN : ∀ a' w', Ag (wr C22_s3) a a' → N (gt a' 1) (gt a' 2) (gt a' 4) (gt a' 5) (gt a' 6) w' → Q .normal a' w') (hE : HE Q E)
    (h : S22_s3 (gt a 1) (gt a 2) (gt a 4) (gt a 5) w N E) : C22_s3.wpIn (Fw r) 0 P (Qs (wr C22_s3) a Q) a w :=
  piece' (HJ := Z0) (HL := Z0) hmix hs (by decide +kernel) (fun a w => N (a 1) (a 2) (a 4) (a 5) (a 6) w) (fun _ _ => False) Y0 E hN (fun _ _ _ h => h.elim)
    (fun _ _ _ _ h => h.elim) hE
    trivial (Eq.mpr (K22_s3 (gt a) w N E) h)
def S22_s4 (v1 v2 v4 v5 v6 : Value) (w : World) (N : K6) (E : Ev) : Prop :=
  X P (.makeMap 116 none) 116 w (fun t32 w1 =>
  X P (.alloc 116) 0 w1 (fun t7 w2 =>
  X P (.store 116 t7 t32) 0 w2 (fun _ w3 =>
  N v1 v2 v4 v5 v6 t7 w3) E) E) E
noncomputable def C22_s4 : Code := cL (cR (cR (cR (cR (bodyOf Tryz.f22)))))
theorem K22_s4 (g : Env) (w : World) (N : K6) (E : Ev) :
    vcF P Z0 Z0 C22_s4 (QC (fun a w => N (a 1) (a 2) (a 4) (a 5) (a 6) (a 7) w) (fun _ _ => False) Y0 E) g w = S22_s4 (g 1) (g 2) (g 4) (g 5) (g 6) w N E := by kernel_rfl
theorem T22_s4 (hs : a.tmps.size = 184) (N : K6) (E : Ev) (hN : ∀ a' w', Ag (wr C22_s4) a a' → N (gt a' 1) (gt a' 2) (gt a' 4) (gt a' 5) (gt a' 6) (gt a' 7) w' → Q .normal a' w') (hE : HE Q E)
    (h : S22_s4 (gt a 1) (gt a 2) (gt a 4) (gt a 5) (gt a 6) w N E) : C22_s4.wpIn (Fw r) 0 P (Qs (wr C22_s4) a Q) a w :=
  piece' (HJ := Z0) (HL := Z0) hmix hs (by decide +kernel) (fun a w => N (a 1) (a 2) (a 4) (a 5) (a 6) (a 7) w) (fun _ _ => False) Y0 E hN (fun _ _ _ h => h.elim)
    (fun _ _ _ _ h => h.elim) hE
    trivial (Eq.mpr (K22_s4 (gt a) w N E) h)
def S22_s5 (v1 v2 v4 v5 v6 v7 : Value) (w : World) (N : K7) (E : Ev) : Prop :=
  X P (.alloc 117) 0 w (fun t8 w1 =>
  N v1 v2 v4 v5 v6 v7 t8 w1) E
noncomputable def C22_s5 : Code := cL (cR (cR (cR (cR (cR (bodyOf Tryz.f22))))))
theorem K22_s5 (g : Env) (w : World) (N : K7) (E : Ev) :
    vcF P Z0 Z0 C22_s5 (QC (fun a w => N (a 1) (a 2) (a 4) (a 5) (a 6) (a 7) (a 8) w) (fun _ _ => False) Y0 E) g w = S22_s5 (g 1) (g 2) (g 4) (g 5) (g 6) (g 7) w N E := by kernel_rfl
theorem T22_s5 (hs : a.tmps.size = 184) (N : K7) (E : Ev) (hN : ∀ a' w', Ag (wr C22_s5) a a' → N (gt a' 1) (gt a' 2) (gt a' 4) (gt a' 5) (gt a' 6) (gt a' 7) (gt a' 8) w' → Q .normal a' w') (hE : HE Q E)
    (h : S22_s5 (gt a 1) (gt a 2) (gt a 4) (gt a 5) (gt a 6) (gt a 7) w N E) : C22_s5.wpIn (Fw r) 0 P (Qs (wr C22_s5) a Q) a w :=
  piece' (HJ := Z0) (HL := Z0) hmix hs (by decide +kernel) (fun a w => N (a 1) (a 2) (a 4) (a 5) (a 6) (a 7) (a 8) w) (fun _ _ => False) Y0 E hN (fun _ _ _ h => h.elim)
    (fun _ _ _ _ h => h.elim) hE
    trivial (Eq.mpr (K22_s5 (gt a) w N E) h)
def S22_s6 (v1 v2 v4 v5 v6 v7 v8 : Value) (w : World) (N : K8) (E : Ev) : Prop :=
  X P (.callF 52 #[v1]) 119 w (fun t34 w1 =>
  N v1 v2 v4 v5 v6 v7 v8 t34 w1) E
noncomputable def C22_s6 : Code := cL (cL (cR (cR (cR (cR (cR (cR (bodyOf Tryz.f22))))))))
theorem K22_s6 (g : Env) (w : World) (N : K8) (E : Ev) :
    vcF P Z0 Z0 C22_s6 (QC (fun a w => N (a 1) (a 2) (a 4) (a 5) (a 6) (a 7) (a 8) (a 34) w) (fun _ _ => False) Y0 E) g w = S22_s6 (g 1) (g 2) (g 4) (g 5) (g 6) (g 7) (g 8) w N E := by kernel_rfl
theorem T22_s6 (hs : a.tmps.size = 184) (N : K8) (E : Ev) (hN : ∀ a' w', Ag (wr C22_s6) a a' → N (gt a' 1) (gt a' 2) (gt a' 4) (gt a' 5) (gt a' 6) (gt a' 7) (gt a' 8) (gt a' 34) w' → Q .normal a' w') (hE : HE Q E)
    (h : S22_s6 (gt a 1) (gt a 2) (gt a 4) (gt a 5) (gt a 6) (gt a 7) (gt a 8) w N E) : C22_s6.wpIn (Fw r) 0 P (Qs (wr C22_s6) a Q) a w :=
  piece' (HJ := Z0) (HL := Z0) hmix hs (by decide +kernel) (fun a w => N (a 1) (a 2) (a 4) (a 5) (a 6) (a 7) (a 8) (a 34) w) (fun _ _ => False) Y0 E hN (fun _ _ _ h => h.elim)
    (fun _ _ _ _ h => h.elim) hE
    trivial (Eq.mpr (K22_s6 (gt a) w N E) h)
def S22_y7 (v2 v4 v5 v6 v7 v8 v9 : Value) (w : World) (N : World → Prop) (R : K1) (E : Ev) : Prop :=
  X P (.load 115 v6) 115 w (fun t38 w1 =>
  X P (.load 122 v9) 122 w1 (fun t39 w2 =>
  X P (.lookup 115 t38 t39 true) 124 w2 (fun t40 w3 =>
  X P (.extract t40 0) 123 w3 (fun t41 w4 =>
  X P (.extract t40 1) 4 w4 (fun t42 w5 =>
  X P (.alloc 123) 0 w5 (fun t10 w6 =>
  X P (.store 123 t10 t41) 0 w6 (fun _ w7 =>
  Cnd t42 (
    X P (.store 53 v4 (.int .i64 71)) 0 w7 (fun _ w8 =>
    R v4 w8) E) (
    X P (.load 115 v6) 115 w7 (fun t44 w8 =>
    X P (.load 122 v9) 122 w8 (fun t45 w9 =>
    X P (.build 123 #[]) 123 w9 (fun t46 w10 =>
    X P (.mapUpdate 115 t44 t45 t46) 0 w10 (fun _ w11 =>
    XQ P (.load 41 v5) 41 (drw w11) (fun t48 =>
    XQ P (.load 72 v2) 72 (drw w11) (fun t49 =>
    XQ P (.nilCheck t49) 0 (drw w11) (fun t50 =>
    XQ P (.fieldAddr 111 t50 1) 0 (drw w11) (fun t51 =>
    XQ P (.load 38 t51) 38 (drw w11) (fun t52 =>
    XQ P (.fieldAddr 122 v9 0) 0 (drw w11) (fun t53 =>
    XQ P (.load 38 t53) 38 (drw w11) (fun t54 =>
    (X P (.callF 53 #[t48, t52, t54]) 125 (drw w11) (fun t55 w12 =>
    XQ P (.extract t55 0) 38 w12 (fun t56 =>
    XQ P (.extract t55 1) 38 w12 (fun t57 =>
    XQ P (.extract t55 2) 4 w12 (fun t58 =>
    X P (.callF 54 #[t57]) 130 w12 (fun t61 w13 =>
    X P (.extract t61 0) 129 w13 (fun t62 w14 =>
    X P (.extract t61 1) 53 w14 (fun t63 w15 =>
    X P (.alloc 129) 0 w15 (fun t15 w16 =>
    X P (.store 129 t15 t62) 0 w16 (fun _ w17 =>
    X P (.un .not t58) 4 w17 (fun t86 w18 =>
    XG (some t86) false P (.val t63) 53 w18 (fun t88 w19 =>
    XG (some t86) false P (.bin .neq 53 false true t88 (.int .i64 0)) 4 w19 (fun t89 w20 =>
    X P (.pick t86 (.bool true) t89) 4 w20 (fun t90 w21 =>
    XG (some t90) false P (.fieldAddr 129 t15 0) 0 w21 (fun t92 w22 =>
    XG (some t90) false P (.load 127 t92) 127 w22 (fun t93 w23 =>
    XG (some t90) false P (.bin .eql 127 false true t93 (.int .i64 1)) 4 w23 (fun t94 w24 =>
    X P (.pick t90 (.bool true) t94) 4 w24 (fun t95 w25 =>
    XG (some t95) false P (.fieldAddr 129 t15 0) 0 w25 (fun t97 w26 =>
    XG (some t95) false P (.load 127 t97) 127 w26 (fun t98 w27 =>
    XG (some t95) false P (.bin .eql 127 false true t98 (.int .i64 2)) 4 w27 (fun t99 w28 =>
    XG (some t95) false P (.val t99) 4 w28 (fun t100 w29 =>
    XG (some t100) true P (.load 41 v5) 41 w29 (fun t101 w30 =>
    XG (some t100) true P (.fieldAddr 129 t15 2) 0 w30 (fun t102 w31 =>
    XG (some t100) true P (.load 38 t102) 38 w31 (fun t103 w32 =>
    XG (some t100) true P (.callF 55 #[t101, t103]) 4 w32 (fun t104 w33 =>
    XG (some t100) true P (.un .not t104) 4 w33 (fun t105 w34 =>
    XG (some t95) false P (.pick t100 t105 (.bool false)) 4 w34 (fun t106 w35 =>
    X P (.pick t95 (.bool true) t106) 4 w35 (fun t107 w36 =>
    Cnd t107 (
      X P (.store 53 v4 (.int .i64 71)) 0 w36 (fun _ w37 =>
      R v4 w37) E) (
      X P (.fieldAddr 129 t15 0) 0 w36 (fun t109 w37 =>
      X P (.load 127 t109) 127 w37 (fun t110 w38 =>
      X P (.bin .eql 127 false true t110 (.int .i64 0)) 4 w38 (fun t111 w39 =>
      Cnd t111 (
        X P (.load 117 v8) 117 w39 (fun t112 w40 =>
        X P (.fieldAddr 122 v9 0) 0 w40 (fun t113 w41 =>
        X P (.load 38 t113) 38 w41 (fun t114 w42 =>
        X P (.callF 56 #[t112, t114]) 4 w42 (fun t115 w43 =>
        X P (.un .not t115) 4 w43 (fun t116 w44 =>
        Cnd t116 (
          X P (.load 117 v8) 117 w44 (fun t117 w45 =>
          X P (.fieldAddr 122 v9 0) 0 w45 (fun t118 w46 =>
          X P (.load 38 t118) 38 w46 (fun t119 w47 =>
          X P (.buildSlice 117 1 #[(0, t119)]) 117 w47 (fun t120 w48 =>
          X P (.callB .append #[117, 117] #[false, false] #[t117, t120]) 117 w48 (fun t121 w49 =>
          X P (.store 117 v8 t121) 0 w49 (fun _ w50 =>
          N w50) E) E) E) E) E) E) (
          N w44)) E) E) E) E) E) (
        X P (.load 116 v7) 116 w39 (fun t64 w40 =>
        X P (.fieldAddr 122 v9 0) 0 w40 (fun t65 w41 =>
        X P (.load 38 t65) 38 w41 (fun t66 w42 =>
        X P (.fieldAddr 129 t15 2) 0 w42 (fun t67 w43 =>
        X P (.load 38 t67) 38 w43 (fun t68 w44 =>
        X P (.bin .shl 38 false true t68 (.int .u64 12)) 38 w44 (fun t69 w45 =>
        X P (.mapUpdate 116 t64 t66 t69) 0 w45 (fun _ w46 =>
        X P (.load 41 v5) 41 w46 (fun t71 w47 =>
        X P (.load 116 v7) 116 w47 (fun t72 w48 =>
        X P (.fieldAddr 122 v9 0) 0 w48 (fun t73 w49 =>
        X P (.load 38 t73) 38 w49 (fun t74 w50 =>
        X P (.lookup 116 t72 t74 false) 38 w50 (fun t75 w51 =>
        X P (.fieldAddr 122 v9 1) 0 w51 (fun t76 w52 =>
        X P (.load 38 t76) 38 w52 (fun t77 w53 =>
        X P (.callF 53 #[t71, t75, t77]) 125 w53 (fun t78 w54 =>
        X P (.extract t78 0) 38 w54 (fun t79 w55 =>
        X P (.extract t78 1) 38 w55 (fun t80 w56 =>
        X P (.extract t78 2) 4 w56 (fun t81 w57 =>
        X P (.bin .neq 38 false true t80 (.int .u32 0)) 4 w57 (fun t83 w58 =>
        Cnd t83 (
          X P (.store 53 v4 (.int .i64 71)) 0 w58 (fun _ w59 =>
          R v4 w59) E) (
          N w58)) E) E) E) E) E) E) E) E) E) E) E) E) E) E) E) E) E) E) E)) E) E) E)) E) E) E) E) E) E) E) E) E) E) E) E) E) E) E) E) E) E) E) E) E) E) E) E)))) E))))))))) E) E) E) E)) E) E) E) E) E) E) E
noncomputable def C22_y7 : Code := cY (cB (cR (cL (cR (cR (cR (cR (cR (cR (bodyOf Tryz.f22))))))))))
theorem K22_y7 (g : Env) (w : World) (N : World → Prop) (R : K1) (E : Ev) :
    vcF P Z0 Z0 C22_y7 (QC (fun a w => N w) (fun a w => R (a 4) w) Y0 E) g w = S22_y7 (g 2) (g 4) (g 5) (g 6) (g 7) (g 8) (g 9) w N R E := by kernel_rfl
theorem T22_y7 (hs : a.tmps.size = 184) (N : World → Prop) (R : K1) (E : Ev) (hN : ∀ a' w', Ag (wr C22_y7) a a' → N w' → Q .normal a' w') (hR : ∀ a' w', Ag (wr C22_y7) a a' → R (gt a' 4) w' → Q .ret a' w') (hE : HE Q E)
    (h : S22_y7 (gt a 2) (gt a 4) (gt a 5) (gt a 6) (gt a 7) (gt a 8) (gt a 9) w N R E) : C22_y7.wpIn (Fw r) 0 P (Qs (wr C22_y7) a Q) a w :=
  piece' (HJ := Z0) (HL := Z0) hmix hs (by decide +kernel) (fun a w => N w) (fun a w => R (a 4) w) Y0 E hN hR
    (fun _ _ _ _ h => h.elim) hE
    trivial (Eq.mpr (K22_y7 (gt a) w N R E) h)
def S22_a7 (v2 v4 v5 v6 v7 v8 v35 : Value) (w : World) (N : K7) (E : Ev) : Prop :=
  X P (.alloc 122) 0 w (fun t9 w1 =>
  X P (.store 122 t9 v35) 0 w1 (fun _ w2 =>
  N v2 v4 v5 v6 v7 v8 t9 w2) E) E
noncomputable def C22_a7 : Code := cA (cB (cR (cL (cR (cR (cR (cR (cR (cR (bodyOf Tryz.f22))))))))))
theorem K22_a7 (g : Env) (w : World) (N : K7) (E : Ev) :
    vcF P Z0 Z0 C22_a7 (QC (fun a w => N (a 2) (a 4) (a 5) (a 6) (a 7) (a 8) (a 9) w) (fun _ _ => False) Y0 E) g w = S22_a7 (g 2) (g 4) (g 5) (g 6) (g 7) (g 8) (g 35) w N E := by kernel_rfl
theorem T22_a7 (hs : a.tmps.size = 184) (N : K7) (E : Ev) (hN : ∀ a' w', Ag (wr C22_a7) a a' → N (gt a' 2) (gt a' 4) (gt a' 5) (gt a' 6) (gt a' 7) (gt a' 8) (gt a' 9) w' → Q .normal a' w') (hE : HE Q E)
    (h : S22_a7 (gt a 2) (gt a 4) (gt a 5) (gt a 6) (gt a 7) (gt a 8) (gt a 35) w N E) : C22_a7.wpIn (Fw r) 0 P (Qs (wr C22_a7) a Q) a w :=
  piece' (HJ := Z0) (HL := Z0) hmix hs (by decide +kernel) (fun a w => N (a 2) (a 4) (a 5) (a 6) (a 7) (a 8) (a 9) w) (fun _ _ => False) Y0 E hN (fun _ _ _ h => h.elim)
    (fun _ _ _ _ h => h.elim) hE
    trivial (Eq.mpr (K22_a7 (gt a) w N E) h)
def S22_f7 (v2 v4 v5 v6 v7 v8 v34 : Value) (w : World) (N R : Nat → World → Prop) : Prop :=
  ∃ (gf : Nat) (lb : List Value), v34 = .func (.func gf) (List.toArray []) (List.toArray lb) ∧ CF P gf ∧ ∀ (rec : LoopState → Option Code → Obj), (∀ s p, ∃ r : Loop, rec s p = .loop r) →
  (∀ (v35 v36 : Value) (ty : TypeId) (y : World) (K : K1), y.heap[w.heap.size + 1]? = some (rec .ready none) →
    S22_a7 v2 v4 v5 v6 v7 v8 v35 y (fun x2 x4 x5 x6 x7 x8 x9 y1 => y1.heap[w.heap.size + 1]? = some (rec .ready none) ∧ S22_y7 x2 x4 x5 x6 x7 x8 x9 (setBlk y1 (w.heap.size + 1) (rec .busy none)) (fun y2 => y2.heap[w.heap.size + 1]? = some (rec .busy none) ∧ K (.bool true) (setBlk y2 (w.heap.size + 1) (rec .ready none))) (fun _ y2 => y2.heap[w.heap.size + 1]? = some (rec .busy none) ∧ K (.bool false) (setBlk y2 (w.heap.size + 1) (rec .done (some .ret)))) (fun _ _ => False)) (fun _ _ => False) →
    X P (.callV (.func (.yield (w.heap.size + 1)) #[] #[]) #[v35, v36]) ty y K (fun _ _ => False)) →
  C P gf (List.toArray ([.func (.yield (w.heap.size + 1)) #[] #[]] ++ lb)) ((w.alloc (.deferred (some []))).alloc (rec .ready none))
    (fun _ y => (y.heap[w.heap.size + 1]? = some (rec .ready none) ∧ N w.heap.size (setBlk y (w.heap.size + 1) (rec .exhausted none))) ∨ (y.heap[w.heap.size + 1]? = some (rec .done (some .ret)) ∧ R w.heap.size (setBlk y (w.heap.size + 1) (rec .exhausted (some .ret))))) (fun _ _ => False)
noncomputable def C22_f7 : Code := cB (cR (cL (cR (cR (cR (cR (cR (cR (bodyOf Tryz.f22)))))))))
theorem U22_f7 {Q : Qx} (a : Act) (w : World) (hs : a.tmps.size = 184) (N R : Nat → World → Prop) (hN : ∀ D y, N D y → Q .normal { a with defers := markD D :: a.defers } y) (hR : ∀ D y, R D y → Q .ret { a with defers := markD D :: a.defers } y)
    (h : S22_f7 (gt a 2) (gt a 4) (gt a 5) (gt a 6) (gt a 7) (gt a 8) (gt a 34) w N R) : C22_f7.wpIn (Fw none) 0 P Q a w := by
  obtain ⟨gf, lb, hg, hcf, h⟩ := h
  refine rf_wp (ps := #[35, 36]) (asg := C22_a7) (body := C22_y7) hcf hg fun r e1 e2 e3 e4 e5 e6 => ?_
  have hr : ∀ s p, ({ r with state := s, pending := p } : Loop) = { state := s, pending := p, fn := r.fn, tmps := a.tmps, params := #[35, 36], assign := C22_a7, body := C22_y7, defers := r.defers } := fun s p => by rw [← e1, ← e2, ← e3, ← e4]
  have hrr : Obj.loop r = Obj.loop { r with state := .ready, pending := none } := by rw [← e5, ← e6]
  have hz := h (fun s p => .loop { r with state := s, pending := p }) (fun s p => ⟨_, rfl⟩) fun v35 v36 ty y K hl hh => ?_
  · rw [hrr]
    exact C_mono hz (fun _ y hy => hy.imp (fun x => ⟨x.1, hN _ _ x.2⟩) fun x => ⟨x.1, hR _ _ x.2⟩) fun _ _ x => x
  · refine x_round hl rfl (by simp [e1]) ?_
    simp only [hr, e1, e2, e3, e4] at hh ⊢
    have hA : ((#[35, 36] : Array Tmp).zip #[v35, v36]).foldl (fun t (p, v) => t.setIfInBounds p v) a.tmps = ((a.tmps.setIfInBounds 35 v35).setIfInBounds 36 v36) := by simp
    rw [hA]
    have hsz : ({ tmps := ((a.tmps.setIfInBounds 35 v35).setIfInBounds 36 v36), defers := [] } : Act).tmps.size = 184 := by simp [hs]
    refine wpIn_mono (T22_a7 (Q := Exit.then (fun a1 w1 => w1.heap[w.heap.size + 1]? = some (.loop { state := .ready, pending := none, fn := r.fn, tmps := a.tmps, params := #[35, 36], assign := C22_a7, body := C22_y7, defers := r.defers }) ∧ C22_y7.wpIn (Fw (some (w.heap.size + 1))) 0 P (rdPost (w.heap.size + 1) { state := .ready, pending := none, fn := r.fn, tmps := a.tmps, params := #[35, 36], assign := C22_a7, body := C22_y7, defers := r.defers } K) a1 (setBlk w1 (w.heap.size + 1) (.loop { state := .busy, pending := none, fn := r.fn, tmps := a.tmps, params := #[35, 36], assign := C22_a7, body := C22_y7, defers := r.defers }))) (fun _ _ _ => False)) _ y hsz (fun x2 x4 x5 x6 x7 x8 x9 y1 => y1.heap[w.heap.size + 1]? = some ((.loop { state := .ready, pending := none, fn := r.fn, tmps := a.tmps, params := #[35, 36], assign := C22_a7, body := C22_y7, defers := r.defers })) ∧ S22_y7 x2 x4 x5 x6 x7 x8 x9 (setBlk y1 (w.heap.size + 1) ((.loop { state := .busy, pending := none, fn := r.fn, tmps := a.tmps, params := #[35, 36], assign := C22_a7, body := C22_y7, defers := r.defers }))) (fun y2 => y2.heap[w.heap.size + 1]? = some ((.loop { state := .busy, pending := none, fn := r.fn, tmps := a.tmps, params := #[35, 36], assign := C22_a7, body := C22_y7, defers := r.defers })) ∧ K (.bool true) (setBlk y2 (w.heap.size + 1) ((.loop { state := .ready, pending := none, fn := r.fn, tmps := a.tmps, params := #[35, 36], assign := C22_a7, body := C22_y7, defers := r.defers })))) (fun _ y2 => y2.heap[w.heap.size + 1]? = some ((.loop { state := .busy, pending := none, fn := r.fn, tmps := a.tmps, params := #[35, 36], assign := C22_a7, body := C22_y7, defers := r.defers })) ∧ K (.bool false) (setBlk y2 (w.heap.size + 1) ((.loop { state := .done, pending := (some .ret), fn := r.fn, tmps := a.tmps, params := #[35, 36], assign := C22_a7, body := C22_y7, defers := r.defers })))) (fun _ _ => False)) (fun _ _ => False) (fun a1 w1 hag hx => ⟨hx.1, wpIn_mono (T22_y7 (Q := rdPost (w.heap.size + 1) { state := .ready, pending := none, fn := r.fn, tmps := a.tmps, params := #[35, 36], assign := C22_a7, body := C22_y7, defers := r.defers } K) a1 _ (hag.size.trans hsz) (fun y2 => y2.heap[w.heap.size + 1]? = some ((.loop { state := .busy, pending := none, fn := r.fn, tmps := a.tmps, params := #[35, 36], assign := C22_a7, body := C22_y7, defers := r.defers })) ∧ K (.bool true) (setBlk y2 (w.heap.size + 1) ((.loop { state := .ready, pending := none, fn := r.fn, tmps := a.tmps, params := #[35, 36], assign := C22_a7, body := C22_y7, defers := r.defers })))) (fun _ y2 => y2.heap[w.heap.size + 1]? = some ((.loop { state := .busy, pending := none, fn := r.fn, tmps := a.tmps, params := #[35, 36], assign := C22_a7, body := C22_y7, defers := r.defers })) ∧ K (.bool false) (setBlk y2 (w.heap.size + 1) ((.loop { state := .done, pending := (some .ret), fn := r.fn, tmps := a.tmps, params := #[35, 36], assign := C22_a7, body := C22_y7, defers := r.defers })))) (fun _ _ => False) (fun _ _ _ h => h) (fun _ _ _ h => h) (fun _ _ _ h => h.elim) hx.2) fun e _ _ he => by cases e <;> first | exact he.1 | exact he⟩) (fun _ _ _ h => h.elim) ?_) fun e _ _ he => by cases e <;> first | exact he.1 | exact he
    rw [show gt ({ tmps := ((a.tmps.setIfInBounds 35 v35).setIfInBounds 36 v36), defers := [] } : Act) 2 = (gt a 2) from (by simp [gt, Array.getD_eq_getD_getElem?, Array.getElem?_setIfInBounds])]
    rw [show gt ({ tmps := ((a.tmps.setIfInBounds 35 v35).setIfInBounds 36 v36), defers := [] } : Act) 4 = (gt a 4) from (by simp [gt, Array.getD_eq_getD_getElem?, Array.getElem?_setIfInBounds])]
    rw [show gt ({ tmps := ((a.tmps.setIfInBounds 35 v35).setIfInBounds 36 v36), defers := [] } : Act) 5 = (gt a 5) from (by simp [gt, Array.getD_eq_getD_getElem?, Array.getElem?_setIfInBounds])]
    rw [show gt ({ tmps := ((a.tmps.setIfInBounds 35 v35).setIfInBounds 36 v36), defers := [] } : Act) 6 = (gt a 6) from (by simp [gt, Array.getD_eq_getD_getElem?, Array.getElem?_setIfInBounds])]
    rw [show gt ({ tmps := ((a.tmps.setIfInBounds 35 v35).setIfInBounds 36 v36), defers := [] } : Act) 7 = (gt a 7) from (by simp [gt, Array.getD_eq_getD_getElem?, Array.getElem?_setIfInBounds])]
    rw [show gt ({ tmps := ((a.tmps.setIfInBounds 35 v35).setIfInBounds 36 v36), defers := [] } : Act) 8 = (gt a 8) from (by simp [gt, Array.getD_eq_getD_getElem?, Array.getElem?_setIfInBounds])]
    rw [show gt ({ tmps := ((a.tmps.setIfInBounds 35 v35).setIfInBounds 36 v36), defers := [] } : Act) 35 = v35 from (by simp [gt, Array.getD_eq_getD_getElem?, Array.getElem?_setIfInBounds, hs])]
    exact hh
def S22_s8 (v1 v2 v4 v5 v7 v8 : Value) (w : World) (N : K6) (R : K1) (E : Ev) : Prop :=
  X P (.load 117 v8) 117 w (fun t123 w1 =>
  X P (.callB .len #[117] #[false] #[t123]) 3 w1 (fun t124 w2 =>
  X P (.bin .gtr 3 false true t124 (.int .i64 0)) 4 w2 (fun t125 w3 =>
  XG (some t125) true P (.load 72 v2) 72 w3 (fun t127 w4 =>
  XG (some t125) true P (.nilCheck t127) 0 w4 (fun t128 w5 =>
  XG (some t125) true P (.fieldAddr 111 t128 0) 0 w5 (fun t129 w6 =>
  XG (some t125) true P (.load 69 t129) 69 w6 (fun t130 w7 =>
  XG (some t125) true P (.callF 57 #[t130]) 4 w7 (fun t131 w8 =>
  X P (.pick t125 t131 (.bool false)) 4 w8 (fun t132 w9 =>
  Cnd t132 (
    X P (.store 53 v4 (.int .i64 73)) 0 w9 (fun _ w10 =>
    R v4 w10) E) (
    XQ P (.load 117 v8) 117 (drw w9) (fun t134 =>
    XQ P (.callB .len #[117] #[false] #[t134]) 3 (drw w9) (fun t135 =>
    XQ P (.load 72 v2) 72 (drw w9) (fun t136 =>
    XQ P (.nilCheck t136) 0 (drw w9) (fun t137 =>
    XQ P (.fieldAddr 111 t137 0) 0 (drw w9) (fun t138 =>
    XQ P (.load 69 t138) 69 (drw w9) (fun t139 =>
    (X P (.callF 58 #[t139]) 3 (drw w9) (fun t140 w10 =>
    (XQ P (.callB .len #[117] #[false] #[t134]) 3 w10 (fun v => v = t135)) ∧
    (XQ P (.load 117 v8) 117 w10 (fun v => v = t134)) ∧
    XQ P (.bin .gtr 3 false false t135 t140) 4 w10 (fun t141 =>
    Cnd t141 (
      X P (.store 53 v4 (.int .i64 72)) 0 w10 (fun _ w11 =>
      R v4 w11) E) (
      N v1 v2 v4 v5 v7 v8 w10))) E))))))))) E) E) E) E) E) E) E) E) E
noncomputable def C22_s8 : Code := cL (cR (cR (cR (cR (cR (cR (cR (bodyOf Tryz.f22))))))))
theorem K22_s8 (g : Env) (w : World) (N : K6) (R : K1) (E : Ev) :
    vcF P Z0 Z0 C22_s8 (QC (fun a w => N (a 1) (a 2) (a 4) (a 5) (a 7) (a 8) w) (fun a w => R (a 4) w) Y0 E) g w = S22_s8 (g 1) (g 2) (g 4) (g 5) (g 7) (g 8) w N R E := by kernel_rfl
theorem T22_s8 (hs : a.tmps.size = 184) (N : K6) (R : K1) (E : Ev) (hN : ∀ a' w', Ag (wr C22_s8) a a' → N (gt a' 1) (gt a' 2) (gt a' 4) (gt a' 5) (gt a' 7) (gt a' 8) w' → Q .normal a' w') (hR : ∀ a' w', Ag (wr C22_s8) a a' → R (gt a' 4) w' → Q .ret a' w') (hE : HE Q E)
    (h : S22_s8 (gt a 1) (gt a 2) (gt a 4) (gt a 5) (gt a 7) (gt a 8) w N R E) : C22_s8.wpIn (Fw r) 0 P (Qs (wr C22_s8) a Q) a w :=
  piece' (HJ := Z0) (HL := Z0) hmix hs (by decide +kernel) (fun a w => N (a 1) (a 2) (a 4) (a 5) (a 7) (a 8) w) (fun a w => R (a 4) w) Y0 E hN hR
    (fun _ _ _ _ h => h.elim) hE
    trivial (Eq.mpr (K22_s8 (gt a) w N R E) h)
def S22_b29 (v1 v2 v4 v5 v7 v142 v143 v144 : Value) (w : World) (N : K8) (X4 : K4) (E : Ev) : Prop :=
  X P (.bin .lss 3 false false v144 v143) 0 w (fun t145 w1 =>
  Cnd t145 (
    X P (.indexAddr 117 v142 v144) 0 w1 (fun t146 w2 =>
    X P (.load 38 t146) 38 w2 (fun t147 w3 =>
    XQ P (.load 116 v7) 116 (drw w3) (fun t149 =>
    XQ P (.load 72 v2) 72 (drw w3) (fun t151 =>
    XQ P (.nilCheck t151) 0 (drw w3) (fun t152 =>
    XQ P (.fieldAddr 111 t152 0) 0 (drw w3) (fun t153 =>
    XQ P (.load 69 t153) 69 (drw w3) (fun t154 =>
    (X P (.callF 46 #[t154]) 107 (drw w3) (fun t155 w4 =>
    (XQ P (.load 116 v7) 116 w4 (fun v => v = t149)) ∧
    XQ P (.extract t155 0) 38 w4 (fun t156 =>
    XQ P (.extract t155 1) 53 w4 (fun t157 =>
    (X P (.mapUpdate 116 t149 t147 t156) 0 w4 (fun _ w5 =>
    (XQ P (.extract t155 1) 53 w5 (fun v => v = t157)) ∧
    XQ P (.load 41 v5) 41 (drw w5) (fun t158 =>
    XQ P (.load 72 v2) 72 (drw w5) (fun t159 =>
    XQ P (.nilCheck t159) 0 (drw w5) (fun t160 =>
    XQ P (.fieldAddr 111 t160 1) 0 (drw w5) (fun t161 =>
    XQ P (.load 38 t161) 38 (drw w5) (fun t162 =>
    XQ P (.load 116 v7) 116 (drw w5) (fun t164 =>
    XQ P (.lookup 116 t164 t147 false) 38 (drw w5) (fun t166 =>
    XQ P (.bin .shr 38 false true t166 (.int .u64 12)) 38 (drw w5) (fun t167 =>
    XQ P (.build 129 #[(0, (.int .i64 2)), (2, t167)]) 129 (drw w5) (fun t168 =>
    (X P (.callF 59 #[t158, t162, t147, t168]) 0 (drw w5) (fun t169 w6 =>
    X P (.bin .add 3 false true v144 (.int .i64 1)) 3 w6 (fun t170 w7 =>
    N v1 v2 v4 v5 v7 v142 v143 t170 w7) E) E))))))))))) E)))) E))))))) E) E) (
    X4 v1 v4 v5 v7 w1)) E
noncomputable def C22_b29 : Code := cB (cB (cR (cL (cR (cR (cR (cR (cR (cR (cR (cR (bodyOf Tryz.f22))))))))))))
noncomputable def J22_b29 (N : K8) (X4 : K4) (E : Ev) : Nat → Env → World → Prop := fun i a w => match i with | 4 => X4 (a 1) (a 4) (a 5) (a 7) w | _ => False
theorem K22_b29 (g : Env) (w : World) (N : K8) (X4 : K4) (E : Ev) :
    vcF P Z0 Z0 C22_b29 (QC (fun a w => N (a 1) (a 2) (a 4) (a 5) (a 7) (a 142) (a 143) (a 144) w) (fun _ _ => False) (J22_b29 N X4 E) E) g w = S22_b29 (g 1) (g 2) (g 4) (g 5) (g 7) (g 142) (g 143) (g 144) w N X4 E := by kernel_rfl
theorem T22_b29 (hs : a.tmps.size = 184) (N : K8) (X4 : K4) (E : Ev) (hN : ∀ a' w', Ag (wr C22_b29) a a' → N (gt a' 1) (gt a' 2) (gt a' 4) (gt a' 5) (gt a' 7) (gt a' 142) (gt a' 143) (gt a' 144) w' → Q .normal a' w') (hX4 : ∀ a' w', Ag (wr C22_b29) a a' → X4 (gt a' 1) (gt a' 4) (gt a' 5) (gt a' 7) w' → Q (.exit 4) a' w') (hE : HE Q E)
    (h : S22_b29 (gt a 1) (gt a 2) (gt a 4) (gt a 5) (gt a 7) (gt a 142) (gt a 143) (gt a 144) w N X4 E) : C22_b29.wpIn (Fw r) 0 P (Qs (wr C22_b29) a Q) a w :=
  piece' (HJ := Z0) (HL := Z0) hmix hs (by decide +kernel) (fun a w => N (a 1) (a 2) (a 4) (a 5) (a 7) (a 142) (a 143) (a 144) w) (fun _ _ => False) (J22_b29 N X4 E) E hN (fun _ _ _ h => h.elim)
    (fun i a' w' hag h => by
      unfold J22_b29 at h
      split at h <;> first | exact hX4 _ _ hag h | exact h.elim) hE
    trivial (Eq.mpr (K22_b29 (gt a) w N X4 E) h)
def S22_l29 (v1 v2 v4 v5 v7 v142 v143 v144 : Value) (w : World) (X4 : K4) (E : Ev) : Prop :=
  ∃ (I : K1) (μ : Value → World → Nat), I v144 w ∧ ∀ (v144 : Value) (w : World), I v144 w → S22_b29 v1 v2 v4 v5 v7 v142 v143 v144 w (fun x1 x2 x4 x5 x7 x142 x143 x144 y => I x144 y ∧ μ x144 y < μ v144 w) X4 E
theorem T22_l29 (hs : a.tmps.size = 184) (X4 : K4) (E : Ev) (hX4 : ∀ a' w', Ag (wr (Code.loop C22_b29)) a a' → X4 (gt a' 1) (gt a' 4) (gt a' 5) (gt a' 7) w' → Q (.exit 4) a' w') (hE : HE Q E)
    (h : S22_l29 (gt a 1) (gt a 2) (gt a 4) (gt a 5) (gt a 7) (gt a 142) (gt a 143) (gt a 144) w X4 E) : (Code.loop C22_b29).wpIn (Fw r) 0 P (Qs (wr (Code.loop C22_b29)) a Q) a w := by
  obtain ⟨I, μ, h0, hr⟩ := h
  refine loop_piece (c := C22_b29) (fun a w => I (gt a 144) w) (fun a w => μ (gt a 144) w) h0 fun a' w' hag hI => ?_
  have h' := hr (gt a' 144) w' hI
  rw [← hag.get 1 (by decide +kernel)] at h'
  rw [← hag.get 2 (by decide +kernel)] at h'
  rw [← hag.get 4 (by decide +kernel)] at h'
  rw [← hag.get 5 (by decide +kernel)] at h'
  rw [← hag.get 7 (by decide +kernel)] at h'
  rw [← hag.get 142 (by decide +kernel)] at h'
  rw [← hag.get 143 (by decide +kernel)] at h'
  exact T22_b29 a' w' (hag.size.trans hs) (fun x1 x2 x4 x5 x7 x142 x143 x144 y => I x144 y ∧ μ x144 y < μ (gt a' 144) w') X4 E (fun _ _ _ h => h) (fun a1 w1 hag1 h => hX4 a1 w1 (hag.trans hag1) h) hE h'
def S22_s9 (v1 v2 v4 v5 v7 v8 : Value) (w : World) (N : K4) (E : Ev) : Prop :=
  X P (.load 117 v8) 117 w (fun t142 w1 =>
  X P (.callB .len #[117] #[false] #[t142]) 3 w1 (fun t143 w2 =>
  S22_l29 v1 v2 v4 v5 v7 t142 t143 (.int .i64 0) w2 N E) E) E
noncomputable def C22_s9 : Code := cL (cR (cR (cR (cR (cR (cR (cR (cR (bodyOf Tryz.f22)))))))))
noncomputable def HL22_s9 (N : K4) (E : Ev) : Cut := fun i => match i with | some 29 => some (fun a w => S22_l29 (a 1) (a 2) (a 4) (a 5) (a 7) (a 142) (a 143) (a 144) w N E) | _ => none
theorem K22_s9 (g : Env) (w : World) (N : K4) (E : Ev) :
    vcF P Z0 (HL22_s9 N E) C22_s9 (QC (fun a w => N (a 1) (a 4) (a 5) (a 7) w) (fun _ _ => False) Y0 E) g w = S22_s9 (g 1) (g 2) (g 4) (g 5) (g 7) (g 8) w N E := by kernel_rfl
theorem T22_s9 (hs : a.tmps.size = 184) (N : K4) (E : Ev) (hN : ∀ a' w', Ag (wr C22_s9) a a' → N (gt a' 1) (gt a' 4) (gt a' 5) (gt a' 7) w' → Q .normal a' w') (hE : HE Q E)
    (h : S22_s9 (gt a 1) (gt a 2) (gt a 4) (gt a 5) (gt a 7) (gt a 8) w N E) : C22_s9.wpIn (Fw r) 0 P (Qs (wr C22_s9) a Q) a w :=
  piece' (HJ := Z0) (HL := HL22_s9 N E) hmix hs (by decide +kernel) (fun a w => N (a 1) (a 4) (a 5) (a 7) w) (fun _ _ => False) Y0 E hN (fun _ _ _ h => h.elim)
    (fun _ _ _ _ h => h.elim) hE
    ⟨pay (c := Code.loop C22_b29) (W := wr C22_s9) (h := fun a w => S22_l29 (a 1) (a 2) (a 4) (a 5) (a 7) (a 142) (a 143) (a 144) w N E) (by decide +kernel) fun a w hsz h => T22_l29 a w (hsz.trans hs) N E (fun _ _ _ h => h) (fun _ _ _ h => h) h, trivial⟩ (Eq.mpr (K22_s9 (gt a) w N E) h)
def S22_s10 (v1 v4 v5 v7 : Value) (w : World) (N : K4) (E : Ev) : Prop :=
  X P (.callF 52 #[v1]) 119 w (fun t172 w1 =>
  N v4 v5 v7 t172 w1) E
noncomputable def C22_s10 : Code := cL (cL (cR (cR (cR (cR (cR (cR (cR (cR (cR (bodyOf Tryz.f22)))))))))))
theorem K22_s10 (g : Env) (w : World) (N : K4) (E : Ev) :
    vcF P Z0 Z0 C22_s10 (QC (fun a w => N (a 4) (a 5) (a 7) (a 172) w) (fun _ _ => False) Y0 E) g w = S22_s10 (g 1) (g 4) (g 5) (g 7) w N E := by kernel_rfl
theorem T22_s10 (hs : a.tmps.size = 184) (N : K4) (E : Ev) (hN : ∀ a' w', Ag (wr C22_s10) a a' → N (gt a' 4) (gt a' 5) (gt a' 7) (gt a' 172) w' → Q .normal a' w') (hE : HE Q E)
    (h : S22_s10 (gt a 1) (gt a 4) (gt a 5) (gt a 7) w N E) : C22_s10.wpIn (Fw r) 0 P (Qs (wr C22_s10) a Q) a w :=
  piece' (HJ := Z0) (HL := Z0) hmix hs (by decide +kernel) (fun a w => N (a 4) (a 5) (a 7) (a 172) w) (fun _ _ => False) Y0 E hN (fun _ _ _ h => h.elim)
    (fun _ _ _ _ h => h.elim) hE
    trivial (Eq.mpr (K22_s10 (gt a) w N E) h)
def S22_y11 (v5 v7 v22 v23 : Value) (w : World) (N : World → Prop) (E : Ev) : Prop :=
  X P (.load 41 v5) 41 w (fun t175 w1 =>
  X P (.load 116 v7) 116 w1 (fun t176 w2 =>
  X P (.fieldAddr 122 v22 0) 0 w2 (fun t177 w3 =>
  X P (.load 38 t177) 38 w3 (fun t178 w4 =>
  X P (.lookup 116 t176 t178 false) 38 w4 (fun t179 w5 =>
  X P (.fieldAddr 122 v22 1) 0 w5 (fun t180 w6 =>
  X P (.load 38 t180) 38 w6 (fun t181 w7 =>
  X P (.load 129 v23) 129 w7 (fun t182 w8 =>
  X P (.callF 59 #[t175, t179, t181, t182]) 0 w8 (fun t183 w9 =>
  N w9) E) E) E) E) E) E) E) E) E
noncomputable def C22_y11 : Code := cY (cB (cR (cL (cR (cR (cR (cR (cR (cR (cR (cR (cR (bodyOf Tryz.f22)))))))))))))
theorem K22_y11 (g : Env) (w : World) (N : World → Prop) (E : Ev) :
    vcF P Z0 Z0 C22_y11 (QC (fun a w => N w) (fun _ _ => False) Y0 E) g w = S22_y11 (g 5) (g 7) (g 22) (g 23) w N E := by kernel_rfl
theorem T22_y11 (hs : a.tmps.size = 184) (N : World → Prop) (E : Ev) (hN : ∀ a' w', Ag (wr C22_y11) a a' → N w' → Q .normal a' w') (hE : HE Q E)
    (h : S22_y11 (gt a 5) (gt a 7) (gt a 22) (gt a 23) w N E) : C22_y11.wpIn (Fw r) 0 P (Qs (wr C22_y11) a Q) a w :=
  piece' (HJ := Z0) (HL := Z0) hmix hs (by decide +kernel) (fun a w => N w) (fun _ _ => False) Y0 E hN (fun _ _ _ h => h.elim)
    (fun _ _ _ _ h => h.elim) hE
    trivial (Eq.mpr (K22_y11 (gt a) w N E) h)
def S22_a11 (v5 v7 v173 v174 : Value) (w : World) (N : K4) (E : Ev) : Prop :=
  X P (.alloc 122) 0 w (fun t22 w1 =>
  X P (.store 122 t22 v173) 0 w1 (fun _ w2 =>
  X P (.alloc 129) 0 w2 (fun t23 w3 =>
  X P (.store 129 t23 v174) 0 w3 (fun _ w4 =>
  N v5 v7 t22 t23 w4) E) E) E) E
noncomputable def C22_a11 : Code := cA (cB (cR (cL (cR (cR (cR (cR (cR (cR (cR (cR (cR (bodyOf Tryz.f22)))))))))))))
theorem K22_a11 (g : Env) (w : World) (N : K4) (E : Ev) :
    vcF P Z0 Z0 C22_a11 (QC (fun a w => N (a 5) (a 7) (a 22) (a 23) w) (fun _ _ => False) Y0 E) g w = S22_a11 (g 5) (g 7) (g 173) (g 174) w N E := by kernel_rfl
theorem T22_a11 (hs : a.tmps.size = 184) (N : K4) (E : Ev) (hN : ∀ a' w', Ag (wr C22_a11) a a' → N (gt a' 5) (gt a' 7) (gt a' 22) (gt a' 23) w' → Q .normal a' w') (hE : HE Q E)
    (h : S22_a11 (gt a 5) (gt a 7) (gt a 173) (gt a 174) w N E) : C22_a11.wpIn (Fw r) 0 P (Qs (wr C22_a11) a Q) a w :=
  piece' (HJ := Z0) (HL := Z0) hmix hs (by decide +kernel) (fun a w => N (a 5) (a 7) (a 22) (a 23) w) (fun _ _ => False) Y0 E hN (fun _ _ _ h => h.elim)
    (fun _ _ _ _ h => h.elim) hE
    trivial (Eq.mpr (K22_a11 (gt a) w N E) h)
def S22_f11 (v5 v7 v172 : Value) (w : World) (N R : Nat → World → Prop) : Prop :=
  ∃ (gf : Nat) (lb : List Value), v172 = .func (.func gf) (List.toArray []) (List.toArray lb) ∧ CF P gf ∧ ∀ (rec : LoopState → Option Code → Obj), (∀ s p, ∃ r : Loop, rec s p = .loop r) →
  (∀ (v173 v174 : Value) (ty : TypeId) (y : World) (K : K1), y.heap[w.heap.size + 1]? = some (rec .ready none) →
    S22_a11 v5 v7 v173 v174 y (fun x5 x7 x22 x23 y1 => y1.heap[w.heap.size + 1]? = some (rec .ready none) ∧ S22_y11 x5 x7 x22 x23 (setBlk y1 (w.heap.size + 1) (rec .busy none)) (fun y2 => y2.heap[w.heap.size + 1]? = some (rec .busy none) ∧ K (.bool true) (setBlk y2 (w.heap.size + 1) (rec .ready none))) (fun _ _ => False)) (fun _ _ => False) →
    X P (.callV (.func (.yield (w.heap.size + 1)) #[] #[]) #[v173, v174]) ty y K (fun _ _ => False)) →
  C P gf (List.toArray ([.func (.yield (w.heap.size + 1)) #[] #[]] ++ lb)) ((w.alloc (.deferred (some []))).alloc (rec .ready none))
    (fun _ y => (y.heap[w.heap.size + 1]? = some (rec .ready none) ∧ N w.heap.size (setBlk y (w.heap.size + 1) (rec .exhausted none))) ∨ (y.heap[w.heap.size + 1]? = some (rec .done (some .ret)) ∧ R w.heap.size (setBlk y (w.heap.size + 1) (rec .exhausted (some .ret))))) (fun _ _ => False)
noncomputable def C22_f11 : Code := cB (cR (cL (cR (cR (cR (cR (cR (cR (cR (cR (cR (bodyOf Tryz.f22))))))))))))
theorem U22_f11 {Q : Qx} (a : Act) (w : World) (hs : a.tmps.size = 184) (N R : Nat → World → Prop) (hN : ∀ D y, N D y → Q .normal { a with defers := markD D :: a.defers } y) (hR : ∀ D y, R D y → Q .ret { a with defers := markD D :: a.defers } y)
    (h : S22_f11 (gt a 5) (gt a 7) (gt a 172) w N R) : C22_f11.wpIn (Fw none) 0 P Q a w := by
  obtain ⟨gf, lb, hg, hcf, h⟩ := h
  refine rf_wp (ps := #[173, 174]) (asg := C22_a11) (body := C22_y11) hcf hg fun r e1 e2 e3 e4 e5 e6 => ?_
  have hr : ∀ s p, ({ r with state := s, pending := p } : Loop) = { state := s, pending := p, fn := r.fn, tmps := a.tmps, params := #[173, 174], assign := C22_a11, body := C22_y11, defers := r.defers } := fun s p => by rw [← e1, ← e2, ← e3, ← e4]
  have hrr : Obj.loop r = Obj.loop { r with state := .ready, pending := none } := by rw [← e5, ← e6]
  have hz := h (fun s p => .loop { r with state := s, pending := p }) (fun s p => ⟨_, rfl⟩) fun v173 v174 ty y K hl hh => ?_
  · rw [hrr]
    exact C_mono hz (fun _ y hy => hy.imp (fun x => ⟨x.1, hN _ _ x.2⟩) fun x => ⟨x.1, hR _ _ x.2⟩) fun _ _ x => x
  · refine x_round hl rfl (by simp [e1]) ?_
    simp only [hr, e1, e2, e3, e4] at hh ⊢
    have hA : ((#[173, 174] : Array Tmp).zip #[v173, v174]).foldl (fun t (p, v) => t.setIfInBounds p v) a.tmps = ((a.tmps.setIfInBounds 173 v173).setIfInBounds 174 v174) := by simp
    rw [hA]
    have hsz : ({ tmps := ((a.tmps.setIfInBounds 173 v173).setIfInBounds 174 v174), defers := [] } : Act).tmps.size = 184 := by simp [hs]
    refine wpIn_mono (T22_a11 (Q := Exit.then (fun a1 w1 => w1.heap[w.heap.size + 1]? = some (.loop { state := .ready, pending := none, fn := r.fn, tmps := a.tmps, params := #[173, 174], assign := C22_a11, body := C22_y11, defers := r.defers }) ∧ C22_y11.wpIn (Fw (some (w.heap.size + 1))) 0 P (rdPost (w.heap.size + 1) { state := .ready, pending := none, fn := r.fn, tmps := a.tmps, params := #[173, 174], assign := C22_a11, body := C22_y11, defers := r.defers } K) a1 (setBlk w1 (w.heap.size + 1) (.loop { state := .busy, pending := none, fn := r.fn, tmps := a.tmps, params := #[173, 174], assign := C22_a11, body := C22_y11, defers := r.defers }))) (fun _ _ _ => False)) _ y hsz (fun x5 x7 x22 x23 y1 => y1.heap[w.heap.size + 1]? = some ((.loop { state := .ready, pending := none, fn := r.fn, tmps := a.tmps, params := #[173, 174], assign := C22_a11, body := C22_y11, defers := r.defers })) ∧ S22_y11 x5 x7 x22 x23 (setBlk y1 (w.heap.size + 1) ((.loop { state := .busy, pending := none, fn := r.fn, tmps := a.tmps, params := #[173, 174], assign := C22_a11, body := C22_y11, defers := r.defers }))) (fun y2 => y2.heap[w.heap.size + 1]? = some ((.loop { state := .busy, pending := none, fn := r.fn, tmps := a.tmps, params := #[173, 174], assign := C22_a11, body := C22_y11, defers := r.defers })) ∧ K (.bool true) (setBlk y2 (w.heap.size + 1) ((.loop { state := .ready, pending := none, fn := r.fn, tmps := a.tmps, params := #[173, 174], assign := C22_a11, body := C22_y11, defers := r.defers })))) (fun _ _ => False)) (fun _ _ => False) (fun a1 w1 hag hx => ⟨hx.1, wpIn_mono (T22_y11 (Q := rdPost (w.heap.size + 1) { state := .ready, pending := none, fn := r.fn, tmps := a.tmps, params := #[173, 174], assign := C22_a11, body := C22_y11, defers := r.defers } K) a1 _ (hag.size.trans hsz) (fun y2 => y2.heap[w.heap.size + 1]? = some ((.loop { state := .busy, pending := none, fn := r.fn, tmps := a.tmps, params := #[173, 174], assign := C22_a11, body := C22_y11, defers := r.defers })) ∧ K (.bool true) (setBlk y2 (w.heap.size + 1) ((.loop { state := .ready, pending := none, fn := r.fn, tmps := a.tmps, params := #[173, 174], assign := C22_a11, body := C22_y11, defers := r.defers })))) (fun _ _ => False) (fun _ _ _ h => h) (fun _ _ _ h => h.elim) hx.2) fun e _ _ he => by cases e <;> first | exact he.1 | exact he⟩) (fun _ _ _ h => h.elim) ?_) fun e _ _ he => by cases e <;> first | exact he.1 | exact he
    rw [show gt ({ tmps := ((a.tmps.setIfInBounds 173 v173).setIfInBounds 174 v174), defers := [] } : Act) 5 = (gt a 5) from (by simp [gt, Array.getD_eq_getD_getElem?, Array.getElem?_setIfInBounds])]
    rw [show gt ({ tmps := ((a.tmps.setIfInBounds 173 v173).setIfInBounds 174 v174), defers := [] } : Act) 7 = (gt a 7) from (by simp [gt, Array.getD_eq_getD_getElem?, Array.getElem?_setIfInBounds])]
    rw [show gt ({ tmps := ((a.tmps.setIfInBounds 173 v173).setIfInBounds 174 v174), defers := [] } : Act) 173 = v173 from (by simp [gt, Array.getD_eq_getD_getElem?, Array.getElem?_setIfInBounds, hs])]
    rw [show gt ({ tmps := ((a.tmps.setIfInBounds 173 v173).setIfInBounds 174 v174), defers := [] } : Act) 174 = v174 from (by simp [gt, Array.getD_eq_getD_getElem?, Array.getElem?_setIfInBounds, hs])]
    exact hh
def S22_s12 (v4 : Value) (w : World) (N : K1) (E : Ev) : Prop :=
  X P (.store 53 v4 (.int .i64 0)) 0 w (fun _ w1 =>
  N v4 w1) E
noncomputable def C22_s12 : Code := cL (cR (cR (cR (cR (cR (cR (cR (cR (cR (cR (bodyOf Tryz.f22)))))))))))
theorem K22_s12 (g : Env) (w : World) (N : K1) (E : Ev) :
    vcF P Z0 Z0 C22_s12 (QC (fun a w => N (a 4) w) (fun _ _ => False) Y0 E) g w = S22_s12 (g 4) w N E := by kernel_rfl
theorem T22_s12 (hs : a.tmps.size = 184) (N : K1) (E : Ev) (hN : ∀ a' w', Ag (wr C22_s12) a a' → N (gt a' 4) w' → Q .normal a' w') (hE : HE Q E)
    (h : S22_s12 (gt a 4) w N E) : C22_s12.wpIn (Fw r) 0 P (Qs (wr C22_s12) a Q) a w :=
  piece' (HJ := Z0) (HL := Z0) hmix hs (by decide +kernel) (fun a w => N (a 4) w) (fun _ _ => False) Y0 E hN (fun _ _ _ h => h.elim)
    (fun _ _ _ _ h => h.elim) hE
    trivial (Eq.mpr (K22_s12 (gt a) w N E) h)
def R22_13 (v4 : Value) (ds : List Nat) (w : World) (R : K1) : Prop := (fun x4 y => XM ds y fun y => XRes P [(x4, some 53)] y R) v4 w
def R22_12 (v4 : Value) (ds : List Nat) (w : World) (R : K1) : Prop :=
  S22_s12 v4 w (fun x4 y => R22_13 x4 ds y R) (fun _ _ => False)
def R22_11 (v4 v5 v7 v172 : Value) (ds : List Nat) (w : World) (R : K1) : Prop :=
  S22_f11 v5 v7 v172 w (fun D y => R22_12 v4 (D :: ds) y R) (fun D y => (fun x4 y => XM (D :: ds) y fun y => XRes P [(x4, some 53)] y R) v4 y)
def R22_10 (v1 v4 v5 v7 : Value) (ds : List Nat) (w : World) (R : K1) : Prop :=
  S22_s10 v1 v4 v5 v7 w (fun x4 x5 x7 x172 y => R22_11 x4 x5 x7 x172 ds y R) (fun _ _ => False)
def R22_9 (v1 v2 v4 v5 v7 v8 : Value) (ds : List Nat) (w : World) (R : K1) : Prop :=
  S22_s9 v1 v2 v4 v5 v7 v8 w (fun x1 x4 x5 x7 y => R22_10 x1 x4 x5 x7 ds y R) (fun _ _ => False)
def R22_8 (v1 v2 v4 v5 v7 v8 : Value) (ds : List Nat) (w : World) (R : K1) : Prop :=
  S22_s8 v1 v2 v4 v5 v7 v8 w (fun x1 x2 x4 x5 x7 x8 y => R22_9 x1 x2 x4 x5 x7 x8 ds y R) (fun x4 y => XM ds y fun y => XRes P [(x4, some 53)] y R) (fun _ _ => False)
def R22_7 (v1 v2 v4 v5 v6 v7 v8 v34 : Value) (ds : List Nat) (w : World) (R : K1) : Prop :=
  S22_f7 v2 v4 v5 v6 v7 v8 v34 w (fun D y => R22_8 v1 v2 v4 v5 v7 v8 (D :: ds) y R) (fun D y => (fun x4 y => XM (D :: ds) y fun y => XRes P [(x4, some 53)] y R) v4 y)
def R22_6 (v1 v2 v4 v5 v6 v7 v8 : Value) (ds : List Nat) (w : World) (R : K1) : Prop :=
  S22_s6 v1 v2 v4 v5 v6 v7 v8 w (fun x1 x2 x4 x5 x6 x7 x8 x34 y => R22_7 x1 x2 x4 x5 x6 x7 x8 x34 ds y R) (fun _ _ => False)
def R22_5 (v1 v2 v4 v5 v6 v7 : Value) (ds : List Nat) (w : World) (R : K1) : Prop :=
  S22_s5 v1 v2 v4 v5 v6 v7 w (fun x1 x2 x4 x5 x6 x7 x8 y => R22_6 x1 x2 x4 x5 x6 x7 x8 ds y R) (fun _ _ => False)
def R22_4 (v1 v2 v4 v5 v6 : Value) (ds : List Nat) (w : World) (R : K1) : Prop :=
  S22_s4 v1 v2 v4 v5 v6 w (fun x1 x2 x4 x5 x6 x7 y => R22_5 x1 x2 x4 x5 x6 x7 ds y R) (fun _ _ => False)
def R22_3 (v1 v2 v4 v5 : Value) (ds : List Nat) (w : World) (R : K1) : Prop :=
  S22_s3 v1 v2 v4 v5 w (fun x1 x2 x4 x5 x6 y => R22_4 x1 x2 x4 x5 x6 ds y R) (fun _ _ => False)
def R22_2 (v1 v2 v4 : Value) (ds : List Nat) (w : World) (R : K1) : Prop :=
  S22_s2 v1 v2 v4 w (fun x1 x2 x4 x5 y => R22_3 x1 x2 x4 x5 ds y R) (fun _ _ => False)
def R22_1 (v1 v2 v4 : Value) (ds : List Nat) (w : World) (R : K1) : Prop :=
  S22_s1 v1 v2 v4 w (fun x1 x2 x4 y => R22_2 x1 x2 x4 ds y R) (fun x4 y => XM ds y fun y => XRes P [(x4, some 53)] y R) (fun _ _ => False)
def R22_0 (v0 v1 : Value) (ds : List Nat) (w : World) (R : K1) : Prop :=
  S22_s0 v0 v1 w (fun x1 x2 x4 y => R22_1 x1 x2 x4 ds y R) (fun _ _ => False)
theorem G22_13 (a : Act) (w : World) (ds : List Nat) (hs : a.tmps.size = 184) (hd : a.defers = ds.map markD) (R : K1) (h : R22_13 (gt a 4) ds w R) : (cR (cR (cR (cR (cR (cR (cR (cR (cR (cR (cR (bodyOf Tryz.f22)))))))))))).wpIn (Fw none) 0 P (QM P Tryz.f22 R) a w :=
  wpIn_ret ⟨ds, hd, h⟩
theorem G22_12 (a : Act) (w : World) (ds : List Nat) (hs : a.tmps.size = 184) (hd : a.defers = ds.map markD) (R : K1) (h : R22_12 (gt a 4) ds w R) : (cR (cR (cR (cR (cR (cR (cR (cR (cR (cR (bodyOf Tryz.f22))))))))))).wpIn (Fw none) 0 P (QM P Tryz.f22 R) a w :=
  seg (T22_s12 (Q := Exit.then ((cR (cR (cR (cR (cR (cR (cR (cR (cR (cR (cR (bodyOf Tryz.f22)))))))))))).wpIn (Fw none) 0 P (QM P Tryz.f22 R)) (QM P Tryz.f22 R)) a w hs _ (fun _ _ => False) (fun a' w' hag hx => G22_13 a' w' ds (hag.size.trans hs) (hag.defers.trans hd) R hx) (fun _ _ _ h => h.elim) h)
theorem G22_11 (a : Act) (w : World) (ds : List Nat) (hs : a.tmps.size = 184) (hd : a.defers = ds.map markD) (R : K1) (h : R22_11 (gt a 4) (gt a 5) (gt a 7) (gt a 172) ds w R) : (cR (cL (cR (cR (cR (cR (cR (cR (cR (cR (cR (bodyOf Tryz.f22)))))))))))).wpIn (Fw none) 0 P (Exit.then ((cR (cR (cR (cR (cR (cR (cR (cR (cR (cR (bodyOf Tryz.f22))))))))))).wpIn (Fw none) 0 P (QM P Tryz.f22 R)) (QM P Tryz.f22 R)) a w :=
  wpIn_block (U22_f11 (Q := Exit.inBlock 6 (Exit.then ((cR (cR (cR (cR (cR (cR (cR (cR (cR (cR (bodyOf Tryz.f22))))))))))).wpIn (Fw none) 0 P (QM P Tryz.f22 R)) (QM P Tryz.f22 R))) a w hs _ _ (fun D y hy => G22_12 { a with defers := markD D :: a.defers } y (D :: ds) hs (by simp [hd]) R hy) (fun D y hy => ⟨D :: ds, by simp [hd], hy⟩) h)
theorem G22_10 (a : Act) (w : World) (ds : List Nat) (hs : a.tmps.size = 184) (hd : a.defers = ds.map markD) (R : K1) (h : R22_10 (gt a 1) (gt a 4) (gt a 5) (gt a 7) ds w R) : (cR (cR (cR (cR (cR (cR (cR (cR (cR (bodyOf Tryz.f22)))))))))).wpIn (Fw none) 0 P (QM P Tryz.f22 R) a w :=
  wpIn_seq (seg (T22_s10 (Q := Exit.then ((cR (cL (cR (cR (cR (cR (cR (cR (cR (cR (cR (bodyOf Tryz.f22)))))))))))).wpIn (Fw none) 0 P (Exit.then ((cR (cR (cR (cR (cR (cR (cR (cR (cR (cR (bodyOf Tryz.f22))))))))))).wpIn (Fw none) 0 P (QM P Tryz.f22 R)) (QM P Tryz.f22 R))) (Exit.then ((cR (cR (cR (cR (cR (cR (cR (cR (cR (cR (bodyOf Tryz.f22))))))))))).wpIn (Fw none) 0 P (QM P Tryz.f22 R)) (QM P Tryz.f22 R))) a w hs _ (fun _ _ => False) (fun a' w' hag hx => G22_11 a' w' ds (hag.size.trans hs) (hag.defers.trans hd) R hx) (fun _ _ _ h => h.elim) h))
theorem G22_9 (a : Act) (w : World) (ds : List Nat) (hs : a.tmps.size = 184) (hd : a.defers = ds.map markD) (R : K1) (h : R22_9 (gt a 1) (gt a 2) (gt a 4) (gt a 5) (gt a 7) (gt a 8) ds w R) : (cR (cR (cR (cR (cR (cR (cR (cR (bodyOf Tryz.f22))))))))).wpIn (Fw none) 0 P (QM P Tryz.f22 R) a w :=
  seg (T22_s9 (Q := Exit.then ((cR (cR (cR (cR (cR (cR (cR (cR (cR (bodyOf Tryz.f22)))))))))).wpIn (Fw none) 0 P (QM P Tryz.f22 R)) (QM P Tryz.f22 R)) a w hs _ (fun _ _ => False) (fun a' w' hag hx => G22_10 a' w' ds (hag.size.trans hs) (hag.defers.trans hd) R hx) (fun _ _ _ h => h.elim) h)
theorem G22_8 (a : Act) (w : World) (ds : List Nat) (hs : a.tmps.size = 184) (hd : a.defers = ds.map markD) (R : K1) (h : R22_8 (gt a 1) (gt a 2) (gt a 4) (gt a 5) (gt a 7) (gt a 8) ds w R) : (cR (cR (cR (cR (cR (cR (cR (bodyOf Tryz.f22)))))))).wpIn (Fw none) 0 P (QM P Tryz.f22 R) a w :=
  seg (T22_s8 (Q := Exit.then ((cR (cR (cR (cR (cR (cR (cR (cR (bodyOf Tryz.f22))))))))).wpIn (Fw none) 0 P (QM P Tryz.f22 R)) (QM P Tryz.f22 R)) a w hs _ _ (fun _ _ => False) (fun a' w' hag hx => G22_9 a' w' ds (hag.size.trans hs) (hag.defers.trans hd) R hx) (fun a' w' hag hx => ⟨ds, hag.defers.trans hd, hx⟩) (fun _ _ _ h => h.elim) h)
theorem G22_7 (a : Act) (w : World) (ds : List Nat) (hs : a.tmps.size = 184) (hd : a.defers = ds.map markD) (R : K1) (h : R22_7 (gt a 1) (gt a 2) (gt a 4) (gt a 5) (gt a 6) (gt a 7) (gt a 8) (gt a 34) ds w R) : (cR (cL (cR (cR (cR (cR (cR (cR (bodyOf Tryz.f22))))))))).wpIn (Fw none) 0 P (Exit.then ((cR (cR (cR (cR (cR (cR (cR (bodyOf Tryz.f22)))))))).wpIn (Fw none) 0 P (QM P Tryz.f22 R)) (QM P Tryz.f22 R)) a w :=
  wpIn_block (U22_f7 (Q := Exit.inBlock 0 (Exit.then ((cR (cR (cR (cR (cR (cR (cR (bodyOf Tryz.f22)))))))).wpIn (Fw none) 0 P (QM P Tryz.f22 R)) (QM P Tryz.f22 R))) a w hs _ _ (fun D y hy => G22_8 { a with defers := markD D :: a.defers } y (D :: ds) hs (by simp [hd]) R hy) (fun D y hy => ⟨D :: ds, by simp [hd], hy⟩) h)
theorem G22_6 (a : Act) (w : World) (ds : List Nat) (hs : a.tmps.size = 184) (hd : a.defers = ds.map markD) (R : K1) (h : R22_6 (gt a 1) (gt a 2) (gt a 4) (gt a 5) (gt a 6) (gt a 7) (gt a 8) ds w R) : (cR (cR (cR (cR (cR (cR (bodyOf Tryz.f22))))))).wpIn (Fw none) 0 P (QM P Tryz.f22 R) a w :=
  wpIn_seq (seg (T22_s6 (Q := Exit.then ((cR (cL (cR (cR (cR (cR (cR (cR (bodyOf Tryz.f22))))))))).wpIn (Fw none) 0 P (Exit.then ((cR (cR (cR (cR (cR (cR (cR (bodyOf Tryz.f22)))))))).wpIn (Fw none) 0 P (QM P Tryz.f22 R)) (QM P Tryz.f22 R))) (Exit.then ((cR (cR (cR (cR (cR (cR (cR (bodyOf Tryz.f22)))))))).wpIn (Fw none) 0 P (QM P Tryz.f22 R)) (QM P Tryz.f22 R))) a w hs _ (fun _ _ => False) (fun a' w' hag hx => G22_7 a' w' ds (hag.size.trans hs) (hag.defers.trans hd) R hx) (fun _ _ _ h => h.elim) h))
theorem G22_5 (a : Act) (w : World) (ds : List Nat) (hs : a.tmps.size = 184) (hd : a.defers = ds.map markD) (R : K1) (h : R22_5 (gt a 1) (gt a 2) (gt a 4) (gt a 5) (gt a 6) (gt a 7) ds w R) : (cR (cR (cR (cR (cR (bodyOf Tryz.f22)))))).wpIn (Fw none) 0 P (QM P Tryz.f22 R) a w :=
  seg (T22_s5 (Q := Exit.then ((cR (cR (cR (cR (cR (cR (bodyOf Tryz.f22))))))).wpIn (Fw none) 0 P (QM P Tryz.f22 R)) (QM P Tryz.f22 R)) a w hs _ (fun _ _ => False) (fun a' w' hag hx => G22_6 a' w' ds (hag.size.trans hs) (hag.defers.trans hd) R hx) (fun _ _ _ h => h.elim) h)
theorem G22_4 (a : Act) (w : World) (ds : List Nat) (hs : a.tmps.size = 184) (hd : a.defers = ds.map markD) (R : K1) (h : R22_4 (gt a 1) (gt a 2) (gt a 4) (gt a 5) (gt a 6) ds w R) : (cR (cR (cR (cR (bodyOf Tryz.f22))))).wpIn (Fw none) 0 P (QM P Tryz.f22 R) a w :=
  seg (T22_s4 (Q := Exit.then ((cR (cR (cR (cR (cR (bodyOf Tryz.f22)))))).wpIn (Fw none) 0 P (QM P Tryz.f22 R)) (QM P Tryz.f22 R)) a w hs _ (fun _ _ => False) (fun a' w' hag hx => G22_5 a' w' ds (hag.size.trans hs) (hag.defers.trans hd) R hx) (fun _ _ _ h => h.elim) h)
theorem G22_3 (a : Act) (w : World) (ds : List Nat) (hs : a.tmps.size = 184) (hd : a.defers = ds.map markD) (R : K1) (h : R22_3 (gt a 1) (gt a 2) (gt a 4) (gt a 5) ds w R) : (cR (cR (cR (bodyOf Tryz.f22)))).wpIn (Fw none) 0 P (QM P Tryz.f22 R) a w :=
  seg (T22_s3 (Q := Exit.then ((cR (cR (cR (cR (bodyOf Tryz.f22))))).wpIn (Fw none) 0 P (QM P Tryz.f22 R)) (QM P Tryz.f22 R)) a w hs _ (fun _ _ => False) (fun a' w' hag hx => G22_4 a' w' ds (hag.size.trans hs) (hag.defers.trans hd) R hx) (fun _ _ _ h => h.elim) h)
theorem G22_2 (a : Act) (w : World) (ds : List Nat) (hs : a.tmps.size = 184) (hd : a.defers = ds.map markD) (R : K1) (h : R22_2 (gt a 1) (gt a 2) (gt a 4) ds w R) : (cR (cR (bodyOf Tryz.f22))).wpIn (Fw none) 0 P (QM P Tryz.f22 R) a w :=
  seg (T22_s2 (Q := Exit.then ((cR (cR (cR (bodyOf Tryz.f22)))).wpIn (Fw none) 0 P (QM P Tryz.f22 R)) (QM P Tryz.f22 R)) a w hs _ (fun _ _ => False) (fun a' w' hag hx => G22_3 a' w' ds (hag.size.trans hs) (hag.defers.trans hd) R hx) (fun _ _ _ h => h.elim) h)
theorem G22_1 (a : Act) (w : World) (ds : List Nat) (hs : a.tmps.size = 184) (hd : a.defers = ds.map markD) (R : K1) (h : R22_1 (gt a 1) (gt a 2) (gt a 4) ds w R) : (cR (bodyOf Tryz.f22)).wpIn (Fw none) 0 P (QM P Tryz.f22 R) a w :=
  seg (T22_s1 (Q := Exit.then ((cR (cR (bodyOf Tryz.f22))).wpIn (Fw none) 0 P (QM P Tryz.f22 R)) (QM P Tryz.f22 R)) a w hs _ _ (fun _ _ => False) (fun a' w' hag hx => G22_2 a' w' ds (hag.size.trans hs) (hag.defers.trans hd) R hx) (fun a' w' hag hx => ⟨ds, hag.defers.trans hd, hx⟩) (fun _ _ _ h => h.elim) h)
theorem G22_0 (a : Act) (w : World) (ds : List Nat) (hs : a.tmps.size = 184) (hd : a.defers = ds.map markD) (R : K1) (h : R22_0 (gt a 0) (gt a 1) ds w R) : (bodyOf Tryz.f22).wpIn (Fw none) 0 P (QM P Tryz.f22 R) a w :=
  seg (T22_s0 (Q := Exit.then ((cR (bodyOf Tryz.f22)).wpIn (Fw none) 0 P (QM P Tryz.f22 R)) (QM P Tryz.f22 R)) a w hs _ (fun _ _ => False) (fun a' w' hag hx => G22_1 a' w' ds (hag.size.trans hs) (hag.defers.trans hd) R hx) (fun _ _ _ h => h.elim) h)
theorem F22 (a0 a1 : Value) (w : World) (R : K1) (E : Ev) (h : R22_0 a0 a1 [] w R) : C P 22 #[a0, a1] w R E := by
  have e : R22_0 (gt (A0 Tryz.f22.ntmps #[a0, a1]) 0) (gt (A0 Tryz.f22.ntmps #[a0, a1]) 1) [] w R = R22_0 a0 a1 [] w R := by kernel_rfl
  exact C_of_marks (c := bodyOf Tryz.f22) Tryz.func22 (by kernel_rfl) (G22_0 (A0 Tryz.f22.ntmps #[a0, a1]) w [] (by kernel_rfl) rfl R (Eq.mpr e h))
end Go.Eng
namespace Go.Eng
open Go.Proofs
variable {w : World} {K : Value → World → Prop} {E : List PanicEntry → World → Prop}
abbrev ptr (b : Nat) : Value := .pointer (some ⟨b, 0, none⟩)
theorem place_c {m mb : Nat} {n at_ len : Int} {fz : Nat × Nat} (hm : w.heap[m]? = some (.cells #[.int .i64 n, .map (some mb)] 157 fz)) (hn : 0 ≤ n ∧ n ≤ 4096) (ha : 0 ≤ at_ ∧ at_ < 4294967296)
   (hl : -9223372036854775808 ≤ len ∧ len ≤ 9223372036854775807)
   (h0 : len < 0 → K (.int .i64 20) w) (h1 : 0 ≤ len → n * 4096 < at_ + len → K (.int .i64 22) w) (h2 : 0 ≤ len → at_ + len ≤ n * 4096 → K (.int .i64 0) w) :
   C P 35 #[ptr m, .int .u32 at_, .int .i64 len] w K E := by
  apply F35
  unfold S35_0
  with_reducible refine x_nil ?_; refine x_field0 ?_; refine x_load1 ‹_› at_0 ?_; refine x_mulN (by rw [IntKind.wrap_i64]; omega) ?_
  refine x_lss (fun hc => ?_) (fun hc => ?_)
  with_reducible refine Cnd.yes ?_
  rotate_left
  with_reducible refine Cnd.no ?_
  refine x_gtr (fun hc => ?_) (fun hc => ?_)
  with_reducible refine XG.no (by decide) ?_; refine XG.no (by decide) ?_; refine XG.no (by decide) ?_; refine XG.no (by decide) ?_; refine XG.no (by decide) ?_; refine XG.no (by decide) ?_; refine x_pickT ?_; refine Cnd.yes ?_
  rotate_left
  with_reducible refine XG.yes ?_; refine x_val ?_; refine XG.yes ?_; refine x_convN (by rw [IntKind.wrap_i64]; omega) ?_; refine XG.yes ?_; refine x_val ?_; refine XG.yes ?_; refine x_val ?_; refine XG.yes ?_; refine x_subN (by rw [IntKind.wrap_i64]; omega) ?_; refine XG.yes ?_
  refine x_gtr (fun hc => ?_) (fun hc => ?_)
  with_reducible refine x_pickF ?_; refine Cnd.yes ?_
  rotate_left
  with_reducible refine x_pickF ?_; refine Cnd.no ?_
  rotate_left
  · exact h0 (by omega)
  · exact h1 (by omega) (by omega)
  · exact h1 (by omega) (by omega)
  · exact h2 (by omega) (by omega)
theorem word_c {m mb : Nat} {n at_ size : Int} {fz : Nat × Nat} (hm : w.heap[m]? = some (.cells #[.int .i64 n, .map (some mb)] 157 fz)) (hn : 0 ≤ n ∧ n ≤ 4096) (ha : 0 ≤ at_ ∧ at_ < 4294967296)
   (hl : -9223372036854775808 ≤ size ∧ size ≤ 9223372036854775807)
   (h0 : ¬ (size = 1 ∨ size = 2 ∨ size = 4) → K (.int .i64 20) w) (h1 : (size = 1 ∨ size = 2 ∨ size = 4) → at_ % size ≠ 0 → K (.int .i64 21) w)
   (h2 : (size = 1 ∨ size = 2 ∨ size = 4) → at_ % size = 0 → n * 4096 < at_ + size → K (.int .i64 22) w) (h3 : (size = 1 ∨ size = 2 ∨ size = 4) → at_ % size = 0 → at_ + size ≤ n * 4096 → K (.int .i64 0) w) :
   C P 37 #[ptr m, .int .u32 at_, .int .i64 size] w K E := by
  apply F37
  unfold S37_0
  refine x_neq (fun hc => ?_) (fun hc => ?_)
  with_reducible refine XG.yes ?_; refine x_val ?_; refine XG.yes ?_
  refine x_neq (fun hc => ?_) (fun hc => ?_)
  with_reducible refine x_pickT ?_; refine XG.yes ?_; refine x_val ?_; refine XG.yes ?_
  refine x_neq (fun hc => ?_) (fun hc => ?_)
  with_reducible refine x_pickT ?_; refine Cnd.yes ?_
  rotate_left
  with_reducible refine x_pickT ?_; refine Cnd.no ?_; refine x_convN (by rw [IntKind.wrap_u32]; omega) ?_; refine x_remN (by omega) (by omega) ?_
  refine x_neq (fun hc => ?_) (fun hc => ?_)
  with_reducible refine Cnd.yes ?_
  rotate_left
  with_reducible refine Cnd.no ?_
  rotate_left
  with_reducible refine x_pickT ?_; refine XG.no (by decide) ?_; refine XG.no (by decide) ?_; refine x_pickF ?_; refine Cnd.no ?_; refine x_convN (by rw [IntKind.wrap_u32]; omega) ?_; refine x_remN (by omega) (by omega) ?_
  refine x_neq (fun hc => ?_) (fun hc => ?_)
  with_reducible refine Cnd.yes ?_
  rotate_left
  with_reducible refine Cnd.no ?_
  rotate_left
  with_reducible refine XG.no (by decide) ?_; refine XG.no (by decide) ?_; refine x_pickF ?_; refine XG.no (by decide) ?_; refine XG.no (by decide) ?_; refine x_pickF ?_; refine Cnd.no ?_; refine x_convN (by rw [IntKind.wrap_u32]; omega) ?_; refine x_remN (by omega) (by omega) ?_
  refine x_neq (fun hc => ?_) (fun hc => ?_)
  with_reducible refine Cnd.yes ?_
  rotate_left
  with_reducible refine Cnd.no ?_
  rotate_left
  all_goals first
    | exact h0 (by omega)
    | exact h1 (by omega) (by subst_vars; omega)
    | (refine x_callF (place_c hm hn ha hl (fun h => by omega) (fun _ h => ?_) fun _ h => ?_)
       · exact h2 (by omega) (by subst_vars; omega) h
       · exact h3 (by omega) (by subst_vars; omega) h)
theorem split_c {at_ len fid : Nat} {cap : List Value} [CF P fid] (J : Nat → World → Prop) (ha : at_ + len ≤ 16777216)
   (hJ : ∀ (done to : Nat) (w : World), J done w → done < len → to = min 4096 ((at_ + done) % 4096 + len - done) →
     C P fid (List.toArray ([.int .u32 ((at_ + done) / 4096 : Nat), .int .i64 ((at_ + done) % 4096 : Nat), .int .i64 to, .int .i64 done] ++ cap)) w (fun _ w' => J (done + (to - (at_ + done) % 4096)) w') E)
   (h0 : J 0 w) (hK : ∀ w', J len w' → K (.tuple #[]) w') :
   C P 67 #[.int .u32 at_, .int .i64 len, .func (.func fid) (List.toArray []) (List.toArray cap)] w K E := by
  apply F67
  unfold S67_0 S67_l1
  refine ⟨fun v0 v6 w => ∃ done : Nat, v0 = .int .u32 (at_ + done : Nat) ∧ v6 = .int .i64 done ∧ done ≤ len ∧ J done w, fun v0 v6 w => match v6 with | .int _ d => len - d.toNat | _ => 0, ⟨0, rfl, rfl, by omega, h0⟩, ?_⟩
  rintro _ _ w ⟨done, rfl, rfl, hd, hj⟩
  unfold S67_b1
  refine x_lss (fun hc => ?_) (fun hc => ?_)
  with_reducible refine Cnd.yes ?_; refine x_quoN (by omega) (by omega) (by rw [IntKind.wrap_u32]; omega) ?_; refine x_remN (by omega) (by omega) ?_; refine x_convN (by rw [IntKind.wrap_i64]; omega) ?_; refine x_addN (by rw [IntKind.wrap_i64]; omega) ?_; refine x_subN (by rw [IntKind.wrap_i64]; omega) ?_
  refine x_min2 (fun hc => ?_) (fun hc => ?_)
  rotate_left
  rotate_left
  with_reducible refine Cnd.no ?_
  rotate_left
  · refine x_callV (C_mono (C_args (hJ done ((at_ + done) % 4096 + len - done) w hj (by omega) (by omega)) (by simp; omega)) (fun v w' hj' => ?_) fun _ _ h => h)
    with_reducible refine x_subN (by rw [IntKind.wrap_i64]; omega) ?_; refine x_addN (by rw [IntKind.wrap_i64]; omega) ?_; refine x_subN (by rw [IntKind.wrap_i64]; omega) ?_; refine x_convN (by rw [IntKind.wrap_u32]; omega) ?_; refine x_addN (by rw [IntKind.wrap_u32]; omega) ?_
    refine ⟨⟨len, ?_, ?_, by omega, ?_⟩, ?_⟩
    · congr 1; omega
    · congr 1; omega
    · rwa [show done + ((at_ + done) % 4096 + len - done - (at_ + done) % 4096) = len by omega] at hj'
    · simp only; omega
  · refine x_callV (C_mono (C_args (hJ done 4096 w hj (by omega) (by omega)) (by simp)) (fun v w' hj' => ?_) fun _ _ h => h)
    with_reducible refine x_subN (by rw [IntKind.wrap_i64]; omega) ?_; refine x_addN (by rw [IntKind.wrap_i64]; omega) ?_; refine x_subN (by rw [IntKind.wrap_i64]; omega) ?_; refine x_convN (by rw [IntKind.wrap_u32]; omega) ?_; refine x_addN (by rw [IntKind.wrap_u32]; omega) ?_
    refine ⟨⟨done + (4096 - (at_ + done) % 4096), ?_, ?_, by omega, hj'⟩, ?_⟩
    · congr 1; omega
    · congr 1; omega
    · simp only; omega
  · exact hK w (by rwa [show done = len by omega] at hj)
end Go.Eng
namespace Go.Eng
open Go.Proofs Go.MapKept
def bytes (M : Nat → Nat) (a n : Nat) : List Value := (List.range n).map fun i => .int .u8 (M (a + i) : Nat)
theorem bytes_len {M : Nat → Nat} {a n : Nat} : (bytes M a n).length = n := by simp [bytes]
theorem bytes_get {M : Nat → Nat} {a n i : Nat} (h : i < n) : (bytes M a n)[i]? = some (.int .u8 (M (a + i) : Nat)) := by simp [bytes, h]
theorem bytes_drop {M : Nat → Nat} {a n k : Nat} : (bytes M a n).drop k = bytes M (a + k) (n - k) := by
  apply List.ext_getElem?
  intro i
  rw [List.getElem?_drop]
  by_cases h : k + i < n
  · rw [bytes_get h, bytes_get (by omega), Nat.add_assoc]
  · rw [List.getElem?_eq_none (by rw [bytes_len]; omega), List.getElem?_eq_none (by rw [bytes_len]; omega)]
theorem bytes_take {M : Nat → Nat} {a n k : Nat} (h : k ≤ n) : (bytes M a n).take k = bytes M a k := by
  apply List.ext_getElem?
  intro i
  rw [List.getElem?_take]
  split
  · rw [bytes_get (by omega), bytes_get (by omega)]
  · rw [List.getElem?_eq_none (by rw [bytes_len]; omega)]
theorem bytes_app {M : Nat → Nat} {a n k : Nat} : bytes M a n ++ bytes M (a + n) k = bytes M a (n + k) := by
  apply List.ext_getElem?
  intro i
  by_cases h : i < n
  · rw [List.getElem?_append_left (by rw [bytes_len]; exact h), bytes_get h, bytes_get (by omega)]
  · rw [List.getElem?_append_right (by rw [bytes_len]; omega), bytes_len]
    by_cases h2 : i < n + k
    · rw [bytes_get (by omega), bytes_get h2, show a + n + (i - n) = a + i by omega]
    · rw [List.getElem?_eq_none (by rw [bytes_len]; omega), List.getElem?_eq_none (by rw [bytes_len]; omega)]
theorem bytes_congr {M M' : Nat → Nat} {a n : Nat} (h : ∀ i, i < n → M (a + i) = M' (a + i)) : bytes M a n = bytes M' a n := by
  simp only [bytes]
  apply List.map_congr_left
  intro i hi
  rw [h i (List.mem_range.1 hi)]
theorem bytes_one {M : Nat → Nat} {a n : Nat} : ∀ v ∈ bytes M a n, v.oneCell' = true := by
  intro v hv
  simp [bytes] at hv
  obtain ⟨i, _, rfl⟩ := hv
  rfl
theorem bytes_zero {M : Nat → Nat} {a n : Nat} (h : ∀ i, i < n → M (a + i) = 0) : bytes M a n = List.replicate n (.int .u8 0) := by
  apply List.ext_getElem?
  intro i
  by_cases hi : i < n
  · rw [bytes_get hi, h i hi]; simp [hi]
  · rw [List.getElem?_eq_none (by rw [bytes_len]; omega), List.getElem?_eq_none (by simp; omega)]
theorem holds_bytes {w : World} {b a n o k : Nat} {M : Nat → Nat} {T : TypeId} {fz : Nat × Nat} (hb : w.heap[b]? = some (.cells (bytes M a n).toArray T fz)) (h : o + k ≤ n) : Holds w ⟨b, o, none⟩ (bytes M (a + o) k) := by
  have := holds_blk (w := w) (o := o) (n := k) hb (by simp [bytes_len]; omega)
  rwa [List.toList_toArray, bytes_drop, bytes_take (by omega)] at this
structure MemR (w : World) (m mb n : Nat) (f : Value → Option Value) (M : Nat → Nat) (F : Nat → Prop) : Prop where
  hn : 1 ≤ n ∧ n ≤ 4096
  blk : w.heap[m]? = some (.cells #[.int .i64 n, .map (some mb)] 157 (0, 0))
  map : ∃ es ck, w.heap[mb]? = some (.map es ck) ∧ MapOf es ck (IsKey (.int .u32)) f
  own : F m ∧ F mb
  pg : ∀ k v, f (.int .u32 k) = some v → ∃ p b : Nat, k = (p : Int) ∧ v = ptr b ∧ F b ∧ b ≠ m ∧ b ≠ mb ∧ w.heap[b]? = some (.cells (bytes M (4096 * p) 4096).toArray 162 (0, 0))
  inj : ∀ (k k' : Int) (v : Value), f (.int .u32 k) = some v → f (.int .u32 k') = some v → k = k'
  no : ∀ k : Nat, f (.int .u32 k) = none → ∀ i, i < 4096 → M (4096 * k + i) = 0
  lt : ∀ a, M a < 256
  fin : ∀ r, F r → r < w.heap.size
def Mem (w : World) (m n : Nat) (M : Nat → Nat) (F : Nat → Prop) : Prop := ∃ mb f, MemR w m mb n f M F
theorem MemR.frame {w w' : World} {m mb n : Nat} {f : Value → Option Value} {M : Nat → Nat} {F S : Nat → Prop} (h : MemR w m mb n f M F) (hf : Fr S w w') (hs : ∀ r, F r → ¬ S r) : MemR w' m mb n f M F := by
  obtain ⟨es, ck, h1, h2⟩ := h.map
  refine ⟨h.hn, hf.get (hs _ h.own.1) h.blk, ⟨es, ck, hf.get (hs _ h.own.2) h1, h2⟩, h.own, fun k v hk => ?_, h.inj, h.no, h.lt, fun r hr => hf.lt (h.fin r hr)⟩
  obtain ⟨p, b, e1, e2, hb, b1, b2, hh⟩ := h.pg k v hk
  exact ⟨p, b, e1, e2, hb, b1, b2, hf.get (hs _ hb) hh⟩
theorem Mem.frame {w w' : World} {m n : Nat} {M : Nat → Nat} {F S : Nat → Prop} (h : Mem w m n M F) (hf : Fr S w w') (hs : ∀ r, F r → ¬ S r) : Mem w' m n M F := by
  obtain ⟨mb, f, h⟩ := h
  exact ⟨mb, f, h.frame hf hs⟩
theorem Mem.ext {w w' : World} {m n : Nat} {M : Nat → Nat} {F : Nat → Prop} (h : Mem w m n M F) (hf : Ext w w') : Mem w' m n M F := h.frame hf fun _ _ => id
theorem Mem.lt {w : World} {m n : Nat} {M : Nat → Nat} {F : Nat → Prop} (h : Mem w m n M F) : m < w.heap.size := by
  obtain ⟨mb, f, h⟩ := h
  exact lt_of_blk h.blk
variable {w : World} {K : Value → World → Prop} {E : List PanicEntry → World → Prop}
theorem newMem_c {n : Int} (hn : -9223372036854775808 ≤ n ∧ n ≤ 9223372036854775807) (h0 : n < 1 ∨ 4096 < n → K (.tuple #[.pointer none, .int .i64 20]) w)
    (h1 : ∀ (N : Nat) (w' : World) (m : Nat) (F : Nat → Prop), n = N → 1 ≤ N → N ≤ 4096 → Ext w w' → (∀ r, F r → w.heap.size ≤ r) → Mem w' m N (fun _ => 0) F → F m → K (.tuple #[ptr m, .int .i64 0]) w') : C P 41 #[.int .i64 n] w K E := by
  apply F41
  unfold S41_0
  refine x_lss (fun hc => ?_) (fun hc => ?_)
  with_reducible refine XG.no (by decide) ?_; refine XG.no (by decide) ?_; refine x_pickT ?_; refine Cnd.yes ?_
  rotate_left
  with_reducible refine XG.yes ?_; refine x_val ?_; refine XG.yes ?_
  refine x_gtr (fun hc => ?_) (fun hc => ?_)
  with_reducible refine x_pickF ?_; refine Cnd.yes ?_
  rotate_left
  with_reducible refine x_pickF ?_; refine Cnd.no ?_; refine x_makeMap ?_; refine x_buildS (by apply fill_1; exact inferInstance; exact oneI; exact set_0; apply fill_1; exact inferInstance; exact oneM; apply set_S; exact set_0; rotate_left; exact fill_nil; rotate_left; rotate_left; rotate_left; rotate_left) ?_; refine x_boxA ?_
  rotate_left
  · exact h0 (by omega)
  · exact h0 (by omega)
  · obtain ⟨N, rfl⟩ : ∃ N : Nat, n = N := ⟨n.toNat, by omega⟩
    refine h1 N _ _ (fun r => r = w.heap.size ∨ r = w.heap.size + 1) rfl (by omega) (by omega) (((Fr.refl _ w).alloc _).alloc _) (by rintro r (rfl | rfl) <;> omega) ?_ (.inr size_alloc)
    refine ⟨w.heap.size, fun _ => none, ⟨by omega, ?_, ⟨#[], 0, ?_, MapOf.empty _ _⟩, ⟨.inr size_alloc, .inl rfl⟩, fun _ _ h => (by cases h), fun _ _ _ h => (by cases h), fun _ _ _ _ => rfl, fun _ => by omega, ?_⟩⟩
    · with_reducible exact blk_alloc_new
    · with_reducible refine blk_alloc_old' ?_; exact blk_alloc_new
    · rintro r (rfl | rfl) <;> simp only [size_alloc] <;> omega
theorem pages_c {m n : Nat} {M : Nat → Nat} {F : Nat → Prop} (hm : Mem w m n M F) (h : K (.int .i64 n) w) : C P 45 #[ptr m] w K E := by
  obtain ⟨mb, f, hm⟩ := hm
  have hb := hm.blk
  apply F45
  unfold S45_0
  with_reducible refine x_nil ?_; refine x_field0 ?_; refine x_load1 ‹_› at_0 ?_
  exact h
end Go.Eng
namespace Go.Eng
open Go.Proofs Go.MapKept
variable {w : World} {K : Value → World → Prop} {E : List PanicEntry → World → Prop}
theorem bytes_pad {M : Nat → Nat} {a d c n : Nat} (h : d + c ≤ n) (hz : ∀ i, i < c → M (a + d + i) = 0) : bytes M a d ++ List.replicate (n - d) (Value.int .u8 0) = bytes M a (d + c) ++ List.replicate (n - (d + c)) (Value.int .u8 0) := by
  rw [← bytes_app, List.append_assoc, bytes_zero hz, List.replicate_append_replicate]
  congr 2
  omega
theorem key32 {n : Int} : IsKey (.int .u32) (.int .u32 n) := rfl
theorem rd_c {m mb n b4 b5 o at_ len done to : Nat} {f : Value → Option Value} {M : Nat → Nat} {F : Nat → Prop} (hm : MemR w m mb n f M F)
   (hb4 : w.heap[b4]? = some (.cells #[ptr m] 41 (0, 0))) (hb5 : w.heap[b5]? = some (.cells #[.slice (some ⟨o, 0, none⟩) len len] 34 (0, 0)))
   (ho : w.heap[o]? = some (.cells (bytes M at_ done ++ List.replicate (len - done) (Value.int .u8 0)).toArray 5 (0, 0))) (hd : done < len) (hto : to = min 4096 ((at_ + done) % 4096 + len - done)) (hat : at_ + len ≤ 4096 * n)
   (hK : ∀ w', Fr (fun r => r = o) w w' → w'.heap[o]? = some (.cells (bytes M at_ (done + (to - (at_ + done) % 4096)) ++ List.replicate (len - (done + (to - (at_ + done) % 4096))) (Value.int .u8 0)).toArray 5 (0, 0)) → K (.tuple #[]) w') :
   C P 68 (List.toArray ([.int .u32 ((at_ + done) / 4096 : Nat), .int .i64 ((at_ + done) % 4096 : Nat), .int .i64 to, .int .i64 done] ++ [ptr b4, ptr b5])) w K E := by
  have hn := hm.hn
  have hbm := hm.blk
  obtain ⟨es, ck, hmap, hof⟩ := hm.map
  apply F68
  unfold S68_0
  with_reducible refine x_load1 ‹_› at_0 ?_; refine x_nil ?_; refine x_field0 ?_; refine x_load1 ‹_› at_1 ?_
  refine x_look ‹_› hof key32 ?_
  cases hk : f (.int .u32 ((at_ + done) / 4096 : Nat)) with
  | none =>
    simp only [Option.getD_none]
    with_reducible refine x_neqPn ?_; refine Cnd.no ?_
    refine hK _ (Fr.refl _ _) ?_
    rw [ho, bytes_pad (c := to - (at_ + done) % 4096) (by omega)]
    intro i hi
    have := hm.no _ hk ((at_ + done) % 4096 + i) (by omega)
    rwa [show 4096 * ((at_ + done) / 4096) + ((at_ + done) % 4096 + i) = at_ + done + i by omega] at this
  | some v =>
    obtain ⟨p, b, hp, rfl, hbF, hbm', hbmb, hbp⟩ := hm.pg _ _ hk
    obtain rfl : p = (at_ + done) / 4096 := by omega
    simp only [Option.getD_some]
    with_reducible refine x_neqP ?_; refine Cnd.yes ?_; refine XQ.of rfl ?_; refine x_load1 ‹_› at_0 ?_; refine qstep ?_; refine XQ.of rfl ?_
    refine x_slF (by omega) (by omega) ?_
    with_reducible refine qstep ?_; refine XQ.of rfl ?_; refine x_nil ?_; refine qstep ?_; refine XQ.of rfl ?_
    refine x_slA (by omega) (by omega) (by omega) ?_
    with_reducible refine qstep ?_
    refine x_copy (xs := bytes M (at_ + done) (to - (at_ + done) % 4096)) ‹_› (by simp [bytes_len, Nat.min_def]; omega) ?_ (by simp [bytes_len]; omega) bytes_one ?_
    · have := holds_bytes (w := drw w) (o := 0 + (at_ + done) % 4096 * 1) (k := to - (at_ + done) % 4096) ‹_› (by omega)
      rwa [show 4096 * ((at_ + done) / 4096) + (0 + (at_ + done) % 4096 * 1) = at_ + done by omega] at this
    · skip
      refine hK _ ((Fr.refl (fun r => r = o) w).drw.set (fun _ => rfl) _) ?_
      rw [blk_set_same (show o < (drw w).heap.size from lt_of_blk ho)]
      congr 2
      apply Array.ext'
      have hl : (bytes M at_ done ++ List.replicate (len - done) (Value.int .u8 0)).take (0 + done * 1) = bytes M at_ done := by
        rw [show 0 + done * 1 = done by omega, List.take_append_of_le_length (by rw [bytes_len]; omega), List.take_of_length_le (by rw [bytes_len]; omega)]
      simp only [lay, hl, bytes_len]
      rw [List.drop_append, List.drop_of_length_le (by rw [bytes_len]; omega), List.nil_append, List.drop_replicate, bytes_len, bytes_app]
      congr 2
      omega
instance : CF P 68 := c68
theorem read_c {m n at_ len : Nat} {M : Nat → Nat} {F : Nat → Prop} (hm : Mem w m n M F) (hat : at_ + len ≤ 4096 * n)
   (hK : ∀ w' o, Ext w w' → w.heap.size ≤ o → w'.heap[o]? = some (.cells (bytes M at_ len).toArray 5 (0, 0)) → K (.slice (some ⟨o, 0, none⟩) len len) w') :
   C P 36 #[ptr m, .int .u32 at_, .int .i64 len] w K E := by
  obtain ⟨mb, f, hm⟩ := hm
  have hn := hm.hn
  apply F36
  unfold S36_0
  with_reducible refine x_box1 oneP ?_; refine x_makeN (by omega) (by omega) ?_; refine x_alloc ?_; refine x_store1 blk_alloc_new oneS set_0 ?_; refine x_mkFunc ?_
  simp only [size_alloc]
  generalize hw1 : setBlk _ _ _ = w1
  have hsz : w1.heap.size = w.heap.size + 3 := by rw [← hw1]; simp only [size_set, size_alloc]
  have e1 : Ext w w1 := by
    rw [← hw1]
    exact ((((Fr.refl _ w).alloc _).alloc _).alloc _).set (fun h => by omega) _
  have f0 : w1.heap[w.heap.size]? = some (.cells #[ptr m] 41 (0, 0)) := by rw [← hw1]; refine blk_set_ne' ?_ (by exact Nat.ne_of_lt (by omega)); refine blk_alloc_old' ?_; refine blk_alloc_old' ?_; exact blk_alloc_new
  have f1 : w1.heap[w.heap.size + 1]? = some (.cells (madeCells #[Value.int .u8 0] (len * 1)) 5 (0, 0)) := by
    rw [← hw1]; refine blk_set_ne' ?_ (by exact Nat.ne_of_lt (by omega)); refine blk_alloc_old' ?_; exact blk_alloc_eq (by simp only [size_set, size_alloc])
  have f2 : w1.heap[w.heap.size + 2]? = some (.cells #[.slice (some ⟨w.heap.size + 1, 0, none⟩) len len] 34 (0, 0)) := by
    rw [← hw1]
    exact blk_set_same (by simp only [size_alloc]; omega)
  have hm1 := hm.frame e1 (fun _ _ => id)
  refine x_callF (split_c (cap := [ptr w.heap.size, ptr (w.heap.size + 2)]) (fun done w' => Fr (fun r => r = w.heap.size + 1) w1 w' ∧ w'.heap[w.heap.size + 1]? = some (.cells (bytes M at_ done ++ List.replicate (len - done) (Value.int .u8 0)).toArray 5 (0, 0))) (by omega) ?_ ?_ ?_)
  · rintro done to w2 ⟨h1, h2⟩ hd hto
    refine rd_c (hm1.frame h1 (fun r hr => by have := hm.fin r hr; omega)) (h1.get (by omega) f0) (h1.get (by omega) f2) h2 hd hto hat fun w3 h3 h4 => ⟨h1.trans' h3 (fun r hr _ => hr), h4⟩
  · refine ⟨Fr.refl _ _, ?_⟩
    rw [f1, madeCells_1]
    congr 2
    simp [bytes]
  · rintro w2 ⟨h1, h2⟩
    have f3 := h1.get (by omega) f2
    with_reducible refine x_load1 ‹_› at_0 ?_
    refine hK w2 _ (e1.trans' h1 (fun r hr hlt => by omega)) (by omega) ?_
    rw [h2]
    simp
end Go.Eng
namespace Go.Eng
open Go.Proofs Go.MapKept
variable {w : World} {K : Value → World → Prop} {E : List PanicEntry → World → Prop}
def ldv (M : Nat → Nat) (a : Nat) : Nat → Nat
  | 0 => 0
  | i + 1 => ldv M a i + M (a + i) * 2 ^ (8 * i)
theorem ldv_lt {M : Nat → Nat} (h : ∀ a, M a < 256) (a : Nat) : ∀ i, ldv M a i < 2 ^ (8 * i)
  | 0 => by simp [ldv]
  | i + 1 => by
    have h1 := ldv_lt h a i
    have h2 : M (a + i) * 2 ^ (8 * i) ≤ 255 * 2 ^ (8 * i) := Nat.mul_le_mul_right _ (by have := h (a + i); omega)
    have h3 : 2 ^ (8 * (i + 1)) = 256 * 2 ^ (8 * i) := by rw [show 8 * (i + 1) = 8 + 8 * i by omega, Nat.pow_add]
    simp only [ldv]
    omega
theorem ldv_congr {M M' : Nat → Nat} {a : Nat} : ∀ {n : Nat}, (∀ i, i < n → M (a + i) = M' (a + i)) → ldv M a n = ldv M' a n
  | 0, _ => rfl
  | n + 1, h => by simp only [ldv]; rw [ldv_congr fun i hi => h i (by omega), h n (by omega)]
theorem Read_c {m n at_ : Nat} {len : Int} {M : Nat → Nat} {F : Nat → Prop} (hm : Mem w m n M F) (ha : at_ < 4294967296) (hl : -9223372036854775808 ≤ len ∧ len ≤ 9223372036854775807)
   (h0 : len < 0 → K (.tuple #[.slice none 0 0, .int .i64 20]) w) (h1 : 0 ≤ len → 4096 * n < at_ + len → K (.tuple #[.slice none 0 0, .int .i64 22]) w)
   (hK : ∀ (L : Nat) w' o, len = L → at_ + L ≤ 4096 * n → Ext w w' → w.heap.size ≤ o → w'.heap[o]? = some (.cells (bytes M at_ L).toArray 5 (0, 0)) → K (.tuple #[.slice (some ⟨o, 0, none⟩) L L, .int .i64 0]) w') :
   C P 15 #[ptr m, .int .u32 at_, .int .i64 len] w K E := by
  have hm0 := hm
  obtain ⟨mb, f, hm⟩ := hm
  have hn := hm.hn
  apply F15
  unfold S15_0
  refine x_callF (place_c hm.blk (by omega) (by omega) hl (fun h => ?_) (fun h h' => ?_) fun h h' => ?_)
  · refine x_neq (fun hc => ?_) (fun hc => by omega)
    with_reducible refine Cnd.yes ?_
    exact h0 h
  · refine x_neq (fun hc => ?_) (fun hc => by omega)
    with_reducible refine Cnd.yes ?_
    exact h1 h (by omega)
  · refine x_neq (fun hc => by omega) (fun hc => ?_)
    with_reducible refine Cnd.no ?_
    obtain ⟨L, rfl⟩ : ∃ L : Nat, len = L := ⟨len.toNat, by omega⟩
    refine x_callF (read_c hm0 (by omega) fun w' o h1 h2 h3 => ?_)
    skip
    exact hK L w' o rfl (by omega) h1 h2 h3
theorem Load_c {m n at_ : Nat} {size : Int} {M : Nat → Nat} {F : Nat → Prop} (hm : Mem w m n M F) (ha : at_ < 4294967296) (hl : -9223372036854775808 ≤ size ∧ size ≤ 9223372036854775807)
   (h0 : ¬ (size = 1 ∨ size = 2 ∨ size = 4) → K (.tuple #[.int .u32 0, .int .i64 20]) w) (h1 : (size = 1 ∨ size = 2 ∨ size = 4) → (at_ : Int) % size ≠ 0 → K (.tuple #[.int .u32 0, .int .i64 21]) w)
   (h2 : (size = 1 ∨ size = 2 ∨ size = 4) → (at_ : Int) % size = 0 → n * 4096 < at_ + size → K (.tuple #[.int .u32 0, .int .i64 22]) w)
   (h3 : ∀ (s : Nat) w', size = s → (s = 1 ∨ s = 2 ∨ s = 4) → at_ % s = 0 → at_ + s ≤ 4096 * n → Ext w w' → K (.tuple #[.int .u32 (ldv M at_ s : Nat), .int .i64 0]) w') :
   C P 66 #[ptr m, .int .u32 at_, .int .i64 size] w K E := by
  have hm0 := hm
  obtain ⟨mb, f, hm⟩ := hm
  have hn := hm.hn
  apply F66
  unfold S66_0
  refine x_callF (word_c hm.blk (by omega) (by omega) hl (fun h => ?_) (fun h h' => ?_) (fun h h' h'' => ?_) fun h h' h'' => ?_)
  · refine x_neq (fun hc => ?_) (fun hc => by omega)
    with_reducible refine Cnd.yes ?_
    exact h0 h
  · refine x_neq (fun hc => ?_) (fun hc => by omega)
    with_reducible refine Cnd.yes ?_
    exact h1 h h'
  · refine x_neq (fun hc => ?_) (fun hc => by omega)
    with_reducible refine Cnd.yes ?_
    exact h2 h h' h''
  · refine x_neq (fun hc => by omega) (fun hc => ?_)
    with_reducible refine Cnd.no ?_
    obtain ⟨s, rfl⟩ : ∃ s : Nat, size = s := ⟨size.toNat, by omega⟩
    refine x_callF (read_c hm0 (by omega) fun w' o hx1 hx2 hx3 => ?_)
    with_reducible refine x_lenS ?_
    unfold S66_l6
    refine ⟨fun v9 v24 w => ∃ i : Nat, v9 = .int .u32 (ldv M at_ i : Nat) ∧ v24 = .int .i64 i ∧ i ≤ s ∧ w = w', fun v9 v24 w => match v24 with | .int _ d => s - d.toNat | _ => 0, ⟨0, rfl, rfl, by omega, rfl⟩, ?_⟩
    rintro _ _ w2 ⟨i, rfl, rfl, hi, rfl⟩
    unfold S66_b6
    refine x_lss (fun hc => ?_) (fun hc => ?_)
    with_reducible refine Cnd.yes ?_
    rotate_left
    with_reducible refine Cnd.no ?_
    rotate_left
    · refine x_idxS (by omega) ?_
      refine x_load1 ‹_› (by rw [List.getElem?_toArray, show 0 + (i : Int).toNat * 1 = i by omega]; exact bytes_get (by omega)) ?_
      have hb := hm.lt (at_ + i)
      have hlt := ldv_lt hm.lt at_ i
      have hlt2 := ldv_lt hm.lt at_ (i + 1)
      have hp : 2 ^ (8 * (i + 1)) ≤ 4294967296 := by
        have : 2 ^ (8 * (i + 1)) ≤ 2 ^ 32 := Nat.pow_le_pow_right (by omega) (by omega)
        simpa using this
      simp only [ldv] at hlt2
      with_reducible refine x_convN (by rw [IntKind.wrap_u32]; omega) ?_; refine x_mulN (by rw [IntKind.wrap_i64]; omega) ?_
      refine x_shlN' (s := 8 * i) (by omega) (by omega) (by omega) ?_
      refine x_orN hlt (by omega) ?_
      with_reducible refine x_addN (by rw [IntKind.wrap_i64]; omega) ?_
      refine ⟨⟨i + 1, rfl, by congr 1, by omega, rfl⟩, ?_⟩
      simp only
      omega
    · unfold S66_j10
      obtain rfl : i = s := by omega
      exact h3 i _ rfl (by omega) (by omega) (by omega) hx1
end Go.Eng
namespace Go.Eng
open Go.Proofs Go.MapKept
variable {w : World} {K : Value → World → Prop} {E : List PanicEntry → World → Prop}
def u8s (l : List Nat) : List Value := l.map fun x => Value.int .u8 (x : Nat)
theorem u8s_len {l : List Nat} : (u8s l).length = l.length := by simp [u8s]
theorem u8s_one {l : List Nat} : ∀ v ∈ u8s l, v.oneCell' = true := by
  intro v hv
  simp [u8s] at hv
  obtain ⟨i, _, rfl⟩ := hv
  rfl
theorem u8s_drop {l : List Nat} {k : Nat} : (u8s l).drop k = u8s (l.drop k) := by simp [u8s]
theorem u8s_take {l : List Nat} {k : Nat} : (u8s l).take k = u8s (l.take k) := by simp [u8s]
def put (M : Nat → Nat) (a : Nat) (l : List Nat) : Nat → Nat := fun x => if a ≤ x ∧ x < a + l.length then l.getD (x - a) 0 else M x
theorem put_in {M : Nat → Nat} {a i : Nat} {l : List Nat} (h : i < l.length) : put M a l (a + i) = l[i] := by
  simp only [put]
  rw [if_pos ⟨by omega, by omega⟩, show a + i - a = i by omega]
  simp [List.getD, h]
theorem put_out {M : Nat → Nat} {a x : Nat} {l : List Nat} (h : x < a ∨ a + l.length ≤ x) : put M a l x = M x := by
  simp only [put]
  rw [if_neg (by omega)]
theorem put_lt {M : Nat → Nat} {a : Nat} {l : List Nat} (h : ∀ x, M x < 256) (hl : ∀ x ∈ l, x < 256) (x : Nat) : put M a l x < 256 := by
  by_cases hx : a ≤ x ∧ x < a + l.length
  · have := put_in (M := M) (a := a) (i := x - a) (l := l) (by omega)
    rw [show a + (x - a) = x by omega] at this
    rw [this]
    exact hl _ (List.getElem_mem _)
  · rw [put_out (by omega)]; exact h x
theorem put_nil {M : Nat → Nat} {a : Nat} : put M a [] = M := by
  funext x
  exact put_out (by simp; omega)
theorem put_put {M : Nat → Nat} {a : Nat} {l k : List Nat} : put (put M a l) (a + l.length) k = put M a (l ++ k) := by
  funext x
  by_cases h1 : a ≤ x ∧ x < a + l.length
  · rw [put_out (by omega)]
    obtain ⟨i, rfl⟩ : ∃ i, x = a + i := ⟨x - a, by omega⟩
    rw [put_in (by omega), put_in (by rw [List.length_append]; omega), List.getElem_append_left (by omega)]
  · by_cases h2 : a + l.length ≤ x ∧ x < a + l.length + k.length
    · obtain ⟨i, rfl⟩ : ∃ i, x = a + l.length + i := ⟨x - (a + l.length), by omega⟩
      rw [put_in (by omega), show a + l.length + i = a + (l.length + i) by omega, put_in (by rw [List.length_append]; omega), List.getElem_append_right (by omega)]
      congr 1; omega
    · rw [put_out (by omega), put_out (by omega), put_out (by rw [List.length_append]; omega)]
theorem bytes_put {M : Nat → Nat} {a0 n a : Nat} {l : List Nat} (h1 : a0 ≤ a) (h2 : a + l.length ≤ a0 + n) : bytes (put M a l) a0 n = (bytes M a0 n).take (a - a0) ++ u8s l ++ (bytes M a0 n).drop (a - a0 + l.length) := by
  apply List.ext_getElem?
  intro i
  rw [List.append_assoc]
  by_cases hi : i < n
  · rw [bytes_get hi]
    by_cases c1 : i < a - a0
    · rw [List.getElem?_append_left (by rw [List.length_take, bytes_len]; omega), List.getElem?_take, if_pos c1, bytes_get hi, put_out (by omega)]
    · rw [List.getElem?_append_right (by rw [List.length_take, bytes_len]; omega), List.length_take, bytes_len, Nat.min_eq_left (by omega)]
      by_cases c2 : i < a - a0 + l.length
      · rw [List.getElem?_append_left (by rw [u8s_len]; omega), show a0 + i = a + (i - (a - a0)) by omega, put_in (by omega)]
        simp only [u8s, List.getElem?_map]
        rw [List.getElem?_eq_getElem (by omega)]
        rfl
      · rw [List.getElem?_append_right (by rw [u8s_len]; omega), List.getElem?_drop, u8s_len, show a - a0 + l.length + (i - (a - a0) - l.length) = i by omega, bytes_get hi, put_out (by omega)]
  · rw [List.getElem?_eq_none (by rw [bytes_len]; omega), List.getElem?_eq_none (by simp [bytes_len, u8s_len]; omega)]
theorem bytes_put_out {M : Nat → Nat} {a0 n a : Nat} {l : List Nat} (h : a0 + n ≤ a ∨ a + l.length ≤ a0) : bytes (put M a l) a0 n = bytes M a0 n := bytes_congr fun i hi => put_out (by omega)
theorem holds_u8s {b o k : Nat} {l : List Nat} (h : Holds w ⟨b, o, none⟩ (u8s l)) : Holds w ⟨b, o + k, none⟩ (u8s (l.drop k)) := by
  intro j v hv
  have := h (k + j) v (by rw [← u8s_drop, List.getElem?_drop] at hv; exact hv)
  rw [add_lit] at this ⊢
  rw [show o + k + j = o + (k + j) by omega]
  exact this
theorem holds_take {a : Addr} {k : Nat} {l : List Nat} (h : Holds w a (u8s l)) : Holds w a (u8s (l.take k)) := by
  intro j v hv
  refine h j v ?_
  rw [← u8s_take, List.getElem?_take] at hv
  split at hv
  · exact hv
  · cases hv
theorem holds_fr {w' : World} {S : Nat → Prop} {b o : Nat} {l : List Value} (h : Holds w ⟨b, o, none⟩ l) (hf : Fr S w w') (hb : b < w.heap.size) (hs : ¬ S b) : Holds w' ⟨b, o, none⟩ l := by
  intro j v hv
  have := h j v hv
  rw [add_lit] at this ⊢
  simp only [World.cell?] at this ⊢
  rw [hf.blk b hb hs]
  exact this
theorem wrj_c {m mb n b b5 sb so L cp at_ done to p : Nat} {l : List Nat} {f : Value → Option Value} {M : Nat → Nat} {F : Nat → Prop} (hm : MemR w m mb n f M F)
   (hk : f (.int .u32 (p : Nat)) = some (ptr b)) (hb5 : w.heap[b5]? = some (.cells #[.slice (some ⟨sb, so, none⟩) L cp] 34 (0, 0))) (hL : l.length = L) (hcp : L ≤ cp) (hsrc : Holds w ⟨sb, so, none⟩ (u8s l)) (h8 : ∀ x ∈ l, x < 256)
   (hd : done < L) (hp : p = (at_ + done) / 4096) (hto : to = min 4096 ((at_ + done) % 4096 + L - done))
   (hK : ∀ w', Fr (fun r => r = b) w w' → MemR w' m mb n f (put M (at_ + done) ((l.drop done).take (to - (at_ + done) % 4096))) F → K (.tuple #[]) w') :
   S69_j4 (.int .i64 ((at_ + done) % 4096 : Nat)) (.int .i64 to) (.int .i64 done) (ptr b5) (ptr b) w K E := by
  obtain ⟨p', b', e1, e2, hbF, hbm', hbmb, hbp⟩ := hm.pg _ _ hk
  cases e2
  obtain rfl : p' = p := by omega
  unfold S69_j4
  with_reducible refine XQ.of rfl ?_; refine x_nil ?_; refine qstep ?_; refine XQ.of rfl ?_
  refine x_slA (by omega) (by omega) (by omega) ?_
  with_reducible refine qstep ?_; refine XQ.of rfl ?_; refine x_load1 ‹_› at_0 ?_; refine qstep ?_; refine XQ.of rfl ?_
  refine x_slF (by omega) (by omega) ?_
  with_reducible refine qstep ?_
  have hlen : ((l.drop done).take (to - (at_ + done) % 4096)).length = to - (at_ + done) % 4096 := by
    rw [List.length_take, List.length_drop]; omega
  refine x_copy (xs := u8s ((l.drop done).take (to - (at_ + done) % 4096))) ‹_› (by rw [u8s_len, hlen]; show _ = min (L - done) _ * 1; omega) ?_ (by rw [u8s_len, hlen]; simp [bytes_len]; omega) u8s_one ?_
  · have := holds_take (k := to - (at_ + done) % 4096) (holds_u8s (k := done) hsrc)
    rwa [show so + done = so + done * 1 by omega] at this
  · skip
    refine hK _ ((Fr.refl (fun r => r = b) w).drw.set (fun _ => rfl) _) ?_
    have hfr : Fr (fun r => r = b) w (setBlk (drw w) b (.cells (lay (bytes M (4096 * p') 4096).toArray (0 + (at_ + done) % 4096 * 1) (u8s ((l.drop done).take (to - (at_ + done) % 4096)))) 162 (0, 0))) := (Fr.refl (fun r => r = b) w).drw.set (fun _ => rfl) _
    obtain ⟨es, ck, hmap, hof⟩ := hm.map
    refine ⟨hm.hn, hfr.get (fun e => hbm' e.symm) hm.blk, ⟨es, ck, hfr.get (fun e => hbmb e.symm) hmap, hof⟩, hm.own, fun k v hkv => ?_, hm.inj, fun k hkn i hi => ?_, put_lt hm.lt fun x hx => h8 x (List.mem_of_mem_drop (List.mem_of_mem_take hx)), fun r hr => hfr.lt (hm.fin r hr)⟩
    · obtain ⟨q, c, e3, rfl, hcF, hcm, hcmb, hcp'⟩ := hm.pg _ _ hkv
      refine ⟨q, c, e3, rfl, hcF, hcm, hcmb, ?_⟩
      by_cases hc : c = b
      · subst hc
        have hqp : k = (p' : Int) := hm.inj _ _ _ hkv hk
        obtain rfl : q = p' := by omega
        rw [blk_set_same (show c < (drw w).heap.size from lt_of_blk hbp)]
        refine congrArg (fun c => some (Obj.cells c 162 (0, 0))) (Array.ext' ?_)
        rw [bytes_put (by omega) (by rw [hlen]; omega)]
        simp only [lay, u8s_len, hlen]
        rw [show 0 + (at_ + done) % 4096 * 1 = at_ + done - 4096 * q by omega]
      · rw [hfr.get (fun e => hc e) hcp']
        have hne : q ≠ p' := fun e => by
          subst e
          rw [e3, hk] at hkv
          cases hkv
          exact hc rfl
        rw [bytes_put_out (by rw [hlen]; omega)]
    · have hne : k ≠ p' := fun e => by subst e; rw [hk] at hkn; cases hkn
      rw [put_out (by rw [hlen]; omega)]
      exact hm.no k hkn i hi
end Go.Eng
namespace Go.Eng
open Go.Proofs Go.MapKept
variable {w : World} {K : Value → World → Prop} {E : List PanicEntry → World → Prop}
theorem wr_c {m mb n b4 b5 sb so L cp at_ done to : Nat} {l : List Nat} {f : Value → Option Value} {M : Nat → Nat} {F : Nat → Prop} (hm : MemR w m mb n f M F)
   (hb4 : w.heap[b4]? = some (.cells #[ptr m] 41 (0, 0))) (hb5 : w.heap[b5]? = some (.cells #[.slice (some ⟨sb, so, none⟩) L cp] 34 (0, 0))) (hL : l.length = L) (hcp : L ≤ cp) (hsrc : Holds w ⟨sb, so, none⟩ (u8s l)) (h8 : ∀ x ∈ l, x < 256)
   (hsb : sb < w.heap.size) (hsF : ¬ F sb) (h4F : ¬ F b4) (h5F : ¬ F b5)
   (hd : done < L) (hto : to = min 4096 ((at_ + done) % 4096 + L - done)) (hat : at_ + L ≤ 4096 * n)
   (hK : ∀ w' f' F', Fr F w w' → (∀ r, F' r → F r ∨ w.heap.size ≤ r) → (∀ r, F r → F' r) → MemR w' m mb n f' (put M (at_ + done) ((l.drop done).take (to - (at_ + done) % 4096))) F' → K (.tuple #[]) w') :
   C P 69 (List.toArray ([.int .u32 ((at_ + done) / 4096 : Nat), .int .i64 ((at_ + done) % 4096 : Nat), .int .i64 to, .int .i64 done] ++ [ptr b4, ptr b5])) w K E := by
  have hn := hm.hn
  have hbm := hm.blk
  obtain ⟨es, ck, hmap, hof⟩ := hm.map
  apply F69
  unfold S69_0
  with_reducible refine x_load1 ‹_› at_0 ?_; refine x_nil ?_; refine x_field0 ?_; refine x_load1 ‹_› at_1 ?_
  refine x_look ‹_› hof key32 ?_
  cases hk : f (.int .u32 ((at_ + done) / 4096 : Nat)) with
  | some v =>
    obtain ⟨p, b, hp, rfl, hbF, hbm', hbmb, hbp⟩ := hm.pg _ _ hk
    obtain rfl : p = (at_ + done) / 4096 := by omega
    simp only [Option.getD_some]
    with_reducible refine x_eqlP ?_; refine Cnd.no ?_
    exact wrj_c hm hk hb5 hL hcp hsrc h8 hd rfl hto fun w' h1 h2 => hK w' _ F (h1.mono fun r _ e => by subst e; exact hbF) (fun r hr => .inl hr) (fun r hr => hr) h2
  | none =>
    simp only [Option.getD_none]
    with_reducible refine x_eqlPn ?_; refine Cnd.yes ?_; refine x_buildR fill_nil ?_; refine x_boxA ?_; refine x_load1 (by refine blk_alloc_old' ?_; assumption) at_0 ?_; refine x_nil ?_; refine x_field0 ?_; refine x_load1 (by refine blk_alloc_old' ?_; assumption) at_1 ?_
    have hmb : mb < w.heap.size := lt_of_blk hmap
    refine x_mapUpd (by refine blk_alloc_old' ?_; assumption) hof key32 fun es' ck' hof' _ => ?_
    generalize hw1 : setBlk _ _ _ = w1
    have hne : w.heap.size ≠ mb := by omega
    have e1 : Fr (fun r => r = mb) w w1 := by rw [← hw1]; exact ((Fr.refl (fun r => r = mb) w).alloc _).set (fun _ => rfl) _
    have hnew : w1.heap[w.heap.size]? = some (.cells (Array.replicate 4096 (Value.int .u8 0)) 162 (0, 0)) := by rw [← hw1]; refine blk_set_ne' ?_ ‹_›; exact blk_alloc_new
    have hmap1 : w1.heap[mb]? = some (.map es' ck') := by rw [← hw1]; exact blk_set_same (by rw [size_alloc]; omega)
    have hm1 : MemR w1 m mb n (upd f (.int .u32 ((at_ + done) / 4096 : Nat)) (ptr w.heap.size)) M (fun r => F r ∨ r = w.heap.size) := by
      have hmm : m ≠ mb := ne_blk hm.blk hmap (by simp)
      refine ⟨hm.hn, e1.get hmm hm.blk, ⟨es', ck', hmap1, hof'⟩, ⟨.inl hm.own.1, .inl hm.own.2⟩, fun k v hkv => ?_, fun k k' v h1 h2 => ?_, fun k hkn i hi => ?_, hm.lt, fun r hr => ?_⟩
      · by_cases hkk : Value.int .u32 k = .int .u32 ((at_ + done) / 4096 : Nat)
        · rw [hkk, upd_same] at hkv
          cases hkv
          injection hkk with _ hkk
          refine ⟨(at_ + done) / 4096, w.heap.size, hkk, rfl, .inr rfl, fun e => ?_, hne, ?_⟩
          · have := lt_of_blk hm.blk; omega
          · rw [hnew, bytes_zero (hm.no _ hk)]
            refine congrArg (fun c => some (Obj.cells c 162 (0, 0))) (Array.ext' ?_)
            simp
        · rw [upd_ne hkk] at hkv
          obtain ⟨q, c, e3, rfl, hcF, hcm, hcmb, hcp'⟩ := hm.pg _ _ hkv
          exact ⟨q, c, e3, rfl, .inl hcF, hcm, hcmb, e1.get hcmb hcp'⟩
      · have hin : ∀ k v, f (.int .u32 k) = some v → v ≠ ptr w.heap.size := fun k v hkv e => by
          obtain ⟨q, c, e3, e4, hcF, hcm, hcmb, hcp'⟩ := hm.pg _ _ hkv
          rw [e4] at e
          injection e with e
          injection e with e
          injection e with e
          have := lt_of_blk hcp'
          omega
        by_cases hkk : Value.int .u32 k = .int .u32 ((at_ + done) / 4096 : Nat) <;> by_cases hkk' : Value.int .u32 k' = .int .u32 ((at_ + done) / 4096 : Nat)
        · injection hkk with _ hkk
          injection hkk' with _ hkk'
          omega
        · rw [hkk, upd_same] at h1
          rw [upd_ne hkk'] at h2
          cases h1
          exact absurd rfl (hin _ _ h2)
        · rw [hkk', upd_same] at h2
          rw [upd_ne hkk] at h1
          cases h2
          exact absurd rfl (hin _ _ h1)
        · rw [upd_ne hkk] at h1
          rw [upd_ne hkk'] at h2
          exact hm.inj _ _ _ h1 h2
      · by_cases hkk : Value.int .u32 (k : Nat) = .int .u32 ((at_ + done) / 4096 : Nat)
        · rw [hkk, upd_same] at hkn; cases hkn
        · rw [upd_ne hkk] at hkn
          exact hm.no k hkn i hi
      · rcases hr with hr | rfl
        · exact e1.lt (hm.fin r hr)
        · exact lt_of_blk hnew
    have hFb : ∀ x, x < w.heap.size → ¬ F x → x ≠ mb := fun x _ hx e => hx (e ▸ hm.own.2)
    refine wrj_c hm1 upd_same (e1.get (hFb _ (lt_of_blk hb5) h5F) hb5) hL hcp (holds_fr hsrc e1 hsb (hFb _ hsb hsF)) h8 hd rfl hto fun w' h1 h2 => hK w' _ _ ?_ ?_ (fun r hr => .inl hr) h2
    · exact (e1.mono fun r _ e => e ▸ hm.own.2).trans' h1 fun r hr hlt => by omega
    · rintro r (hr | rfl)
      · exact .inl hr
      · exact .inr (Nat.le_refl _)
theorem write_c {m n sb so cp at_ : Nat} {l : List Nat} {M : Nat → Nat} {F : Nat → Prop} (hm : Mem w m n M F)
   (hcp : l.length ≤ cp) (hsrc : Holds w ⟨sb, so, none⟩ (u8s l)) (h8 : ∀ x ∈ l, x < 256) (hsb : sb < w.heap.size) (hsF : ¬ F sb) (hat : at_ + l.length ≤ 4096 * n)
   (hK : ∀ w' F', Fr F w w' → (∀ r, F' r → F r ∨ w.heap.size ≤ r) → (∀ r, F r → F' r) → Mem w' m n (put M at_ l) F' → K (.tuple #[]) w') :
   C P 38 #[ptr m, .int .u32 at_, .slice (some ⟨sb, so, none⟩) l.length cp] w K E := by
  obtain ⟨mb, f, hm⟩ := hm
  have hn := hm.hn
  apply F38
  unfold S38_0
  with_reducible refine x_box1 oneP ?_; refine x_box1 oneS ?_; refine x_load1 blk_alloc_new at_0 ?_; refine x_lenS ?_; refine x_mkFunc ?_
  simp only [size_alloc]
  generalize hw1 : World.alloc _ _ = w1
  have hsz : w1.heap.size = w.heap.size + 2 := by rw [← hw1]; simp only [size_alloc]
  have e1 : Ext w w1 := by rw [← hw1]; exact ((Fr.refl _ w).alloc _).alloc _
  have f0 : w1.heap[w.heap.size]? = some (.cells #[ptr m] 41 (0, 0)) := by rw [← hw1]; refine blk_alloc_old' ?_; exact blk_alloc_new
  have f1 : w1.heap[w.heap.size + 1]? = some (.cells #[.slice (some ⟨sb, so, none⟩) l.length cp] 34 (0, 0)) := by rw [← hw1]; exact blk_alloc_eq (by simp only [size_set, size_alloc])
  have hm1 := hm.frame e1 (fun _ _ => id)
  have hfin := hm.fin
  refine x_callF (split_c (cap := [ptr w.heap.size, ptr (w.heap.size + 1)]) (fun done w' => ∃ f' F', Fr F w1 w' ∧ (∀ r, F' r → F r ∨ w1.heap.size ≤ r) ∧ (∀ r, F r → F' r) ∧ MemR w' m mb n f' (put M at_ (l.take done)) F') (by omega) ?_ ?_ ?_)
  · rintro done to w2 ⟨f', F', h1, h2, h3, h4⟩ hd hto
    have n0 : ¬ F w.heap.size := fun h => by have := hfin _ h; omega
    have n1 : ¬ F (w.heap.size + 1) := fun h => by have := hfin _ h; omega
    have n0' : ¬ F' w.heap.size := fun h => by rcases h2 _ h with h | h; exact n0 h; omega
    have n1' : ¬ F' (w.heap.size + 1) := fun h => by rcases h2 _ h with h | h; exact n1 h; omega
    have ns' : ¬ F' sb := fun h => by rcases h2 _ h with h | h; exact hsF h; omega
    have hs1 := holds_fr hsrc e1 hsb id
    refine wr_c h4 (h1.get n0 f0) (h1.get n1 f1) rfl hcp (holds_fr hs1 h1 (by omega) hsF) h8 (by have := h1.size; omega) ns' n0' n1' hd hto hat fun w3 f3 F3 k1 k2 k3 k4 => ⟨f3, F3, h1.trans' k1 ?_, ?_, fun r hr => k3 r (h3 r hr), ?_⟩
    · intro r hr hlt
      rcases h2 r hr with h | h
      · exact h
      · omega
    · intro r hr
      rcases k2 r hr with h | h
      · exact h2 r h
      · have := h1.size; exact .inr (by omega)
    · have hl : (l.take done).length = done := by rw [List.length_take]; omega
      have := put_put (M := M) (a := at_) (l := l.take done) (k := (l.drop done).take (to - (at_ + done) % 4096))
      rw [hl] at this
      rw [this, ← List.take_add] at k4
      exact k4
  · exact ⟨f, F, Fr.refl _ _, fun r hr => .inl hr, fun r hr => hr, by rw [List.take_zero, put_nil]; exact hm1⟩
  · rintro w2 ⟨f', F', h1, h2, h3, h4⟩
    rw [List.take_of_length_le (Nat.le_refl _)] at h4
    exact hK w2 F' ((Fr.of_ext e1).trans h1) (fun r hr => by rcases h2 r hr with h | h; exact .inl h; exact .inr (by omega)) h3 ⟨mb, f', h4⟩
end Go.Eng
namespace Go.Eng
open Go.Proofs Go.MapKept
variable {w : World} {K : Value → World → Prop} {E : List PanicEntry → World → Prop}
def stb (v : Nat) : List Nat := [v % 256, v / 256 % 256, v / 65536 % 256, v / 16777216 % 256]
theorem Store_c {m n at_ v : Nat} {size : Int} {M : Nat → Nat} {F : Nat → Prop} (hm : Mem w m n M F) (ha : at_ < 4294967296) (hv : v < 4294967296) (hl : -9223372036854775808 ≤ size ∧ size ≤ 9223372036854775807)
   (h0 : ¬ (size = 1 ∨ size = 2 ∨ size = 4) → K (.int .i64 20) w) (h1 : (size = 1 ∨ size = 2 ∨ size = 4) → (at_ : Int) % size ≠ 0 → K (.int .i64 21) w)
   (h2 : (size = 1 ∨ size = 2 ∨ size = 4) → (at_ : Int) % size = 0 → n * 4096 < at_ + size → K (.int .i64 22) w)
   (h3 : ∀ (s : Nat) w' F', size = s → (s = 1 ∨ s = 2 ∨ s = 4) → at_ % s = 0 → at_ + s ≤ 4096 * n → Fr F w w' → (∀ r, F' r → F r ∨ w.heap.size ≤ r) → (∀ r, F r → F' r) → Mem w' m n (put M at_ ((stb v).take s)) F' → K (.int .i64 0) w') :
   C P 16 #[ptr m, .int .u32 at_, .int .i64 size, .int .u32 v] w K E := by
  have hm0 := hm
  obtain ⟨mb, f, hm⟩ := hm
  have hn := hm.hn
  apply F16
  unfold S16_0
  refine x_callF (word_c hm.blk (by omega) (by omega) hl (fun h => ?_) (fun h h' => ?_) (fun h h' h'' => ?_) fun h h' h'' => ?_)
  · refine x_neq (fun hc => ?_) (fun hc => by omega)
    with_reducible refine Cnd.yes ?_
    exact h0 h
  · refine x_neq (fun hc => ?_) (fun hc => by omega)
    with_reducible refine Cnd.yes ?_
    exact h1 h h'
  · refine x_neq (fun hc => ?_) (fun hc => by omega)
    with_reducible refine Cnd.yes ?_
    exact h2 h h' h''
  · refine x_neq (fun hc => by omega) (fun hc => ?_)
    with_reducible refine Cnd.no ?_
    obtain ⟨s, rfl⟩ : ∃ s : Nat, size = s := ⟨size.toNat, by omega⟩
    refine x_conv ?_
    refine x_shr (by decide) (by decide) ?_
    refine x_conv ?_
    refine x_shr (by decide) (by decide) ?_
    refine x_conv ?_
    refine x_shr (by decide) (by decide) ?_
    refine x_conv ?_
    with_reducible refine x_bs_4 oneI oneI oneI oneI ?_
    refine x_sliceSh (by omega) (by omega) ?_
    have e0 : IntKind.u8.wrap (v : Int) = ((v % 256 : Nat) : Int) := by rw [IntKind.wrap_u8]; omega
    have e1 : IntKind.u8.wrap ((v : Int) / 2 ^ (8 : Int).toNat) = ((v / 256 % 256 : Nat) : Int) := by rw [IntKind.wrap_u8, show (8 : Int).toNat = 8 from rfl]; omega
    have e2 : IntKind.u8.wrap ((v : Int) / 2 ^ (16 : Int).toNat) = ((v / 65536 % 256 : Nat) : Int) := by rw [IntKind.wrap_u8, show (16 : Int).toNat = 16 from rfl]; omega
    have e3 : IntKind.u8.wrap ((v : Int) / 2 ^ (24 : Int).toNat) = ((v / 16777216 % 256 : Nat) : Int) := by rw [IntKind.wrap_u8, show (24 : Int).toNat = 24 from rfl]; omega
    rw [e0, e1, e2, e3]
    have hs : ((stb v).take s).length = s := by rw [List.length_take]; simp [stb]; omega
    have hH : Holds (w.alloc (.cells (u8s (stb v)).toArray 5 (0, 0))) ⟨w.heap.size, 0, none⟩ (u8s ((stb v).take s)) := by
      have := holds_blk (w := w.alloc (.cells (u8s (stb v)).toArray 5 (0, 0))) (b := w.heap.size) (o := 0) (n := 4) blk_alloc_new (by simp [u8s, stb])
      refine holds_take ?_
      have e : ((u8s (stb v)).toArray.toList.drop 0).take 4 = u8s (stb v) := by simp [u8s, stb]
      rwa [e] at this
    have hx : Ext w (w.alloc (.cells (u8s (stb v)).toArray 5 (0, 0))) := (Fr.refl _ w).alloc _
    have hfin := hm.fin
    have := write_c (w := w.alloc (.cells (u8s (stb v)).toArray 5 (0, 0))) (m := m) (at_ := at_) (cp := 4) (l := (stb v).take s) (E := E) (K := fun _ w' => K (.int .i64 0) w') (hm0.ext hx) (by omega) hH (fun x hx => by
      have := List.mem_of_mem_take hx
      simp [stb] at this
      omega) lt_alloc_new (fun h => by have := hfin _ ‹_›; omega) (by omega) fun w' F' k1 k2 k3 k4 => h3 s w' F' rfl (by omega) (by omega) (by omega) ((Fr.of_ext hx).trans k1) (fun r hr => by rcases k2 r hr with h | h; exact .inl h; rw [size_alloc] at h; exact .inr (by omega)) k3 k4
    rw [hs] at this
    exact x_callF this
end Go.Eng
namespace Go.Eng
open Go.Proofs Go.MapKept
variable {w : World} {K : Value → World → Prop} {E : List PanicEntry → World → Prop}
theorem Mul_c {x y : Nat} (hx : x < 65536) (hy : y < 4294967296) (h : K (.tuple #[.int .u64 0, .int .u64 (x * y : Nat)]) w) : C P 105 #[.int .u64 x, .int .u64 y] w K E := by
  have hxy : x * y < 65536 * 4294967296 := Nat.mul_lt_mul'' hx hy
  apply F105
  unfold S105_0
  with_reducible refine Cnd.no ?_
  refine x_callF ?_
  apply F111
  unfold S111_0
  refine x_and64 (b' := 2 ^ 32 - 1) (by omega) (by omega) (by omega) mask ?_
  refine x_shr (by decide) (by decide) ?_
  refine x_and64 (b' := 2 ^ 32 - 1) (by omega) (by omega) (by omega) mask ?_
  refine x_shr (by decide) (by decide) ?_
  have a1 : x % 2 ^ 32 = x := Nat.mod_eq_of_lt (by omega)
  have a2 : y % 2 ^ 32 = y := Nat.mod_eq_of_lt (by omega)
  have a3 : (x : Int) / 2 ^ (32 : Int).toNat = 0 := by rw [show (32 : Int).toNat = 32 from rfl]; omega
  have a4 : (y : Int) / 2 ^ (32 : Int).toNat = 0 := by rw [show (32 : Int).toNat = 32 from rfl]; omega
  have a5 : (x : Int) * (y : Int) = ((x * y : Nat) : Int) := by push_cast; rfl
  rw [a1, a2, a3, a4]
  refine x_mul ?_
  rw [a5, show IntKind.u64.wrap ((x * y : Nat) : Int) = ((x * y : Nat) : Int) by rw [wrap_u64]; omega]
  generalize hz : x * y = z at *
  refine x_mul ?_
  rw [Int.zero_mul]
  refine x_shr (by decide) (by decide) ?_
  rw [show (32 : Int).toNat = 32 from rfl]
  refine x_add ?_
  have b1 : IntKind.u64.wrap (IntKind.u64.wrap 0 + (z : Int) / 2 ^ 32) = ((z / 2 ^ 32 : Nat) : Int) := by simp only [wrap_u64]; omega
  rw [b1]
  refine x_and64 (b' := 2 ^ 32 - 1) (by omega) (by omega) (by omega) mask ?_
  refine x_shr (by decide) (by decide) ?_
  rw [show (32 : Int).toNat = 32 from rfl]
  refine x_mul ?_
  rw [Int.mul_zero]
  refine x_add ?_
  have b2 : IntKind.u64.wrap (((z / 2 ^ 32 % 2 ^ 32 : Nat) : Int) + IntKind.u64.wrap 0) = ((z / 2 ^ 32 % 2 ^ 32 : Nat) : Int) := by simp only [wrap_u64]; omega
  rw [b2]
  refine x_mul ?_
  rw [Int.zero_mul]
  refine x_add ?_
  have b3 : IntKind.u64.wrap (IntKind.u64.wrap 0 + ((z / 2 ^ 32 : Nat) : Int) / 2 ^ 32) = 0 := by simp only [wrap_u64]; omega
  rw [b3]
  refine x_shr (by decide) (by decide) ?_
  rw [show (32 : Int).toNat = 32 from rfl]
  refine x_add ?_
  have b4 : IntKind.u64.wrap (0 + ((z / 2 ^ 32 % 2 ^ 32 : Nat) : Int) / 2 ^ 32) = 0 := by simp only [wrap_u64]; omega
  rw [b4]
  refine x_mul ?_
  rw [a5, show IntKind.u64.wrap ((z : Nat) : Int) = (z : Int) by rw [wrap_u64]; omega]
  with_reducible refine x_extract at_0 ?_; refine x_extract at_1 ?_
  exact h
theorem Repeat_c {b n xb : Nat} (hx : w.heap[xb]? = some (.cells #[.int .u8 b] 5 (0, 0))) (hn : n ≤ 16777216)
   (hK : ∀ w' o, Ext w w' → w.heap.size ≤ o → w'.heap[o]? = some (.cells (u8s (List.replicate n b)).toArray 5 (0, 0)) → K (.slice (some ⟨o, 0, none⟩) n n) w') :
   C P 95 #[.slice (some ⟨xb, 0, none⟩) 1 1, .int .i64 n] w K E := by
  apply F95
  unfold S95_0
  refine x_lss (fun hc => by omega) (fun hc => ?_)
  with_reducible refine Cnd.no ?_
  unfold S95_j3
  with_reducible refine x_lenS ?_; refine x_convN (by rw [wrap_u64]; omega) ?_; refine x_convN (by rw [wrap_u64]; omega) ?_
  refine x_callF (Mul_c (x := 1) (y := n) (by omega) (by omega) ?_)
  rw [Nat.one_mul]
  with_reducible refine x_extract at_0 ?_; refine x_extract at_1 ?_
  refine x_gtr (fun hc => by omega) (fun hc => ?_)
  with_reducible refine XG.yes ?_; refine x_val ?_; refine XG.yes ?_
  refine x_gtr (fun hc => by omega) (fun hc => ?_)
  with_reducible refine x_pickF ?_; refine Cnd.no ?_
  unfold S95_j6
  with_reducible refine x_convN (by rw [IntKind.wrap_i64]; omega) ?_; refine x_makeN (by omega) (by omega) ?_
  generalize hw1 : World.alloc _ _ = w1
  have e1 : Ext w w1 := by rw [← hw1]; exact (Fr.refl _ w).alloc _
  have ho : w1.heap[w.heap.size]? = some (.cells (u8s (List.replicate 0 b) ++ u8s (List.replicate (n - 0) 0)).toArray 5 (0, 0)) := by
    rw [← hw1, blk_alloc_new, madeCells_1]
    refine congrArg (fun c => some (Obj.cells c 5 (0, 0))) (Array.ext' ?_)
    simp [u8s]
  have hx1 := e1.get hx
  have hlt := lt_of_blk hx
  have len : ∀ d, d ≤ n → (u8s (List.replicate d b) ++ u8s (List.replicate (n - d) 0)).toArray.size = n := fun d hd => by simp [u8s]; omega
  have key : ∀ (d c : Nat), d + c ≤ n → lay (u8s (List.replicate d b) ++ u8s (List.replicate (n - d) 0)).toArray (0 + d * 1) (u8s (List.replicate c b)) = (u8s (List.replicate (d + c) b) ++ u8s (List.replicate (n - (d + c)) 0)).toArray := fun d c h => by
    refine Array.ext' ?_
    simp only [lay, u8s, List.map_replicate, List.length_replicate]
    rw [show 0 + d * 1 = d by omega, List.take_append_of_le_length (by simp), List.take_of_length_le (by simp), List.drop_append, List.drop_of_length_le (by simp), List.nil_append, List.drop_replicate, List.length_replicate, List.replicate_append_replicate]
    congr 2
    omega
  have fin : ∀ w2 d, d ≤ n → ¬ d < n → Fr (fun r => r = w.heap.size) w1 w2 → w2.heap[w.heap.size]? = some (.cells (u8s (List.replicate d b) ++ u8s (List.replicate (n - d) 0)).toArray 5 (0, 0)) → K (.slice (some ⟨w.heap.size, 0, none⟩) n n) w2 := fun w2 d h1 h2 h3 h4 => by
    obtain rfl : d = n := by omega
    refine hK w2 _ (e1.trans' h3 fun r hr hlt => by omega) (Nat.le_refl _) ?_
    rw [h4]
    simp [u8s]
  have loop : ∀ (d : Nat) w2, d ≤ n → (1 ≤ d ∨ n = 0) → Fr (fun r => r = w.heap.size) w1 w2 → w2.heap[w.heap.size]? = some (.cells (u8s (List.replicate d b) ++ u8s (List.replicate (n - d) 0)).toArray 5 (0, 0)) →
      S95_l8 (.slice (some ⟨w.heap.size, 0, none⟩) n n) (.int .i64 d) w2 (fun x7 y => S95_j10 x7 y K E) E := fun d w2 h1 h2 h3 h4 => by
    unfold S95_l8
    refine ⟨fun v8 w3 => ∃ d : Nat, v8 = .int .i64 d ∧ d ≤ n ∧ (1 ≤ d ∨ n = 0) ∧ Fr (fun r => r = w.heap.size) w1 w3 ∧ w3.heap[w.heap.size]? = some (.cells (u8s (List.replicate d b) ++ u8s (List.replicate (n - d) 0)).toArray 5 (0, 0)), fun v8 _ => match v8 with | .int _ d => n - d.toNat | _ => 0, ⟨d, rfl, h1, h2, h3, h4⟩, ?_⟩
    rintro _ w3 ⟨d, rfl, h1, h2, h3, h4⟩
    unfold S95_b8
    with_reducible refine x_lenS ?_
    refine x_lss (fun hc => ?_) (fun hc => ?_)
    with_reducible refine Cnd.yes ?_; refine XQ.of rfl ?_
    rotate_left
    with_reducible refine Cnd.no ?_
    rotate_left
    · refine x_slF (by omega) (by omega) ?_
      with_reducible refine qstep ?_; refine XQ.of rfl ?_
      refine x_sliceSh (by omega) (by omega) ?_
      with_reducible refine qstep ?_
      rw [Int.toNat_natCast]
      refine x_copy (xs := u8s (List.replicate (min d (n - d)) b)) ‹_› (by rw [u8s_len, List.length_replicate]; show _ = min d (n - d) * 1; omega) ?_ (by rw [u8s_len, List.length_replicate, len d h1]; omega) u8s_one ?_
      · have := holds_blk (w := drw w3) (o := 0) (n := min d (n - d)) h4 (by rw [len d h1]; omega)
        rw [List.toList_toArray, List.drop_zero, List.take_append_of_le_length (by simp [u8s]; omega), u8s_take, List.take_replicate, show min (min d (n - d)) d = min d (n - d) by omega] at this
        exact this
      · rw [key _ _ (by omega)]
        have hmin : Nat.min d (n - d) = min d (n - d) := rfl
        rw [hmin]
        with_reducible refine XQ.of rfl ?_; refine x_addN (by rw [IntKind.wrap_i64]; omega) ?_; refine qstep ?_
        refine ⟨⟨d + min d (n - d), by congr 1, by omega, by omega, h3.drw.set (fun _ => rfl) _, blk_set_same (show w.heap.size < (drw w3).heap.size from lt_of_blk h4)⟩, ?_⟩
        simp only
        omega
    · unfold S95_j10
      exact fin w3 d h1 (by omega) h3 h4
  by_cases h0 : n = 0
  · refine x_copy0 (by rw [h0]; rfl) ?_
    exact loop 0 w1 (by omega) (.inr h0) (Fr.refl _ _) ho
  · refine x_copy (xs := u8s (List.replicate 1 b)) ho (by show 1 = min 1 n * 1; omega) ?_ (by rw [len 0 (by omega)]; simp [u8s]; omega) u8s_one ?_
    · exact holds_blk (w := w1) (o := 0) (n := 1) hx1 (by simp)
    · have hk := key 0 1 (by omega)
      rw [show 0 + 0 * 1 = 0 by omega] at hk
      rw [hk, show ((Nat.min 1 n : Nat) : Int) = ((1 : Nat) : Int) by rw [show Nat.min 1 n = min 1 n from rfl]; omega]
      refine loop 1 _ (by omega) (.inl (by omega)) ((Fr.refl (fun r => r = w.heap.size) w1).set (fun _ => rfl) _) ?_
      exact blk_set_same (lt_of_blk ho)
theorem Fill_c {m n at_ b : Nat} {len : Int} {M : Nat → Nat} {F : Nat → Prop} (hm : Mem w m n M F) (ha : at_ < 4294967296) (hb : b < 256) (hl : -9223372036854775808 ≤ len ∧ len ≤ 9223372036854775807)
   (h0 : len < 0 → K (.int .i64 20) w) (h1 : 0 ≤ len → n * 4096 < at_ + len → K (.int .i64 22) w)
   (h2 : ∀ (L : Nat) w' F', len = L → at_ + L ≤ 4096 * n → Fr F w w' → (∀ r, F' r → F r ∨ w.heap.size ≤ r) → (∀ r, F r → F' r) → Mem w' m n (put M at_ (List.replicate L b)) F' → K (.int .i64 0) w') :
   C P 74 #[ptr m, .int .u32 at_, .int .i64 len, .int .u8 b] w K E := by
  have hm0 := hm
  obtain ⟨mb, f, hm⟩ := hm
  have hn := hm.hn
  have hfin := hm.fin
  apply F74
  unfold S74_0
  refine x_callF (place_c hm.blk (by omega) (by omega) hl (fun h => ?_) (fun h h' => ?_) fun h h' => ?_)
  · refine x_neq (fun hc => ?_) (fun hc => by omega)
    with_reducible refine Cnd.yes ?_
    exact h0 h
  · refine x_neq (fun hc => ?_) (fun hc => by omega)
    with_reducible refine Cnd.yes ?_
    exact h1 h (by omega)
  · obtain ⟨L, rfl⟩ : ∃ L : Nat, len = L := ⟨len.toNat, by omega⟩
    refine x_neq (fun hc => by omega) (fun hc => ?_)
    with_reducible refine Cnd.no ?_; refine x_bs_1 oneI ?_
    refine x_callF (Repeat_c (b := b) (xb := w.heap.size) blk_alloc_new (by omega) fun w' o k1 k2 k3 => ?_)
    have e1 : Ext w w' := ((Fr.refl _ w).alloc _).trans k1
    rw [size_alloc] at k2
    have := write_c (w := w') (m := m) (at_ := at_) (cp := L) (l := List.replicate L b) (E := E) (K := fun _ w' => K (.int .i64 0) w') (sb := o) (so := 0) (hm0.ext e1) (by simp) (by
      have := holds_blk (w := w') (o := 0) (n := L) k3 (by simp [u8s])
      rw [List.toList_toArray, List.drop_zero, List.take_of_length_le (by simp [u8s])] at this
      exact this) (fun x hx => by rw [(List.mem_replicate.1 hx).2]; exact hb) (lt_of_blk k3) (fun h => by have := hfin _ h; omega) (by rw [List.length_replicate]; omega) fun w2 F' q1 q2 q3 q4 => h2 L w2 F' rfl (by omega) ((Fr.of_ext e1).trans q1) (fun r hr => by rcases q2 r hr with h | h; exact .inl h; have := e1.size; exact .inr (by omega)) q3 q4
    rw [List.length_replicate] at this
    exact x_callF this
end Go.Eng
namespace Go.Eng
open Go.Proofs Go.MapKept
variable {w : World} {K : Value → World → Prop} {E : List PanicEntry → World → Prop}
abbrev arenaO (m base pages taken : Nat) (sl : Bool) : Obj := .cells #[ptr m, .int .u32 base, .int .i64 pages, .int .i64 taken, .bool sl] 106 (0, 0)
theorem ArenaNew_c {m n base : Nat} {pages : Int} {M : Nat → Nat} {F : Nat → Prop} (hm : Mem w m n M F) (hb : base < 4294967296) (hp : -9223372036854775808 ≤ pages ∧ pages ≤ 9223372036854775807)
   (h0 : ¬ (base % 4096 = 0 ∧ 0 ≤ pages ∧ base / 4096 + pages ≤ n) → K (.tuple #[.pointer none, .int .i64 60]) w)
   (h1 : ∀ p : Nat, pages = p → base % 4096 = 0 → base / 4096 + p ≤ n → K (.tuple #[ptr w.heap.size, .int .i64 0]) (w.alloc (arenaO m base p 0 false))) :
   C P 20 #[ptr m, .int .u32 base, .int .i64 pages] w K E := by
  have hn : 1 ≤ n ∧ n ≤ 4096 := by obtain ⟨_, _, h⟩ := hm; exact h.hn
  apply F20
  unfold S20_0
  with_reducible refine x_eqlP ?_; refine XG.yes ?_; refine x_val ?_; refine XG.yes ?_; refine x_remN (by omega) (by omega) ?_; refine XG.yes ?_
  refine x_neq (fun hc => ?_) (fun hc => ?_)
  with_reducible refine x_pickF ?_; refine XG.no (by decide) ?_; refine XG.no (by decide) ?_; refine x_pickT ?_; refine XG.no (by decide) ?_; refine XG.no (by decide) ?_; refine XG.no (by decide) ?_; refine XG.no (by decide) ?_; refine x_pickT ?_; refine XG.no (by decide) ?_; refine XG.no (by decide) ?_; refine XG.no (by decide) ?_; refine XG.no (by decide) ?_; refine XG.no (by decide) ?_; refine XG.no (by decide) ?_; refine XG.no (by decide) ?_; refine XG.no (by decide) ?_; refine x_pickT ?_; refine Cnd.yes ?_
  rotate_left
  with_reducible refine x_pickF ?_; refine XG.yes ?_; refine x_val ?_; refine XG.yes ?_
  refine x_lss (fun hc => ?_) (fun hc => ?_)
  with_reducible refine x_pickF ?_; refine XG.no (by decide) ?_; refine XG.no (by decide) ?_; refine XG.no (by decide) ?_; refine XG.no (by decide) ?_; refine x_pickT ?_; refine XG.no (by decide) ?_; refine XG.no (by decide) ?_; refine XG.no (by decide) ?_; refine XG.no (by decide) ?_; refine XG.no (by decide) ?_; refine XG.no (by decide) ?_; refine XG.no (by decide) ?_; refine XG.no (by decide) ?_; refine x_pickT ?_; refine Cnd.yes ?_
  rotate_left
  with_reducible refine x_pickF ?_; refine XG.yes ?_; refine x_val ?_; refine XG.yes ?_; refine x_val ?_; refine XG.yes ?_
  rotate_left
  · exact h0 (by omega)
  · exact h0 (by omega)
  · refine x_callF (pages_c hm ?_)
    with_reducible refine XG.yes ?_
    refine x_gtr (fun hc => ?_) (fun hc => ?_)
    with_reducible refine x_pickF ?_; refine XG.no (by decide) ?_; refine XG.no (by decide) ?_; refine XG.no (by decide) ?_; refine XG.no (by decide) ?_; refine XG.no (by decide) ?_; refine XG.no (by decide) ?_; refine XG.no (by decide) ?_; refine XG.no (by decide) ?_; refine x_pickT ?_; refine Cnd.yes ?_
    rotate_left
    with_reducible refine x_pickF ?_; refine XG.yes ?_; refine x_val ?_; refine XG.yes ?_; refine x_quoN (by omega) (by omega) (by rw [IntKind.wrap_u32]; omega) ?_; refine XG.yes ?_; refine x_convN (by rw [IntKind.wrap_i64]; omega) ?_; refine XG.yes ?_; refine x_val ?_; refine XG.yes ?_; refine x_addN (by rw [IntKind.wrap_i64]; omega) ?_; refine XG.yes ?_; refine x_val ?_; refine XG.yes ?_
    rotate_left
    · exact h0 (by omega)
    · refine x_callF (pages_c hm ?_)
      with_reducible refine XG.yes ?_
      refine x_gtr (fun hc => ?_) (fun hc => ?_)
      with_reducible refine x_pickF ?_; refine Cnd.yes ?_
      rotate_left
      with_reducible refine x_pickF ?_; refine Cnd.no ?_; refine x_buildS (by apply fill_1; exact inferInstance; exact oneP; exact set_0; apply fill_1; exact inferInstance; exact oneI; apply set_S; exact set_0; rotate_left; apply fill_1; exact inferInstance; exact oneI; apply set_S; apply set_S; exact set_0; rotate_left; rotate_left; exact fill_nil; rotate_left; rotate_left; rotate_left; rotate_left; rotate_left; rotate_left) ?_; refine x_boxA ?_
      rotate_left
      · exact h0 (by omega)
      · obtain ⟨p, rfl⟩ : ∃ p : Nat, pages = p := ⟨pages.toNat, by omega⟩
        exact h1 p rfl (by omega) (by omega)
theorem arenaMem_c {a m base pages taken : Nat} {sl : Bool} (ha : w.heap[a]? = some (arenaO m base pages taken sl)) (h : K (ptr m) w) : C P 51 #[ptr a] w K E := by
  apply F51
  unfold S51_0
  with_reducible refine x_nil ?_; refine x_field0 ?_; refine x_load1 ‹_› at_0 ?_
  exact h
theorem sealed_c {a m base pages taken : Nat} {sl : Bool} (ha : w.heap[a]? = some (arenaO m base pages taken sl)) (h : K (.bool sl) w) : C P 57 #[ptr a] w K E := by
  apply F57
  unfold S57_0
  with_reducible refine x_nil ?_; refine x_field0 ?_; refine x_load1 ‹_› (at_S (at_S at_2)) ?_
  exact h
theorem left_c {a m base pages taken : Nat} {sl : Bool} (ha : w.heap[a]? = some (arenaO m base pages taken sl)) (hp : taken ≤ pages) (hp2 : pages ≤ 4096) (h : K (.int .i64 (pages - taken : Nat)) (drw w)) : C P 58 #[ptr a] w K E := by
  apply F58
  unfold S58_0
  with_reducible refine XQ.of rfl ?_; refine x_nil ?_; refine qstep ?_; refine XQ.of rfl ?_; refine x_field0 ?_; refine qstep ?_; refine XQ.of rfl ?_; refine x_load1 ‹_› at_2 ?_; refine qstep ?_; refine XQ.of rfl ?_; refine x_nil ?_; refine qstep ?_; refine XQ.of rfl ?_; refine x_field0 ?_; refine qstep ?_; refine XQ.of rfl ?_; refine x_load1 ‹_› (at_S at_2) ?_; refine qstep ?_; refine XQ.of rfl ?_; refine x_subN (by rw [IntKind.wrap_i64]; omega) ?_; refine qstep ?_
  rwa [show ((pages - taken : Nat) : Int) = (pages : Int) - taken by omega] at h
theorem Take_c {a m n base pages taken : Nat} {sl : Bool} {M : Nat → Nat} {F : Nat → Prop} (hm : Mem w m n M F) (ha : w.heap[a]? = some (arenaO m base pages taken sl)) (haF : ¬ F a)
   (hb : base % 4096 = 0) (hbp : base / 4096 + pages ≤ n) (ht : taken ≤ pages)
   (h0 : sl = true → K (.tuple #[.int .u32 0, .int .i64 62]) w)
   (h1 : sl = false → taken = pages → K (.tuple #[.int .u32 0, .int .i64 61]) (drw w))
   (h2 : ∀ w' F', sl = false → taken < pages → Fr (fun r => F r ∨ r = a) w w' → (∀ r, F' r → F r ∨ w.heap.size ≤ r) → (∀ r, F r → F' r) → Mem w' m n (put M (base + 4096 * taken) (List.replicate 4096 0)) F' →
     w'.heap[a]? = some (arenaO m base pages (taken + 1) sl) → K (.tuple #[.int .u32 (base + 4096 * taken : Nat), .int .i64 0]) w') :
   C P 46 #[ptr a] w K E := by
  have hn : 1 ≤ n ∧ n ≤ 4096 := by obtain ⟨_, _, h⟩ := hm; exact h.hn
  apply F46
  unfold S46_0
  cases sl with
  | true => refine x_nil ?_; refine x_field0 ?_; refine x_load1 ‹_› (at_S (at_S at_2)) ?_; refine Cnd.yes ?_; exact h0 rfl
  | false =>
    with_reducible refine x_nil ?_; refine x_field0 ?_; refine x_load1 ‹_› (at_S (at_S at_2)) ?_; refine Cnd.no ?_; refine XQ.of rfl ?_; refine x_nil ?_; refine qstep ?_; refine XQ.of rfl ?_; refine x_field0 ?_; refine qstep ?_; refine XQ.of rfl ?_; refine x_load1 ‹_› (at_S at_2) ?_; refine qstep ?_; refine XQ.of rfl ?_; refine x_nil ?_; refine qstep ?_; refine XQ.of rfl ?_; refine x_field0 ?_; refine qstep ?_; refine XQ.of rfl ?_; refine x_load1 ‹_› at_2 ?_; refine qstep ?_; refine XQ.of rfl ?_
    refine x_eql (fun hc => ?_) (fun hc => ?_)
    with_reducible refine qstep ?_; refine Cnd.yes ?_
    rotate_left
    with_reducible refine qstep ?_; refine Cnd.no ?_; refine XQ.of rfl ?_; refine x_nil ?_; refine qstep ?_; refine XQ.of rfl ?_; refine x_field0 ?_; refine qstep ?_; refine XQ.of rfl ?_; refine x_load1 ‹_› at_1 ?_; refine qstep ?_; refine XQ.of rfl ?_; refine x_nil ?_; refine qstep ?_; refine XQ.of rfl ?_; refine x_field0 ?_; refine qstep ?_; refine XQ.of rfl ?_; refine x_load1 ‹_› (at_S at_2) ?_; refine qstep ?_; refine XQ.of rfl ?_; refine x_convN (by rw [IntKind.wrap_u32]; omega) ?_; refine qstep ?_; refine XQ.of rfl ?_; refine x_mulN (by rw [IntKind.wrap_u32]; omega) ?_; refine qstep ?_; refine XQ.of rfl ?_; refine x_addN (by rw [IntKind.wrap_u32]; omega) ?_; refine qstep ?_; refine x_nil ?_; refine x_field0 ?_; refine x_load1 ‹_› at_0 ?_
    rotate_left
    · exact h1 rfl (by omega)
    · rw [show (base : Int) + (taken : Int) * 4096 = ((base + 4096 * taken : Nat) : Int) by omega]
      have hx : Ext w (drw (drw w)) := (Fr.refl _ w).drw.drw
      refine x_callF (Fill_c (b := 0) (hm.ext hx) (by omega) (by omega) (by omega) (fun h => by omega) (fun _ h => by omega) fun L w' F' hL _ k1 k2 k3 k4 => ?_)
      obtain rfl : L = 4096 := by omega
      have ha' := k1.get haF (show (drw (drw w)).heap[a]? = _ from ha)
      refine x_neq (fun hc => by omega) (fun hc => ?_)
      with_reducible refine Cnd.no ?_; refine x_nil ?_; refine x_field0 ?_; refine x_load1 ‹_› (at_S at_2) ?_; refine x_addN (by rw [IntKind.wrap_i64]; omega) ?_; refine x_nil ?_; refine x_field0 ?_; refine x_store1 ‹_› oneI (set_S (set_S (set_S set_0))) ?_
      generalize hw2 : setBlk _ _ _ = w2
      have hfa : ¬ F' a := fun h => by rcases k2 a h with h | h; exact haF h; have := lt_of_blk ha; exact absurd h (by show ¬ w.heap.size ≤ a; omega)
      have e2 : Fr (fun r => r = a) w' w2 := by rw [← hw2]; exact (Fr.refl (fun r => r = a) w').set (fun _ => rfl) _
      refine h2 w2 F' rfl (by omega) (((hx.mono fun _ _ h => h.elim).trans' k1 fun r hr _ => .inl hr).trans' e2 fun r hr _ => .inr hr) k2 k3 (k4.frame e2 fun r hr e => hfa (e ▸ hr)) ?_
      rw [← hw2, blk_set_same (lt_of_blk ha')]
      rfl
end Go.Eng
namespace Go.Eng
open Go.Proofs Go.MapKept
variable {w : World} {K : Value → World → Prop} {E : List PanicEntry → World → Prop}
def okPerm (p : Nat) : Bool := p == 1 || p == 3 || p == 4 || p == 5 || p == 7
theorem pagePerm_c {p : Nat} (hp : p < 256) (h : K (.bool (okPerm p)) w) : C P 96 #[.int .u8 p] w K E := by
  apply F96
  unfold S96_0
  refine x_andNot8 (j := 3) (by omega) (by omega) (by omega) ?_
  by_cases h8 : p < 8
  · rw [show p / 2 ^ 3 * 2 ^ 3 = 0 by omega]
    have : p = 0 ∨ p = 1 ∨ p = 2 ∨ p = 3 ∨ p = 4 ∨ p = 5 ∨ p = 6 ∨ p = 7 := by omega
    rcases this with rfl | rfl | rfl | rfl | rfl | rfl | rfl | rfl <;>
      (repeat' (first | exact h | ((first | (refine XG.no (by decide) ?_) | (refine XG.undef ?_) | (refine x_pickT ?_) | (refine x_pickF ?_) | (refine XG.yes ?_) | (refine x_val ?_))) | ((first | (refine x_eql (fun hc => ?_) (fun hc => by omega)) | (refine x_neq (fun hc => ?_) (fun hc => ?_)) | (refine x_eql (fun hc => ?_) (fun hc => ?_)))) | (refine x_and8 (b' := 5) (by omega) rfl (by omega) rfl ?_) | (refine x_and8 (b' := 2) (by omega) rfl (by omega) rfl ?_) | (refine x_and8 (b' := 1) (by omega) rfl (by omega) rfl ?_)))
    all_goals (exfalso; simp at *)
  · refine x_eql (fun hc => by omega) (fun hc => ?_)
    with_reducible refine XG.no (by decide) ?_; refine XG.no (by decide) ?_; refine XG.no (by decide) ?_; refine x_pickF ?_; refine XG.no (by decide) ?_; refine XG.no (by decide) ?_; refine XG.no (by decide) ?_; refine XG.no (by decide) ?_; refine XG.undef ?_; refine XG.undef ?_; refine XG.undef ?_; refine XG.no (by decide) ?_; refine x_pickF ?_
    have e : okPerm p = false := by simp [okPerm]; omega
    rwa [e] at h
def encR (k : Int) (p f : Nat) : Nat × Int :=
  if k = 0 then if p ≠ 0 then (0, 41) else if 0 < f then (0, 42) else (0, 0)
  else if k = 1 then if okPerm p = false then (0, 41) else if 4095 < f then (0, 42) else (4096 * f + (1 + p * 2), 0)
  else if k = 2 then if p ≠ 0 then (0, 41) else if 4095 < f then (0, 42) else (4096 * f + 17, 0)
  else (0, 40)
theorem or_hi {f b : Nat} (h : b < 2 ^ 12) : f * 2 ^ 12 ||| b = 4096 * f + b := by
  rw [Nat.mul_comm, ← Nat.two_pow_add_eq_or_of_lt h]
theorem enc_j {m : Nat} {k : Int} {p f bits most : Nat} {ok : Bool} (hm : w.heap[m]? = some (.cells #[.int .i64 k, .int .u8 p, .int .u32 f] 129 (0, 0))) (hf : f < 4294967296) (hb : bits < 4096) (hmost : most ≤ 4095)
   (h0 : ok = false → K (.tuple #[.int .u32 0, .int .i64 41]) w) (h1 : ok = true → most < f → K (.tuple #[.int .u32 0, .int .i64 42]) w) (h2 : ok = true → f ≤ most → K (.tuple #[.int .u32 (4096 * f + bits : Nat), .int .i64 0]) w) :
   S76_j12 (ptr m) (.int .u32 bits) (.int .u32 most) (.bool ok) w K E := by
  unfold S76_j12
  cases ok with
  | false => refine x_notF ?_; refine Cnd.yes ?_; exact h0 rfl
  | true =>
    with_reducible refine x_notT ?_; refine Cnd.no ?_; refine x_field0 ?_; refine x_load1 ‹_› at_2 ?_
    refine x_gtr (fun hc => ?_) (fun hc => ?_)
    with_reducible refine Cnd.yes ?_
    rotate_left
    with_reducible refine Cnd.no ?_; refine x_field0 ?_; refine x_load1 ‹_› at_2 ?_
    rotate_left
    · exact h1 rfl (by omega)
    · refine x_shlN' (s := 12) (by omega) (by omega) (by omega) ?_
      refine x_or32 (a' := f * 2 ^ 12) (b' := bits) rfl (by omega) rfl (by omega) (or_hi hb) ?_
      skip
      exact h2 rfl (by omega)
theorem enc_0a {p f : Nat} (h : p ≠ 0) : encR 0 p f = (0, 41) := by simp [encR, h]
theorem enc_0b {f : Nat} (h : 0 < f) : encR 0 0 f = (0, 42) := by simp [encR]; omega
theorem enc_0c : encR 0 0 0 = (0, 0) := by simp [encR]
theorem enc_1a {p f : Nat} (h : okPerm p = false) : encR 1 p f = (0, 41) := by simp [encR, h]
theorem enc_1b {p f : Nat} (h : okPerm p = true) (hf : 4095 < f) : encR 1 p f = (0, 42) := by simp [encR, h]; omega
theorem enc_1c {p f : Nat} (h : okPerm p = true) (hf : f ≤ 4095) : encR 1 p f = (4096 * f + (1 + p * 2), 0) := by simp [encR, h]; omega
theorem enc_2a {p f : Nat} (h : p ≠ 0) : encR 2 p f = (0, 41) := by simp [encR, h]
theorem enc_2b {f : Nat} (h : 4095 < f) : encR 2 0 f = (0, 42) := by simp [encR]; omega
theorem enc_2c {f : Nat} (h : f ≤ 4095) : encR 2 0 f = (4096 * f + 17, 0) := by simp [encR]; omega
theorem enc_3 {k : Int} {p f : Nat} (h0 : k ≠ 0) (h1 : k ≠ 1) (h2 : k ≠ 2) : encR k p f = (0, 40) := by simp [encR, h0, h1, h2]
theorem enc_1 {w : World} {K : Value → World → Prop} {E : List PanicEntry → World → Prop} {m p f : Nat} {r : Value} (hm : w.heap[m]? = some (.cells #[.int .i64 1, .int .u8 p, .int .u32 f] 129 (0, 0))) (hp : p < 256) (hf : f < 4294967296)
   (h : ∀ w', Ext w w' → K (.tuple #[.int .u32 (encR 1 p f).1, .int .i64 (encR 1 p f).2]) w') :
    X P (.bin .shl 38 false true (.int .u32 p) (.int .u64 1)) 38 (drw w) (fun t19 w' => w' = drw w ∧
      XQ P (.bin .or 38 true false (Value.int IntKind.u32 1) t19) 38 (drw w) (fun t20 =>
      XQ P (.fieldAddr 129 (ptr m) 1) 0 (drw w) (fun t21 =>
      XQ P (.load 58 t21) 58 (drw w) (fun t22 =>
      (X P (.callF 96 #[t22]) 4 (drw w) (fun t23 w_9 =>
      (XQ P (.bin .or 38 true false (Value.int IntKind.u32 1) t19) 38 w_9 (fun v => v = t20)) ∧
      (XQ P (.bin .shl 38 false true (.int .u32 p) (Value.int IntKind.u64 1)) 38 w_9 (fun v => v = t19)) ∧
      (XQ P (.conv 58 38 (.int .u8 p)) 38 w_9 (fun v => v = .int .u32 p)) ∧
      (XQ P (.load 58 (.pointer (some ⟨m, 1, none⟩))) 58 w_9 (fun v => v = .int .u8 p)) ∧
      (XQ P (.fieldAddr 129 (ptr m) 1) 0 w_9 (fun v => v = .pointer (some ⟨m, 1, none⟩))) ∧
      S76_j12 (ptr m) t20 (Value.int IntKind.u32 4095) t23 w_9 K E) E))))) (fun _ _ => False) := by
  have hm' : (drw w).heap[m]? = some (.cells #[.int .i64 1, .int .u8 p, .int .u32 f] 129 (0, 0)) := hm
  have hor : 1 ||| p * 2 ^ 1 = 1 + p * 2 := by rw [Nat.or_comm, Nat.mul_comm p, ← Nat.two_pow_add_eq_or_of_lt (by omega)]; omega
  have sh : ∀ (w : World) (K : Value → World → Prop) (E : List PanicEntry → World → Prop), K (.int .u32 (p * 2 ^ 1 : Nat)) w → X P (.bin .shl 38 false true (.int .u32 p) (.int .u64 1)) 38 w K E := fun w K E h => x_shlN' (s := 1) rfl (by omega) (by omega) h
  have oo : ∀ (w : World) (K : Value → World → Prop) (E : List PanicEntry → World → Prop), K (.int .u32 (1 + p * 2 : Nat)) w → X P (.bin .or 38 true false (.int .u32 1) (.int .u32 (p * 2 ^ 1 : Nat))) 38 w K E := fun w K E h => x_or32 (a' := 1) (b' := p * 2 ^ 1) rfl (by omega) rfl (by omega) hor h
  refine sh _ _ _ (qstep ?_)
  refine XQ.of rfl (oo _ _ _ (qstep ?_))
  with_reducible refine XQ.of rfl ?_; refine x_field0 ?_; refine qstep ?_; refine XQ.of rfl ?_; refine x_load1 ‹_› at_1 ?_; refine qstep ?_
  refine x_callF (pagePerm_c hp ?_)
  refine ⟨XQ.of rfl (oo _ _ _ (qstep rfl)), XQ.of rfl (sh _ _ _ (qstep rfl)), ?_, ?_, ?_, ?_⟩
  · with_reducible refine XQ.of rfl ?_; refine x_convN (by rw [IntKind.wrap_u32]; omega) ?_; refine qstep ?_
    rfl
  · with_reducible refine XQ.of rfl ?_; refine x_load1 ‹_› at_1 ?_; refine qstep ?_
    rfl
  · with_reducible refine XQ.of rfl ?_; refine x_field0 ?_; refine qstep ?_
    rfl
  · have hx : Ext w (drw w) := Ext.drw_self w
    by_cases h8 : p < 8
    · refine enc_j (bits := 1 + p * 2) (most := 4095) hm' hf (by omega) (by omega) (fun h1 => ?_) (fun h1 h2 => ?_) fun h1 h2 => ?_
      · have := h _ hx; rwa [enc_1a h1] at this
      · have := h _ hx; rwa [enc_1b h1 h2] at this
      · have := h _ hx; rwa [enc_1c h1 h2] at this
    · have e : okPerm p = false := by simp [okPerm]; omega
      rw [e]
      refine enc_j (bits := 1 + p * 2) (most := 4095) (ok := false) hm' hf (by omega) (by omega) (fun h1 => ?_) (fun h1 h2 => by cases h1) fun h1 h2 => by cases h1
      have := h _ hx; rwa [enc_1a e] at this
theorem Encode_c {k : Int} {p f : Nat} (hp : p < 256) (hf : f < 4294967296) (h : ∀ w', Ext w w' → K (.tuple #[.int .u32 (encR k p f).1, .int .i64 (encR k p f).2]) w') : C P 76 #[.agg #[.int .i64 k, .int .u8 p, .int .u32 f]] w K E := by
  apply F76
  unfold S76_0
  refine x_boxA ?_
  generalize hw1 : World.alloc _ _ = w1
  have hb : w1.heap[w.heap.size]? = some (.cells #[.int .i64 k, .int .u8 p, .int .u32 f] 129 (0, 0)) := by rw [← hw1]; exact blk_alloc_new
  have e1 : Ext w w1 := by rw [← hw1]; exact (Fr.refl _ w).alloc _
  have h' : ∀ w', Ext w1 w' → K (.tuple #[.int .u32 (encR k p f).1, .int .i64 (encR k p f).2]) w' := fun w' hx => h w' (e1.trans hx)
  have h1 := h' w1 (Fr.refl _ _)
  have case1 : k = 1 → _ := fun hk => enc_1 (w := w1) (K := K) (E := E) (m := w.heap.size) (p := p) (f := f) (r := undef) (by rw [← hk]; exact hb) hp hf (by rw [← hk]; exact h')
  with_reducible refine x_field0 ?_; refine x_load1 ‹_› at_1 ?_
  refine x_eql (fun hc => ?_) (fun hc => ?_)
  with_reducible refine x_field0 ?_; refine x_load1 ‹_› at_0 ?_
  refine x_eql (fun hc => ?_) (fun hc => ?_)
  with_reducible refine Cnd.yes ?_
  rotate_left
  with_reducible refine Cnd.no ?_
  refine x_eql (fun hc => ?_) (fun hc => ?_)
  with_reducible refine Cnd.yes ?_; refine XQ.of rfl ?_; refine x_field0 ?_; refine qstep ?_; refine XQ.of rfl ?_; refine x_load1 ‹_› at_1 ?_; refine qstep ?_; refine XQ.of rfl ?_; refine x_convN (by rw [IntKind.wrap_u32]; omega) ?_; refine qstep ?_; refine XQ.of rfl ?_
  rotate_left
  with_reducible refine Cnd.no ?_
  refine x_eql (fun hc => ?_) (fun hc => ?_)
  with_reducible refine Cnd.yes ?_
  rotate_left
  with_reducible refine Cnd.no ?_
  rotate_left
  with_reducible refine x_field0 ?_; refine x_load1 ‹_› at_0 ?_
  refine x_eql (fun hc => ?_) (fun hc => ?_)
  with_reducible refine Cnd.yes ?_
  rotate_left
  with_reducible refine Cnd.no ?_
  refine x_eql (fun hc => ?_) (fun hc => ?_)
  with_reducible refine Cnd.yes ?_; refine XQ.of rfl ?_; refine x_field0 ?_; refine qstep ?_; refine XQ.of rfl ?_; refine x_load1 ‹_› at_1 ?_; refine qstep ?_; refine XQ.of rfl ?_; refine x_convN (by rw [IntKind.wrap_u32]; omega) ?_; refine qstep ?_; refine XQ.of rfl ?_
  rotate_left
  with_reducible refine Cnd.no ?_
  refine x_eql (fun hc => ?_) (fun hc => ?_)
  with_reducible refine Cnd.yes ?_
  rotate_left
  with_reducible refine Cnd.no ?_
  rotate_left
  · obtain rfl : p = 0 := by omega
    subst k
    refine enc_j (bits := 0) (most := 0) hb hf (by omega) (by omega) (fun h => by cases h) (fun _ h2 => ?_) fun _ h2 => ?_
    · rwa [enc_0b h2] at h1
    · obtain rfl : f = 0 := by omega
      rwa [enc_0c] at h1
  · exact case1 ‹_›
  · obtain rfl : p = 0 := by omega
    subst k
    refine enc_j (bits := 17) (most := 4095) hb hf (by omega) (by omega) (fun h => by cases h) (fun _ h2 => ?_) fun _ h2 => ?_
    · rwa [enc_2b h2] at h1
    · rwa [enc_2c h2] at h1
  · rwa [enc_3 (by omega) (by omega) (by omega)] at h1
  · subst k
    refine enc_j (bits := 0) (most := 0) hb hf (by omega) (by omega) (fun _ => ?_) (fun h _ => by cases h) fun h _ => by cases h
    rwa [enc_0a (by omega)] at h1
  · exact case1 ‹_›
  · subst k
    refine enc_j (bits := 17) (most := 4095) hb hf (by omega) (by omega) (fun _ => ?_) (fun h _ => by cases h) fun h _ => by cases h
    rwa [enc_2a (by omega)] at h1
  · rwa [enc_3 (by omega) (by omega) (by omega)] at h1
end Go.Eng
namespace Go.Eng
open Go.Proofs Go.MapKept
variable {w : World} {K : Value → World → Prop} {E : List PanicEntry → World → Prop}
def kindOf (v : Nat) : Int := if v / 16 % 2 = 1 then 2 else 1
def decR (v : Nat) : Int × Nat × Nat × Int :=
  if v = 0 then (0, 0, 0, 0) else if v % 2 = 0 ∨ v / 32 % 128 ≠ 0 then (0, 0, 0, 43)
  else if (encR (kindOf v) (v / 2 % 8) (v / 4096)).2 ≠ 0 then (0, 0, 0, (encR (kindOf v) (v / 2 % 8) (v / 4096)).2) else (kindOf v, v / 2 % 8, v / 4096, 0)
theorem and14 (v : Nat) : v &&& 14 = v / 2 % 8 * 2 := by
  have h : ∀ r, r < 16 → r &&& 14 = r / 2 % 8 * 2 := by decide
  have e : v &&& 14 = (v &&& (2 ^ 4 - 1)) &&& 14 := by rw [Nat.and_assoc]; rfl
  rw [e, mask, h _ (Nat.mod_lt _ (by decide))]
  omega
theorem and16 (v : Nat) : v &&& 16 = v / 16 % 2 * 16 := by
  have h : ∀ r, r < 32 → r &&& 16 = r / 16 % 2 * 16 := by decide
  have e : v &&& 16 = (v &&& (2 ^ 5 - 1)) &&& 16 := by rw [Nat.and_assoc]; rfl
  rw [e, mask, h _ (Nat.mod_lt _ (by decide))]
  omega
abbrev entV (k : Int) (p f : Nat) : Value := .agg #[.int .i64 k, .int .u8 p, .int .u32 f]
theorem dec_j {a b : Nat} {k : Int} {p f : Nat} {c0 c1 c2 : Value} (ha : w.heap[a]? = some (.cells #[c0, c1, c2] 129 (0, 0))) (hb : w.heap[b]? = some (.cells #[.int .i64 k, .int .u8 p, .int .u32 f] 129 (0, 0))) (hab : a ≠ b) (hp : p < 256) (hf : f < 4294967296)
   (h0 : ∀ w', Fr (fun r => r = a) w w' → (encR k p f).2 ≠ 0 → K (.tuple #[entV 0 0 0, .int .i64 (encR k p f).2]) w') (h1 : ∀ w', Fr (fun r => r = a) w w' → (encR k p f).2 = 0 → K (.tuple #[entV k p f, .int .i64 0]) w') :
   S54_j8 (ptr a) (ptr b) w K E := by
  unfold S54_j8
  with_reducible refine x_loadA ‹_› (sub_cons (sub_cons (sub_cons sub_nil))) ?_
  refine x_callF (Encode_c hp hf fun w' hx => ?_)
  have ha' := hx.get ha
  have hb' := hx.get hb
  with_reducible refine x_extract at_0 ?_; refine x_extract at_1 ?_
  refine x_neq (fun hc => ?_) (fun hc => ?_)
  with_reducible refine Cnd.yes ?_; refine x_buildS fill_nil ?_; refine x_storeA ‹_› rfl (by decide) (lay_cons (lay_cons (lay_cons lay_nil))) ?_
  rotate_left
  with_reducible refine Cnd.no ?_; refine x_loadA ‹_› (sub_cons (sub_cons (sub_cons sub_nil))) ?_; refine x_storeA ‹_› rfl (by simp [Value.oneCell']) (lay_cons (lay_cons (lay_cons lay_nil))) ?_
  rotate_left
  · refine xres_2 (rv_loadA (by exact blk_set_same (by exact lt_of_blk ‹_›)) (sub_cons (sub_cons (sub_cons sub_nil)))) rv_val ?_
    refine h0 _ ?_ ‹_›
    exact Fr.set1 (Fr.of_ext hx)
  · refine xres_2 (rv_loadA (by exact blk_set_same (by exact lt_of_blk ‹_›)) (sub_cons (sub_cons (sub_cons sub_nil)))) rv_val ?_
    refine h1 _ ?_ ‹_›
    exact Fr.set1 (Fr.of_ext hx)
theorem Decode_c {v : Nat} (hv : v < 4294967296) (h : ∀ w', Ext w w' → K (.tuple #[entV (decR v).1 (decR v).2.1 (decR v).2.2.1, .int .i64 (decR v).2.2.2]) w') : C P 54 #[.int .u32 v] w K E := by
  apply F54
  unfold S54_0
  refine x_alloc ?_
  generalize hw1 : World.alloc _ _ = w1
  have hb : w1.heap[w.heap.size]? = some (.cells #[.int .i64 0, .int .u8 0, .int .u32 0] 129 (0, 0)) := by rw [← hw1]; exact blk_alloc_new
  have e1 : Ext w w1 := by rw [← hw1]; exact (Fr.refl _ w).alloc _
  have hlt1 := lt_of_blk hb
  have hset : ∀ w', Fr (fun r => r = w.heap.size) w1 w' → Ext w w' := fun w' hx => e1.trans' hx fun r hr hlt => by omega
  have hs1 : ∀ o, Ext w (setBlk w1 w.heap.size o) := fun o => hset _ (Fr.set1 (Fr.refl _ _))
  have key0 : v = 0 → ∀ w', Ext w w' → K (.tuple #[entV 0 0 0, .int .i64 0]) w' := fun hc w' hx => by
    have := h w' hx
    rwa [show decR v = (0, 0, 0, 0) by simp only [decR]; rw [if_pos hc]] at this
  refine x_eql (fun hc => ?_) (fun hc => ?_)
  with_reducible refine Cnd.yes ?_; refine x_buildS fill_nil ?_; refine x_storeW ‹_› rfl (by decide) rfl ?_
  rotate_left
  with_reducible refine Cnd.no ?_
  rotate_left
  · refine xres_2 (rv_loadA (by exact blk_set_same ‹_›) (sub_cons (sub_cons (sub_cons sub_nil)))) rv_val ?_
    exact key0 (by omega) _ (hs1 _)
  · refine x_and32 (b' := 2 ^ 1 - 1) (by omega) (by omega) (by omega) mask ?_
    have key : v ≠ 0 → (v % 2 = 0 ∨ v / 32 % 128 ≠ 0) → ∀ w', Ext w w' → K (.tuple #[entV 0 0 0, .int .i64 43]) w' := fun h0 hc w' hx => by
      have := h w' hx
      rwa [show decR v = (0, 0, 0, 43) by simp only [decR]; rw [if_neg h0, if_pos hc]] at this
    have good : ¬ (v % 2 = 0 ∨ v / 32 % 128 ≠ 0) → ∀ w', Ext w w' → ((encR (kindOf v) (v / 2 % 8) (v / 4096)).2 ≠ 0 → K (.tuple #[entV 0 0 0, .int .i64 (encR (kindOf v) (v / 2 % 8) (v / 4096)).2]) w') ∧ ((encR (kindOf v) (v / 2 % 8) (v / 4096)).2 = 0 → K (.tuple #[entV (kindOf v) (v / 2 % 8 : Nat) (v / 4096 : Nat), .int .i64 0]) w') := fun hc w' hx => by
      have := h w' hx
      refine ⟨fun he => ?_, fun he => ?_⟩
      · rwa [show decR v = (0, 0, 0, (encR (kindOf v) (v / 2 % 8) (v / 4096)).2) by simp only [decR]; rw [if_neg (by omega), if_neg hc, if_pos he]] at this
      · rwa [show decR v = (kindOf v, v / 2 % 8, v / 4096, 0) by simp only [decR]; rw [if_neg (by omega), if_neg hc, if_neg (by omega)]] at this
    refine x_eql (fun hc => ?_) (fun hc => ?_)
    with_reducible refine XG.no (by decide) ?_; refine XG.no (by decide) ?_; refine XG.no (by decide) ?_; refine XG.no (by decide) ?_; refine x_pickT ?_; refine Cnd.yes ?_; refine x_buildS fill_nil ?_; refine x_storeW ‹_› rfl (by decide) rfl ?_
    rotate_left
    with_reducible refine XG.yes ?_; refine x_val ?_; refine XG.yes ?_
    rotate_left
    · refine xres_2 (rv_loadA (by exact blk_set_same ‹_›) (sub_cons (sub_cons (sub_cons sub_nil)))) rv_val ?_
      exact key (by omega) (by omega) _ (hs1 _)
    · refine x_and32 (b' := 2 ^ 12 - 1) (by omega) (by omega) (by omega) mask ?_
      with_reducible refine XG.yes ?_
      refine x_andNot32 (j := 5) (by omega) (by omega) (by omega) ?_
      with_reducible refine XG.yes ?_
      refine x_neq (fun hc => ?_) (fun hc => ?_)
      with_reducible refine x_pickF ?_; refine Cnd.yes ?_; refine x_buildS fill_nil ?_; refine x_storeW ‹_› rfl (by decide) rfl ?_
      rotate_left
      with_reducible refine x_pickF ?_; refine Cnd.no ?_
      rotate_left
      · refine xres_2 (rv_loadA (by exact blk_set_same ‹_›) (sub_cons (sub_cons (sub_cons sub_nil)))) rv_val ?_
        exact key (by omega) (by omega) _ (hs1 _)
      · refine x_and32 (b' := 14) (by omega) (by omega) (by omega) (and14 v) ?_
        refine x_shr (by decide) (by decide) ?_
        rw [show (1 : Int).toNat = 1 from rfl]
        have c1 : ((v / 2 % 8 * 2 : Nat) : Int) / 2 ^ 1 = ((v / 2 % 8 : Nat) : Int) := by omega
        rw [c1]
        with_reducible refine x_convN (by rw [IntKind.wrap_u8]; omega) ?_
        refine x_shr (by decide) (by decide) ?_
        rw [show (12 : Int).toNat = 12 from rfl]
        have c2 : (v : Int) / 2 ^ 12 = ((v / 4096 : Nat) : Int) := by omega
        rw [c2]
        with_reducible refine x_buildS (by apply fill_1; exact inferInstance; exact oneI; exact set_0; apply fill_1; exact inferInstance; exact oneI; apply set_S; exact set_0; rotate_left; apply fill_1; exact inferInstance; exact oneI; apply set_S; apply set_S; exact set_0; rotate_left; rotate_left; exact fill_nil; rotate_left; rotate_left; rotate_left; rotate_left; rotate_left; rotate_left) ?_; refine x_alloc ?_; refine x_storeA blk_alloc_new rfl (by simp [Value.oneCell']) (lay_cons (lay_cons (lay_cons lay_nil))) ?_
        generalize hw2 : setBlk _ _ _ = w2
        have e2 : Ext w1 w2 := by rw [← hw2]; exact ((Fr.refl _ w1).alloc _).set (fun h => by omega) _
        have hb2 := e2.get hb
        have hb3 : w2.heap[w1.heap.size]? = some (.cells #[.int .i64 1, .int .u8 (v / 2 % 8 : Nat), .int .u32 (v / 4096 : Nat)] 129 (0, 0)) := by rw [← hw2]; exact blk_set_same lt_alloc_new
        refine x_and32 (b' := 16) (by omega) (by omega) (by omega) (and16 v) ?_
        have hg := good (by omega)
        refine x_neq (fun hc => ?_) (fun hc => ?_)
        with_reducible refine Cnd.yes ?_; refine x_field0 ?_; refine x_store1 ‹_› oneI set_0 ?_
        rotate_left
        with_reducible refine Cnd.no ?_
        rotate_left
        · have hk : kindOf v = 2 := by simp only [kindOf]; rw [if_pos (by omega)]
          rw [hk] at hg
          generalize hw3 : setBlk _ _ _ = w3
          have e3 : Ext w1 w3 := by rw [← hw3]; exact e2.set (fun h => by omega) _
          have hb4 := e3.get hb
          have hb5 : w3.heap[w1.heap.size]? = some (.cells #[.int .i64 2, .int .u8 (v / 2 % 8 : Nat), .int .u32 (v / 4096 : Nat)] 129 (0, 0)) := by rw [← hw3]; exact blk_set_same (lt_of_blk hb3)
          exact dec_j hb4 hb5 (by omega) (by omega) (by omega) (fun w' hx he => (hg w' (hset w' ((Fr.of_ext e3).trans hx))).1 he) fun w' hx he => (hg w' (hset w' ((Fr.of_ext e3).trans hx))).2 he
        · have hk : kindOf v = 1 := by simp only [kindOf]; rw [if_neg (by omega)]
          rw [hk] at hg
          exact dec_j hb2 hb3 (by omega) (by omega) (by omega) (fun w' hx he => (hg w' (hset w' ((Fr.of_ext e2).trans hx))).1 he) fun w' hx he => (hg w' (hset w' ((Fr.of_ext e2).trans hx))).2 he
end Go.Eng
namespace Go.Eng
open Go.Proofs Go.MapKept
variable {w : World} {K : Value → World → Prop} {E : List PanicEntry → World → Prop}
def allows (p : Nat) (a : Int) : Bool := decide ((a = 1 ∧ p % 2 = 1) ∨ (a = 2 ∧ p / 2 % 2 = 1) ∨ (a = 3 ∧ p / 4 % 2 = 1))
theorem and1 (v : Nat) : v &&& 1 = v % 2 := by simpa using mask (a := v) (j := 1)
theorem and2 (v : Nat) : v &&& 2 = v / 2 % 2 * 2 := by
  have h : ∀ r, r < 4 → r &&& 2 = r / 2 % 2 * 2 := by decide
  have e : v &&& 2 = (v &&& (2 ^ 2 - 1)) &&& 2 := by rw [Nat.and_assoc]; rfl
  rw [e, mask, h _ (Nat.mod_lt _ (by decide))]
  omega
theorem and4 (v : Nat) : v &&& 4 = v / 4 % 2 * 4 := by
  have h : ∀ r, r < 8 → r &&& 4 = r / 4 % 2 * 4 := by decide
  have e : v &&& 4 = (v &&& (2 ^ 3 - 1)) &&& 4 := by rw [Nat.and_assoc]; rfl
  rw [e, mask, h _ (Nat.mod_lt _ (by decide))]
  omega
theorem needs_c (h : ∀ w', Ext w w' → K (.agg #[.int .u8 0, .int .u8 1, .int .u8 2, .int .u8 4]) w') : C P 107 #[] w K E := by
  apply F107
  unfold S107_0
  with_reducible refine x_alloc ?_; refine x_buildR (by apply fill_1; exact ⟨rfl, rfl⟩; exact oneI; apply set_S; exact set_0; rotate_left; apply fill_1; exact ⟨rfl, rfl⟩; exact oneI; apply set_S; apply set_S; exact set_0; rotate_left; rotate_left; apply fill_1; exact ⟨rfl, rfl⟩; exact oneI; apply set_S; apply set_S; apply set_S; exact set_0; rotate_left; rotate_left; rotate_left; exact fill_nil; rotate_left; rotate_left; rotate_left; rotate_left; rotate_left; rotate_left) ?_; refine x_storeA blk_alloc_new rfl (by decide) (lay_cons (lay_cons (lay_cons (lay_cons lay_nil)))) ?_
  refine xres_1 (rv_loadA (by exact blk_set_same lt_alloc_new) (sub_cons (sub_cons (sub_cons (sub_cons sub_nil))))) ?_
  exact h _ (((Fr.refl _ w).alloc _).set (fun h => by omega) _)
theorem Allows_c {p : Nat} {a : Int} (hp : p < 256) (ha : -9223372036854775808 ≤ a ∧ a ≤ 9223372036854775807) (h : ∀ w', Ext w w' → K (.bool (allows p a)) w') : C P 101 #[.int .u8 p, .int .i64 a] w K E := by
  have no : ¬ (0 < a ∧ a < 4) → ∀ w', Ext w w' → K (.bool false) w' := fun hc w' hx => by
    have := h w' hx
    rwa [show allows p a = false by unfold allows; rw [decide_eq_false_iff_not]; omega] at this
  apply F101
  unfold S101_0
  refine x_gtr (fun hc => ?_) (fun hc => ?_)
  with_reducible refine XG.yes ?_; refine x_val ?_; refine XG.yes ?_
  rotate_left
  with_reducible refine XG.no (by decide) ?_; refine XG.no (by decide) ?_; refine XG.no (by decide) ?_; refine XG.no (by decide) ?_; refine x_pickF ?_; refine XG.no (by decide) ?_; refine XG.no (by decide) ?_; refine XG.no (by decide) ?_; refine XG.no (by decide) ?_; refine XG.no (by decide) ?_; refine XG.no (by decide) ?_; refine x_pickF ?_
  rotate_left
  · refine x_callF (needs_c fun w1 e1 => ?_)
    with_reducible refine XG.yes ?_; refine x_val ?_; refine XG.yes ?_
    refine x_lss (fun hc => ?_) (fun hc => ?_)
    with_reducible refine x_pickT ?_; refine XG.yes ?_; refine x_val ?_; refine XG.yes ?_
    rotate_left
    with_reducible refine x_pickT ?_; refine XG.no (by decide) ?_; refine XG.no (by decide) ?_; refine XG.no (by decide) ?_; refine XG.no (by decide) ?_; refine XG.no (by decide) ?_; refine XG.no (by decide) ?_; refine x_pickF ?_
    rotate_left
    · refine x_callF (needs_c fun w2 e2 => ?_)
      have e3 := e1.trans e2
      with_reducible refine XG.yes ?_; refine x_val ?_; refine XG.yes ?_
      have : a = 1 ∨ a = 2 ∨ a = 3 := by omega
      have hh := h w2 e3
      rcases this with rfl | rfl | rfl
      · refine x_index1 (v := .int .u8 1) (by omega) rfl ?_
        with_reducible refine XG.yes ?_
        refine x_and8 (b' := 1) (by omega) rfl (by omega) (and1 p) ?_
        with_reducible refine XG.yes ?_
        refine x_neq (fun hc => ?_) (fun hc => ?_)
        with_reducible refine x_pickT ?_
        rotate_left
        with_reducible refine x_pickT ?_
        rotate_left
        · rwa [show allows p 1 = true by unfold allows; rw [decide_eq_true_eq]; omega] at hh
        · rwa [show allows p 1 = false by unfold allows; rw [decide_eq_false_iff_not]; omega] at hh
      · refine x_index1 (v := .int .u8 2) (by omega) rfl ?_
        with_reducible refine XG.yes ?_
        refine x_and8 (b' := 2) (by omega) rfl (by omega) (and2 p) ?_
        with_reducible refine XG.yes ?_
        refine x_neq (fun hc => ?_) (fun hc => ?_)
        with_reducible refine x_pickT ?_
        rotate_left
        with_reducible refine x_pickT ?_
        rotate_left
        · rwa [show allows p 2 = true by unfold allows; rw [decide_eq_true_eq]; omega] at hh
        · rwa [show allows p 2 = false by unfold allows; rw [decide_eq_false_iff_not]; omega] at hh
      · refine x_index1 (v := .int .u8 4) (by omega) rfl ?_
        with_reducible refine XG.yes ?_
        refine x_and8 (b' := 4) (by omega) rfl (by omega) (and4 p) ?_
        with_reducible refine XG.yes ?_
        refine x_neq (fun hc => ?_) (fun hc => ?_)
        with_reducible refine x_pickT ?_
        rotate_left
        with_reducible refine x_pickT ?_
        rotate_left
        · rwa [show allows p 3 = true by unfold allows; rw [decide_eq_true_eq]; omega] at hh
        · rwa [show allows p 3 = false by unfold allows; rw [decide_eq_false_iff_not]; omega] at hh
    · exact no (by omega) _ e1
  · exact no (by omega) _ (Fr.refl _ _)
end Go.Eng
namespace Go.Eng
open Go.Proofs Go.MapKept
variable {w : World} {K : Value → World → Prop} {E : List PanicEntry → World → Prop}
def rd (M : Nat → Nat) (n a : Nat) : Option Nat := if a % 4 = 0 ∧ a + 4 ≤ 4096 * n then some (ldv M a 4) else none
theorem tword_c {m n table index : Nat} {M : Nat → Nat} {F : Nat → Prop} (hm : Mem w m n M F) (ht : table < 4294967296) (hi : index < 4294967296)
   (h0 : 4294967292 < table + 4 * index → K (.tuple #[.int .u32 0, .int .u32 0, .bool false]) w)
   (h1 : table + 4 * index ≤ 4294967292 → rd M n (table + 4 * index) = none → K (.tuple #[.int .u32 (table + 4 * index : Nat), .int .u32 0, .bool false]) w)
   (h2 : ∀ v w', table + 4 * index ≤ 4294967292 → rd M n (table + 4 * index) = some v → Ext w w' → K (.tuple #[.int .u32 (table + 4 * index : Nat), .int .u32 (v : Nat), .bool true]) w') :
   C P 53 #[ptr m, .int .u32 table, .int .u32 index] w K E := by
  have hn : 1 ≤ n ∧ n ≤ 4096 := by obtain ⟨_, _, h⟩ := hm; exact h.hn
  have e : (table : Int) + 4 * (index : Int) = ((table + 4 * index : Nat) : Int) := by omega
  apply F53
  unfold S53_0
  with_reducible refine x_convN (by rw [wrap_u64]; omega) ?_; refine x_convN (by rw [wrap_u64]; omega) ?_; refine x_mulN (by rw [wrap_u64]; omega) ?_; refine x_addN (by rw [wrap_u64]; omega) ?_; refine x_eqlP ?_; refine XG.yes ?_; refine x_val ?_; refine XG.yes ?_
  refine x_gtr (fun hc => ?_) (fun hc => ?_)
  with_reducible refine x_pickF ?_; refine Cnd.yes ?_
  rotate_left
  with_reducible refine x_pickF ?_; refine Cnd.no ?_; refine x_convN (by rw [IntKind.wrap_u32]; omega) ?_
  rotate_left
  · exact h0 (by omega)
  · rw [e]
    refine x_callF (Load_c hm (by omega) (by omega) (fun h => by omega) (fun _ h => ?_) (fun _ _ h => ?_) fun s w' hs _ h3 h4 hx => ?_)
    · with_reducible refine x_extract at_0 ?_; refine x_extract at_1 ?_; refine x_convN (by rw [IntKind.wrap_u32]; omega) ?_
      refine x_eql (fun hc => by omega) (fun hc => ?_)
      refine h1 (by omega) ?_
      simp only [rd]
      rw [if_neg (by omega)]
    · with_reducible refine x_extract at_0 ?_; refine x_extract at_1 ?_; refine x_convN (by rw [IntKind.wrap_u32]; omega) ?_
      refine x_eql (fun hc => by omega) (fun hc => ?_)
      refine h1 (by omega) ?_
      simp only [rd]
      rw [if_neg (by omega)]
    · obtain rfl : s = 4 := by omega
      with_reducible refine x_extract at_0 ?_; refine x_extract at_1 ?_; refine x_convN (by rw [IntKind.wrap_u32]; omega) ?_
      refine x_eql (fun hc => ?_) (fun hc => by omega)
      refine h2 _ w' (by omega) ?_ hx
      simp only [rd]
      rw [if_pos ⟨h3, h4⟩]
theorem lies_c {m n f : Nat} {M : Nat → Nat} {F : Nat → Prop} (hm : Mem w m n M F) (hf : f < 4294967296) (h : K (.bool (decide (f < n))) w) : C P 55 #[ptr m, .int .u32 f] w K E := by
  apply F55
  unfold S55_0
  with_reducible refine x_convN (by rw [IntKind.wrap_i64]; omega) ?_
  refine x_callF (pages_c hm ?_)
  refine x_lss (fun hc => ?_) (fun hc => ?_)
  · rwa [decide_eq_true (by omega)] at h
  · rwa [decide_eq_false (by omega)] at h
theorem placeOf_c {p : Nat} (hp : p < 4294967296) (h : ∀ w', Ext w w' → K (.agg #[.int .u32 (p / 1024 : Nat), .int .u32 (p % 1024 : Nat)]) w') : C P 79 #[.int .u32 p] w K E := by
  apply F79
  unfold S79_0
  with_reducible refine x_alloc ?_; refine x_quoN (by omega) (by omega) (by rw [IntKind.wrap_u32]; omega) ?_; refine x_remN (by omega) (by omega) ?_; refine x_buildS (by apply fill_1; exact inferInstance; exact oneI; exact set_0; apply fill_1; exact inferInstance; exact oneI; apply set_S; exact set_0; rotate_left; exact fill_nil; rotate_left; rotate_left; rotate_left; rotate_left) ?_; refine x_storeA blk_alloc_new rfl (by simp [Value.oneCell']) (lay_cons (lay_cons lay_nil)) ?_
  refine xres_1 (rv_loadA (by exact blk_set_same lt_alloc_new) (sub_cons (sub_cons sub_nil))) ?_
  exact h _ (((Fr.refl _ w).alloc _).set (fun h => by omega) _)
theorem root_c {s : Nat} {a r : Value} {fz : Nat × Nat} (hs : w.heap[s]? = some (.cells #[a, r] 111 fz)) (h : K r w) : C P 24 #[ptr s] w K E := by
  apply F24
  unfold S24_0
  with_reducible refine x_nil ?_; refine x_field0 ?_; refine x_load1 ‹_› at_1 ?_
  exact h
abbrev spaceO (a root : Nat) : Obj := .cells #[ptr a, .int .u32 root] 111 (0, 0)
theorem SpaceNew_c {a m n base pages taken : Nat} {M : Nat → Nat} {F : Nat → Prop} (hm : Mem w m n M F) (ha : w.heap[a]? = some (arenaO m base pages taken false)) (haF : ¬ F a)
   (hb : base % 4096 = 0) (hbp : base / 4096 + pages ≤ n) (ht : taken < pages)
   (h2 : ∀ w' F' s, Fr (fun r => F r ∨ r = a) w w' → (∀ r, F' r → F r ∨ w.heap.size ≤ r) → (∀ r, F r → F' r) → Mem w' m n (put M (base + 4096 * taken) (List.replicate 4096 0)) F' → ¬ F' s → w.heap.size ≤ s →
     w'.heap[a]? = some (arenaO m base pages (taken + 1) false) → w'.heap[s]? = some (spaceO a (base + 4096 * taken)) → K (.tuple #[ptr s, .int .i64 0]) w') :
   C P 21 #[ptr a] w K E := by
  apply F21
  unfold S21_0
  with_reducible refine x_eqlP ?_; refine Cnd.no ?_
  refine x_callF (Take_c hm ha haF hb hbp (by omega) (fun h => by cases h) (fun _ h => by omega) fun w' F' _ _ k1 k2 k3 k4 k5 => ?_)
  with_reducible refine x_extract at_0 ?_; refine x_extract at_1 ?_
  refine x_neq (fun hc => by omega) (fun hc => ?_)
  with_reducible refine Cnd.no ?_; refine x_buildS (by apply fill_1; exact inferInstance; exact oneP; exact set_0; apply fill_1; exact inferInstance; exact oneI; apply set_S; exact set_0; rotate_left; exact fill_nil; rotate_left; rotate_left; rotate_left; rotate_left) ?_; refine x_boxA ?_
  have hfin : ∀ r, F' r → r < w'.heap.size := by obtain ⟨_, _, h⟩ := k4; exact h.fin
  have hlt := lt_of_blk k5
  refine h2 _ F' _ (k1.alloc _) k2 k3 (k4.ext ((Fr.refl _ w').alloc _)) (fun h => by have := hfin _ h; omega) k1.size (by refine blk_alloc_old' ?_; assumption) blk_alloc_new
end Go.Eng
namespace Go.Eng
open Go.Proofs Go.MapKept
variable {w : World} {K : Value → World → Prop} {E : List PanicEntry → World → Prop}
def wd (M : Nat → Nat) (n a : Nat) : Option Nat := if a ≤ 4294967292 then rd M n a else none
theorem wd_lt {M : Nat → Nat} {n a v : Nat} (hM : ∀ x, M x < 256) (h : wd M n a = some v) : v < 4294967296 := by
  simp only [wd, rd] at h
  repeat' split at h
  all_goals (first | (cases h; done) | skip)
  have := ldv_lt hM a 4
  cases h
  simpa using this
def walk2 (M : Nat → Nat) (n va : Nat) (a : Int) (s0 : Nat × Nat) (f0 : Nat) : Nat × List (Nat × Nat) × Int :=
  match wd M n (4096 * f0 + 4 * (va / 4096 % 1024)) with
  | none => (0, [s0], 2)
  | some w1 =>
    let l := [s0, (4096 * f0 + 4 * (va / 4096 % 1024), w1)]
    let d := decR w1
    if d.2.2.2 ≠ 0 then (0, l, 4) else if d.1 = 0 then (0, l, 3) else if d.1 ≠ 1 then (0, l, 4)
    else if allows d.2.1 a = false then (0, l, 5) else if ¬ d.2.2.1 < n then (0, l, 2) else (4096 * d.2.2.1 + va % 4096, l, 0)
def walkR (M : Nat → Nat) (n root va : Nat) (a : Int) : Nat × List (Nat × Nat) × Int :=
  match wd M n (root + 4 * (va / 4096 / 1024)) with
  | none => (0, [], 2)
  | some w0 =>
    let l := [(root + 4 * (va / 4096 / 1024), w0)]
    let d := decR w0
    if d.2.2.2 ≠ 0 then (0, l, 4) else if d.1 = 0 then (0, l, 3) else if d.1 ≠ 2 then (0, l, 4)
    else walk2 M n va a (root + 4 * (va / 4096 / 1024), w0) d.2.2.1
def stepsV (l : List (Nat × Nat)) : List Value := l.flatMap fun s => [.int .u32 (s.1 : Nat), .int .u32 (s.2 : Nat)]
def OwnSteps (w : World) (b : Nat) (v : Value) (l : List (Nat × Nat)) : Prop := w.ownsRow b 196 2 v l.length (stepsV l)
theorem encR_ok {k : Int} {p f : Nat} (h : (encR k p f).2 = 0) : f ≤ 4095 ∧ (k = 0 ∨ k = 1 ∨ k = 2) := by
  simp only [encR] at h
  repeat' split at h
  all_goals (first | (simp at h; done) | omega)
theorem decR_f {v : Nat} (h : (decR v).2.2.2 = 0) : (decR v).2.2.1 ≤ 4095 := by
  simp only [decR] at h ⊢
  split
  · simp
  · rename_i h0
    rw [if_neg h0] at h
    split
    · simp
    · rename_i h1
      rw [if_neg h1] at h
      split
      · simp
      · rename_i h2
        have : (encR (kindOf v) (v / 2 % 8) (v / 4096)).2 = 0 := by simpa using h2
        exact (encR_ok this).1
theorem decR_p {v : Nat} : (decR v).2.1 < 256 := by
  simp only [decR]
  repeat' split
  all_goals (first | (simp; done) | (simp only; omega))
theorem OwnSteps.nil {b : Nat} : OwnSteps w b (.slice none 0 0) [] := World.ownsRow_nil w b 196 2
theorem OwnSteps.frame {w' : World} {S : Nat → Prop} {b : Nat} {v : Value} {l : List (Nat × Nat)} (h : OwnSteps w b v l) (hf : Fr S w w') (hs : ∀ r, b ≤ r → ¬ S r) : OwnSteps w' b v l := by
  refine ⟨h.1, ?_⟩
  rcases h.2 with hn | ⟨g, cap, cur, rfl, hb, hg, rest⟩
  · exact .inl hn
  · exact .inr ⟨g, cap, cur, rfl, hb, hf.get (hs g hb) hg, rest⟩
theorem x_step {b a v : Nat} {s : Value} {l : List (Nat × Nat)} (ho : OwnSteps w b s l) (hb : b ≤ w.heap.size) (hl : l.length ≤ 100)
    (h : ∀ s' w', OwnSteps w' b s' (l ++ [(a, v)]) → Fr (fun r => b ≤ r) w w' → K s' w') :
    X P (.buildSlice 192 1 #[(0, .agg #[.int .u32 a, .int .u32 v])]) 192 w (fun t50 w_10 => X P (.callB .append #[192, 192] #[false, false] #[s, t50]) 192 w_10 K E) E := by
  refine x_bsA (sz := 2) (z := #[.int .u32 0, .int .u32 0]) (by omega) rfl rfl ?_
  have ho' : OwnSteps (w.alloc (.cells #[.int .u32 a, .int .u32 v] 196 (0, 0))) b s l := ho.frame (Fr.refl (fun _ => False) w |>.alloc _) (fun _ _ => id)
  have hH : Holds (w.alloc (.cells #[.int .u32 a, .int .u32 v] 196 (0, 0))) ⟨w.heap.size, 0, none⟩ (stepsV [(a, v)]) := by
    have := holds_blk (w := w.alloc (.cells #[.int .u32 a, .int .u32 v] 196 (0, 0))) (b := w.heap.size) (o := 0) (n := 2) blk_alloc_new (by simp)
    simpa [stepsV] using this
  refine x_append (size := 2) (news := stepsV [(a, v)]) ho' (by simp [stepsV]) hH (by simp [stepsV, Value.oneCell']) (by simp [maxLen]; omega) (by omega) (by rw [size_alloc]; omega) fun v' w' h1 h2 => ?_
  refine h v' w' ?_ ?_
  · have e : stepsV l ++ stepsV [(a, v)] = stepsV (l ++ [(a, v)]) := by simp [stepsV]
    rw [e] at h1
    simpa [OwnSteps] using h1
  · refine ((Fr.refl _ w).alloc _).grown h2 fun r hr _ => ?_
    have := (World.ownsRow.lt ho' r hr).1
    exact this
end Go.Eng
namespace Go.Eng
open Go.Proofs Go.MapKept
variable {w : World} {K : Value → World → Prop} {E : List PanicEntry → World → Prop}
theorem Walk_c {m n root va : Nat} {a : Int} {M : Nat → Nat} {F : Nat → Prop} (hm : Mem w m n M F) (hr : root < 4294967296) (hv : va < 4294967296) (ha : -9223372036854775808 ≤ a ∧ a ≤ 9223372036854775807)
   (h : ∀ w' s, Ext w w' → OwnSteps w' w.heap.size s (walkR M n root va a).2.1 → K (.tuple #[.int .u32 (walkR M n root va a).1, s, .int .i64 (walkR M n root va a).2.2]) w') :
   C P 89 #[ptr m, .int .u32 root, .int .u32 va, .int .i64 a] w K E := by
  have hM : ∀ x, M x < 256 := by obtain ⟨_, _, h⟩ := hm; exact h.lt
  apply F89
  unfold S89_0
  refine x_shr (by decide) (by decide) ?_
  rw [show (12 : Int).toNat = 12 from rfl, show (va : Int) / 2 ^ 12 = ((va / 4096 : Nat) : Int) by omega]
  refine x_callF (placeOf_c (by omega) fun w1 e1 => ?_)
  with_reducible refine x_alloc ?_; refine x_storeA blk_alloc_new rfl (by simp [Value.oneCell']) (lay_cons (lay_cons lay_nil)) ?_; refine x_field0 ?_; refine x_load1 (by exact blk_set_same lt_alloc_new) at_0 ?_; refine x_field0 ?_; refine x_load1 (by exact blk_set_same lt_alloc_new) at_1 ?_; refine x_buildR (by apply fill_1; exact ⟨rfl, rfl⟩; exact oneI; exact set_0; apply fill_1; exact ⟨rfl, rfl⟩; exact oneI; apply set_S; exact set_0; rotate_left; exact fill_nil; rotate_left; rotate_left; rotate_left; rotate_left) ?_
  generalize hw2 : setBlk _ _ _ = w2
  have e2 : Ext w w2 := by rw [← hw2]; exact (e1.alloc _).set (fun h => by have := e1.size; omega) _
  clear hw2
  have ext : ∀ {w' : World}, Fr (fun r => w.heap.size ≤ r) w2 w' → Ext w w' := fun hx => e2.trans' hx fun r hr hlt => by omega
  unfold S89_l5
  refine ⟨fun v12 v13 v31 w3 => (v12 = .int .u32 root ∧ v13 = .slice none 0 0 ∧ v31 = .int .i64 0 ∧ w3 = w2) ∨
    (∃ w0 : Nat, v31 = .int .i64 1 ∧ wd M n (root + 4 * (va / 4096 / 1024)) = some w0 ∧ (decR w0).2.2.2 = 0 ∧ (decR w0).1 = 2 ∧ v12 = .int .u32 (4096 * (decR w0).2.2.1 : Nat) ∧ OwnSteps w3 w.heap.size v13 [(root + 4 * (va / 4096 / 1024), w0)] ∧ Fr (fun r => w.heap.size ≤ r) w2 w3) ∨
    (∃ f1 : Nat, v31 = .int .i64 2 ∧ v12 = .int .u32 (4096 * f1 : Nat) ∧ f1 ≤ 4095 ∧ (walkR M n root va a).1 = 4096 * f1 + va % 4096 ∧ (walkR M n root va a).2.2 = 0 ∧ OwnSteps w3 w.heap.size v13 (walkR M n root va a).2.1 ∧ Fr (fun r => w.heap.size ≤ r) w2 w3),
    fun _ _ v31 _ => match v31 with | .int _ i => 2 - i.toNat | _ => 0, .inl ⟨rfl, rfl, rfl, rfl⟩, ?_⟩
  rintro v12 v13 v31 w3 (⟨rfl, rfl, rfl, rfl⟩ | ⟨w0, rfl, hw0, hd0, hk0, rfl, hown, hfr⟩ | ⟨f1, rfl, rfl, hf1, hr1, hr2, hown, hfr⟩)
  · -- the first level
    unfold S89_b5
    refine x_lss (fun hc => ?_) (fun hc => by omega)
    with_reducible refine Cnd.yes ?_
    refine x_index1 (v := .int .u32 (va / 4096 / 1024 : Nat)) (by omega) rfl ?_
    have bad : wd M n (root + 4 * (va / 4096 / 1024)) = none → ∀ w', Ext w w' → K (.tuple #[.int .u32 0, .slice none 0 0, .int .i64 2]) w' := fun hn w' hx => by
      have := h w' (.slice none 0 0) hx
      rw [show walkR M n root va a = (0, [], 2) by simp only [walkR, hn]] at this
      exact this OwnSteps.nil
    refine x_callF (tword_c (hm.ext e2) hr (by omega) (fun hlim => ?_) (fun hlim hno => ?_) fun w0 w4 hlim hw0 hx4 => ?_)
    · with_reducible refine x_extract at_0 ?_; refine x_extract at_1 ?_; refine x_extract at_2 ?_; refine x_notF ?_; refine Cnd.yes ?_
      exact bad (by simp only [wd]; rw [if_neg (by omega)]) _ e2
    · with_reducible refine x_extract at_0 ?_; refine x_extract at_1 ?_; refine x_extract at_2 ?_; refine x_notF ?_; refine Cnd.yes ?_
      exact bad (by simp only [wd]; rw [if_pos hlim, hno]) _ e2
    · have hwd : wd M n (root + 4 * (va / 4096 / 1024)) = some w0 := by simp only [wd]; rw [if_pos hlim, hw0]
      have hw0lt := wd_lt hM hwd
      with_reducible refine x_extract at_0 ?_; refine x_extract at_1 ?_; refine x_extract at_2 ?_; refine x_notT ?_; refine Cnd.no ?_; refine x_buildS (by apply fill_1; exact inferInstance; exact oneI; exact set_0; apply fill_1; exact inferInstance; exact oneI; apply set_S; exact set_0; rotate_left; exact fill_nil; rotate_left; rotate_left; rotate_left; rotate_left) ?_
      refine x_step (b := w.heap.size) OwnSteps.nil (by have := e2.size; have := hx4.size; omega) (by simp) fun s w5 hown hf5 => ?_
      have e5 : Fr (fun r => w.heap.size ≤ r) w3 w5 := (Fr.of_ext hx4).trans hf5
      refine x_callF (Decode_c hw0lt fun w6 hx6 => ?_)
      have e6 : Fr (fun r => w.heap.size ≤ r) w3 w6 := e5.trans (Fr.of_ext hx6)
      have hown6 := hown.frame hx6 fun _ _ => id
      with_reducible refine x_extract at_0 ?_; refine x_extract at_1 ?_; refine x_alloc ?_; refine x_storeA blk_alloc_new rfl (by simp [Value.oneCell']) (lay_cons (lay_cons (lay_cons lay_nil))) ?_; refine x_buildR (by apply fill_1; exact ⟨rfl, rfl⟩; exact oneI; exact set_0; apply fill_1; exact ⟨rfl, rfl⟩; exact oneI; apply set_S; exact set_0; rotate_left; exact fill_nil; rotate_left; rotate_left; rotate_left; rotate_left) ?_
      refine x_index1 (v := .int .i64 2) (by omega) rfl ?_
      generalize hw7 : setBlk _ _ _ = w7
      have x7 : Ext w6 w7 := by rw [← hw7]; exact ((Fr.refl _ w6).alloc _).set (fun h => by omega) _
      have hb7 : w7.heap[w6.heap.size]? = some (.cells #[.int .i64 (decR w0).1, .int .u8 (decR w0).2.1, .int .u32 (decR w0).2.2.1] 129 (0, 0)) := by rw [← hw7]; exact blk_set_same lt_alloc_new
      have e7 : Fr (fun r => w.heap.size ≤ r) w3 w7 := e6.trans (Fr.of_ext x7)
      have hown7 := hown6.frame x7 fun _ _ => id
      clear hw7
      have leaf : ∀ (f : Int), walkR M n root va a = (0, [(root + 4 * (va / 4096 / 1024), w0)], f) → K (.tuple #[.int .u32 0, s, .int .i64 f]) w7 := fun f he => by
        have := h w7 s (ext e7)
        rw [he] at this
        exact this hown7
      refine x_neq (fun hc => ?_) (fun hc => ?_)
      with_reducible refine Cnd.yes ?_
      rotate_left
      with_reducible refine Cnd.no ?_; refine x_field0 ?_; refine x_load1 ‹_› at_0 ?_
      refine x_eql (fun hc => ?_) (fun hc => ?_)
      with_reducible refine Cnd.yes ?_
      rotate_left
      with_reducible refine Cnd.no ?_; refine x_field0 ?_; refine x_load1 ‹_› at_0 ?_
      refine x_neq (fun hc => ?_) (fun hc => ?_)
      with_reducible refine Cnd.yes ?_
      rotate_left
      with_reducible refine Cnd.no ?_
      refine x_eql (fun hc => ?_) (fun hc => by omega)
      with_reducible refine Cnd.yes ?_; refine x_field0 ?_; refine x_load1 ‹_› at_2 ?_
      rotate_left
      · exact leaf 4 (by simp only [walkR, hwd]; rw [if_pos ‹_›])
      · exact leaf 3 (by simp only [walkR, hwd]; rw [if_neg (by omega), if_pos ‹_›])
      · exact leaf 4 (by simp only [walkR, hwd]; rw [if_neg (by omega), if_neg ‹_›, if_pos ‹_›])
      · have hf := decR_f (v := w0) (by omega)
        refine x_shlN' (s := 12) (by omega) (by omega) (by omega) ?_
        unfold S89_j26
        with_reducible refine x_addN (by rw [IntKind.wrap_i64]; omega) ?_
        refine ⟨.inr (.inl ⟨w0, rfl, hwd, by omega, by omega, ?_, hown7, e7⟩), ?_⟩
        · congr 2; omega
        · simp only; omega
  · -- the second level
    have hwk : walkR M n root va a = walk2 M n va a (root + 4 * (va / 4096 / 1024), w0) (decR w0).2.2.1 := by
      simp only [walkR, hw0]
      rw [if_neg (by omega), if_neg (by omega), if_neg (by omega)]
    have hf0 := decR_f hd0
    generalize hF : (decR w0).2.2.1 = f0 at *
    have hm3 : Mem w3 m n M F := hm.frame (e2.mono (fun _ _ h => h.elim) |>.trans' hfr fun r hr _ => hr) (fun r hr hle => by obtain ⟨_, _, hq⟩ := hm; have := hq.fin r hr; omega)
    unfold S89_b5
    refine x_lss (fun hc => ?_) (fun hc => by omega)
    with_reducible refine Cnd.yes ?_
    refine x_index1 (v := .int .u32 (va / 4096 % 1024 : Nat)) (by omega) rfl ?_
    have bad : wd M n (4096 * f0 + 4 * (va / 4096 % 1024)) = none → ∀ w', Fr (fun r => w.heap.size ≤ r) w2 w' → OwnSteps w' w.heap.size v13 [(root + 4 * (va / 4096 / 1024), w0)] → K (.tuple #[.int .u32 0, v13, .int .i64 2]) w' := fun hn w' hx ho => by
      have := h w' v13 (ext hx)
      rw [show walkR M n root va a = (0, [(root + 4 * (va / 4096 / 1024), w0)], 2) by rw [hwk]; simp only [walk2, hn]] at this
      exact this ho
    refine x_callF (tword_c hm3 (by omega) (by omega) (fun hlim => ?_) (fun hlim hno => ?_) fun w1' w4 hlim hw1 hx4 => ?_)
    · with_reducible refine x_extract at_0 ?_; refine x_extract at_1 ?_; refine x_extract at_2 ?_; refine x_notF ?_; refine Cnd.yes ?_
      exact bad (by simp only [wd]; rw [if_neg (by omega)]) _ hfr hown
    · with_reducible refine x_extract at_0 ?_; refine x_extract at_1 ?_; refine x_extract at_2 ?_; refine x_notF ?_; refine Cnd.yes ?_
      exact bad (by simp only [wd]; rw [if_pos hlim, hno]) _ hfr hown
    · have hwd : wd M n (4096 * f0 + 4 * (va / 4096 % 1024)) = some w1' := by simp only [wd]; rw [if_pos hlim, hw1]
      have hw1lt := wd_lt hM hwd
      with_reducible refine x_extract at_0 ?_; refine x_extract at_1 ?_; refine x_extract at_2 ?_; refine x_notT ?_; refine Cnd.no ?_; refine x_buildS (by apply fill_1; exact inferInstance; exact oneI; exact set_0; apply fill_1; exact inferInstance; exact oneI; apply set_S; exact set_0; rotate_left; exact fill_nil; rotate_left; rotate_left; rotate_left; rotate_left) ?_
      refine x_step (b := w.heap.size) (hown.frame hx4 fun _ _ => id) (by have := e2.size; have := hfr.size; have := hx4.size; omega) (by simp) fun s w5 hown5 hf5 => ?_
      have e5 : Fr (fun r => w.heap.size ≤ r) w2 w5 := hfr.trans ((Fr.of_ext hx4).trans hf5)
      refine x_callF (Decode_c hw1lt fun w6 hx6 => ?_)
      have e6 : Fr (fun r => w.heap.size ≤ r) w2 w6 := e5.trans (Fr.of_ext hx6)
      have hown6 := hown5.frame hx6 fun _ _ => id
      with_reducible refine x_extract at_0 ?_; refine x_extract at_1 ?_; refine x_alloc ?_; refine x_storeA blk_alloc_new rfl (by simp [Value.oneCell']) (lay_cons (lay_cons (lay_cons lay_nil))) ?_; refine x_buildR (by apply fill_1; exact ⟨rfl, rfl⟩; exact oneI; exact set_0; apply fill_1; exact ⟨rfl, rfl⟩; exact oneI; apply set_S; exact set_0; rotate_left; exact fill_nil; rotate_left; rotate_left; rotate_left; rotate_left) ?_
      refine x_index1 (v := .int .i64 1) (by omega) rfl ?_
      generalize hw7 : setBlk _ _ _ = w7
      have x7 : Ext w6 w7 := by rw [← hw7]; exact ((Fr.refl _ w6).alloc _).set (fun h => by omega) _
      have hb7 : w7.heap[w6.heap.size]? = some (.cells #[.int .i64 (decR w1').1, .int .u8 (decR w1').2.1, .int .u32 (decR w1').2.2.1] 129 (0, 0)) := by rw [← hw7]; exact blk_set_same lt_alloc_new
      have e7 : Fr (fun r => w.heap.size ≤ r) w2 w7 := e6.trans (Fr.of_ext x7)
      have hown7 := hown6.frame x7 fun _ _ => id
      clear hw7
      have leaf : ∀ (f : Int) w', Ext w7 w' → walkR M n root va a = (0, [(root + 4 * (va / 4096 / 1024), w0), (4096 * f0 + 4 * (va / 4096 % 1024), w1')], f) → K (.tuple #[.int .u32 0, s, .int .i64 f]) w' := fun f w' hx he => by
        have := h w' s (ext (e7.trans (Fr.of_ext hx)))
        rw [he] at this
        exact this (hown7.frame hx fun _ _ => id)
      refine x_neq (fun hc => ?_) (fun hc => ?_)
      with_reducible refine Cnd.yes ?_
      rotate_left
      with_reducible refine Cnd.no ?_; refine x_field0 ?_; refine x_load1 ‹_› at_0 ?_
      refine x_eql (fun hc => ?_) (fun hc => ?_)
      with_reducible refine Cnd.yes ?_
      rotate_left
      with_reducible refine Cnd.no ?_; refine x_field0 ?_; refine x_load1 ‹_› at_0 ?_
      refine x_neq (fun hc => ?_) (fun hc => ?_)
      with_reducible refine Cnd.yes ?_
      rotate_left
      with_reducible refine Cnd.no ?_
      refine x_eql (fun hc => by omega) (fun hc => ?_)
      with_reducible refine Cnd.no ?_; refine x_field0 ?_; refine x_load1 ‹_› at_1 ?_
      rotate_left
      · exact leaf 4 _ (Fr.refl _ _) (by rw [hwk]; simp only [walk2, hwd]; rw [if_pos ‹_›])
      · exact leaf 3 _ (Fr.refl _ _) (by rw [hwk]; simp only [walk2, hwd]; rw [if_neg (by omega), if_pos ‹_›])
      · exact leaf 4 _ (Fr.refl _ _) (by rw [hwk]; simp only [walk2, hwd]; rw [if_neg (by omega), if_neg ‹_›, if_pos ‹_›])
      · have hf := decR_f (v := w1') (by omega)
        refine x_callF (Allows_c decR_p ha fun w8 hx8 => ?_)
        have hb8 := hx8.get hb7
        cases hal : allows (decR w1').2.1 a with
        | false =>
          with_reducible refine x_notF ?_; refine Cnd.yes ?_
          exact leaf 5 _ hx8 (by rw [hwk]; simp only [walk2, hwd]; rw [if_neg (by omega), if_neg ‹_›, if_neg (by omega), if_pos hal])
        | true =>
          with_reducible refine x_notT ?_; refine Cnd.no ?_; refine x_field0 ?_; refine x_load1 ‹_› at_2 ?_
          have hm8 : Mem w8 m n M F := hm.frame (e2.mono (fun _ _ h => h.elim) |>.trans' (e7.trans (Fr.of_ext hx8)) fun r hr _ => hr) (fun r hr hle => by obtain ⟨_, _, hq⟩ := hm; have := hq.fin r hr; omega)
          refine x_callF (lies_c hm8 (by omega) ?_)
          by_cases hlt : (decR w1').2.2.1 < n
          · rw [decide_eq_true hlt]
            with_reducible refine x_notT ?_; refine Cnd.no ?_; refine x_field0 ?_; refine x_load1 ‹_› at_2 ?_
            refine x_shlN' (s := 12) (by omega) (by omega) (by omega) ?_
            unfold S89_j26
            with_reducible refine x_addN (by rw [IntKind.wrap_i64]; omega) ?_
            have hfin : walkR M n root va a = (4096 * (decR w1').2.2.1 + va % 4096, [(root + 4 * (va / 4096 / 1024), w0), (4096 * f0 + 4 * (va / 4096 % 1024), w1')], 0) := by
              rw [hwk]; simp only [walk2, hwd]; rw [if_neg (by omega), if_neg ‹_›, if_neg (by omega), if_neg (by rw [hal]; simp), if_neg (by omega)]
            refine ⟨.inr (.inr ⟨(decR w1').2.2.1, rfl, ?_, hf, by rw [hfin], by rw [hfin], ?_, e7.trans (Fr.of_ext hx8)⟩), ?_⟩
            · congr 2; omega
            · rw [hfin]; exact hown7.frame hx8 fun _ _ => id
            · simp only; omega
          · rw [decide_eq_false hlt]
            with_reducible refine x_notF ?_; refine Cnd.yes ?_
            exact leaf 2 _ hx8 (by rw [hwk]; simp only [walk2, hwd]; rw [if_neg (by omega), if_neg ‹_›, if_neg (by omega), if_neg (by rw [hal]; simp), if_pos hlt])
  · unfold S89_b5
    refine x_lss (fun hc => by omega) (fun hc => ?_)
    with_reducible refine Cnd.no ?_
    unfold S89_j27
    with_reducible refine x_remN (by omega) (by omega) ?_; refine x_addN (by rw [IntKind.wrap_u32]; omega) ?_
    have := h w3 v13 (ext hfr) hown
    rw [hr1, hr2] at this
    exact this
end Go.Eng
namespace Go.Eng
open Go.Proofs Go.MapKept
variable {w : World} {K : Value → World → Prop} {E : List PanicEntry → World → Prop}
structure TE where
  cell : Int
  page : Nat
  frame : Nat
  perm : Nat
  used : Nat
def tagV (c : Int) (p : Nat) : Value := .agg #[.int .i64 c, .int .u32 p]
def TE.v (e : TE) : Value := .agg #[.int .u32 e.frame, .int .u8 e.perm, .int .u64 e.used]
def TE.is (e : TE) (c : Int) (p : Nat) : Bool := decide (e.cell = c) && decide (e.page = p)
def rm (L : List TE) (c : Int) (p : Nat) : List TE := L.filter fun e => !e.is c p
theorem is_iff {e : TE} {c : Int} {p : Nat} : e.is c p = true ↔ e.cell = c ∧ e.page = p := by simp [TE.is]
theorem tagV_inj {c d : Int} {p q : Nat} : tagV c p = tagV d q ↔ c = d ∧ p = q := by
  simp [tagV]
  intro _
  omega
structure TlbR (w : World) (t tb slots now : Nat) (L : List TE) : Prop where
  blk : w.heap[t]? = some (.cells #[.int .i64 slots, .map (some tb), .int .u64 now] 142 (0, 0))
  map : ∃ es ck f, w.heap[tb]? = some (.map es ck) ∧ MapOf es ck (Two .i64 .u32) f ∧ es.size = L.length ∧ (∀ e ∈ L, f (tagV e.cell e.page) = some e.v) ∧ (∀ x v, f x = some v → ∃ e ∈ L, x = tagV e.cell e.page ∧ v = e.v)
  sorted : L.Pairwise fun a b => b.used < a.used
  tags : L.Pairwise fun a b => ¬ (a.cell = b.cell ∧ a.page = b.page)
  le : ∀ e ∈ L, e.used ≤ now
  cap : L.length ≤ slots ∧ 1 ≤ slots ∧ slots ≤ 64
def Tlb (w : World) (t slots now : Nat) (L : List TE) (F : Nat → Prop) : Prop := ∃ tb, TlbR w t tb slots now L ∧ F t ∧ F tb ∧ ∀ r, F r → r < w.heap.size
theorem TlbR.frame {w w' : World} {t tb slots now : Nat} {L : List TE} {S : Nat → Prop} (h : TlbR w t tb slots now L) (hf : Fr S w w') (h1 : ¬ S t) (h2 : ¬ S tb) : TlbR w' t tb slots now L := by
  obtain ⟨es, ck, f, k1, k2⟩ := h.map
  exact ⟨hf.get h1 h.blk, ⟨es, ck, f, hf.get h2 k1, k2⟩, h.sorted, h.tags, h.le, h.cap⟩
theorem rm_mem {L : List TE} {c : Int} {p : Nat} {e : TE} : e ∈ rm L c p ↔ e ∈ L ∧ ¬ (e.cell = c ∧ e.page = p) := by
  simp only [rm, List.mem_filter, Bool.not_eq_true', ← is_iff, Bool.not_eq_true]
theorem rm_none {L : List TE} {c : Int} {p : Nat} (h : ∀ e ∈ L, ¬ (e.cell = c ∧ e.page = p)) : rm L c p = L := by
  rw [rm, List.filter_eq_self]
  intro e he
  have := h e he
  rw [← is_iff] at this
  simpa using this
theorem rm_len {L : List TE} {c : Int} {p : Nat} (ht : L.Pairwise fun a b => ¬ (a.cell = b.cell ∧ a.page = b.page)) (h : ∃ e ∈ L, e.cell = c ∧ e.page = p) : (rm L c p).length + 1 = L.length := by
  induction L with
  | nil => obtain ⟨e, he, _⟩ := h; cases he
  | cons a L ih =>
    obtain ⟨h1, h2⟩ := List.pairwise_cons.1 ht
    by_cases ha : a.cell = c ∧ a.page = p
    · have e0 : rm (a :: L) c p = rm L c p := by simp [rm, is_iff.2 ha]
      rw [e0, rm_none fun e he hc => h1 e he ⟨ha.1.trans hc.1.symm, ha.2.trans hc.2.symm⟩]
      simp
    · have hb : a.is c p = false := by rw [← Bool.not_eq_true, is_iff]; exact ha
      have e0 : rm (a :: L) c p = a :: rm L c p := by simp [rm, hb]
      rw [e0]
      obtain ⟨e, he, hc⟩ := h
      rcases List.mem_cons.1 he with rfl | he
      · exact absurd hc ha
      · have := ih h2 ⟨e, he, hc⟩
        simp only [List.length_cons]
        omega
theorem TlbNew_c {n : Int} (hn : -9223372036854775808 ≤ n ∧ n ≤ 9223372036854775807) (h0 : n < 1 ∨ 64 < n → K (.tuple #[.pointer none, .int .i64 50]) w)
   (h1 : ∀ (N : Nat) (w' : World) (t : Nat) (F : Nat → Prop), n = N → 1 ≤ N → N ≤ 64 → Ext w w' → (∀ r, F r → w.heap.size ≤ r) → Tlb w' t N 0 [] F → F t → K (.tuple #[ptr t, .int .i64 0]) w') : C P 43 #[.int .i64 n] w K E := by
  apply F43
  unfold S43_0
  refine x_lss (fun hc => ?_) (fun hc => ?_)
  with_reducible refine XG.no (by decide) ?_; refine XG.no (by decide) ?_; refine x_pickT ?_; refine Cnd.yes ?_
  rotate_left
  with_reducible refine XG.yes ?_; refine x_val ?_; refine XG.yes ?_
  refine x_gtr (fun hc => ?_) (fun hc => ?_)
  with_reducible refine x_pickF ?_; refine Cnd.yes ?_
  rotate_left
  with_reducible refine x_pickF ?_; refine Cnd.no ?_; refine x_makeMap ?_; refine x_buildS (by apply fill_1; exact inferInstance; exact oneI; exact set_0; apply fill_1; exact inferInstance; exact oneM; apply set_S; exact set_0; rotate_left; exact fill_nil; rotate_left; rotate_left; rotate_left; rotate_left) ?_; refine x_boxA ?_
  rotate_left
  · exact h0 (by omega)
  · exact h0 (by omega)
  · obtain ⟨N, rfl⟩ : ∃ N : Nat, n = N := ⟨n.toNat, by omega⟩
    refine h1 N _ _ (fun r => r = w.heap.size ∨ r = w.heap.size + 1) rfl (by omega) (by omega) (((Fr.refl _ w).alloc _).alloc _) (by rintro r (rfl | rfl) <;> omega) ⟨w.heap.size, ⟨?_, ⟨#[], 0, fun _ => none, ?_, MapOf.empty _ _, rfl, by simp, by simp⟩, List.Pairwise.nil, List.Pairwise.nil, by simp, by simp; omega⟩, .inr size_alloc, .inl rfl, ?_⟩ (.inr size_alloc)
    · exact blk_alloc_new
    · with_reducible refine blk_alloc_old' ?_; exact blk_alloc_new
    · rintro r (rfl | rfl) <;> simp only [size_alloc] <;> omega
theorem use_c {t tb slots now pg fr pe : Nat} {c : Int} {L : List TE} (h : TlbR w t tb slots now L) (hnow : now < 9223372036854775807) (hlen : (rm L c pg).length < slots)
   (hK : ∀ w', Fr (fun r => r = t ∨ r = tb) w w' → TlbR w' t tb slots (now + 1) (⟨c, pg, fr, pe, now + 1⟩ :: rm L c pg) → K (.tuple #[]) w') : C P 100 #[ptr t, tagV c pg, .agg #[.int .u32 fr, .int .u8 pe]] w K E := by
  have hb := h.blk
  obtain ⟨es, ck, f, k1, k2, k3, k4, k5⟩ := h.map
  have hne : t ≠ tb := ne_blk hb k1 (by simp)
  have lt1 := lt_of_blk hb
  have lt2 := lt_of_blk k1
  apply F100
  unfold S100_0 tagV
  with_reducible refine x_boxA ?_; refine x_boxA ?_; refine x_nil ?_; refine x_field0 ?_; refine x_load1 (by refine blk_alloc_old' ?_; refine blk_alloc_old' ?_; assumption) at_2 ?_; refine x_addN (by rw [wrap_u64]; omega) ?_; refine x_nil ?_; refine x_field0 ?_; refine x_store1 (by refine blk_alloc_old' ?_; refine blk_alloc_old' ?_; assumption) oneI (set_S (set_S set_0)) ?_; refine XQ.of rfl ?_; refine x_nil ?_; refine qstep ?_; refine XQ.of rfl ?_; refine x_field0 ?_; refine qstep ?_; refine XQ.of rfl ?_; refine x_load1 (by exact blk_set_same (by refine lt_alloc ?_; refine lt_alloc ?_; assumption)) at_1 ?_; refine qstep ?_; refine XQ.of rfl ?_; refine x_loadA (by refine blk_set_ne' ?_ (by exact Ne.symm (Nat.ne_of_lt ‹_›)); refine blk_alloc_old' ?_; exact blk_alloc_new) (sub_cons (sub_cons sub_nil)) ?_; refine qstep ?_; refine XQ.of rfl ?_; refine x_loadA (by refine blk_set_ne' ?_ (by exact Ne.symm (Nat.ne_of_lt (by refine lt_alloc ?_; assumption))); exact blk_alloc_new) (sub_cons (sub_cons sub_nil)) ?_; refine qstep ?_; refine XQ.of rfl ?_; refine x_nil ?_; refine qstep ?_; refine XQ.of rfl ?_; refine x_field0 ?_; refine qstep ?_; refine XQ.of rfl ?_; refine x_load1 (by exact blk_set_same (by refine lt_alloc ?_; refine lt_alloc ?_; assumption)) at_2 ?_; refine qstep ?_; refine XQ.of rfl ?_; refine x_buildS (by apply fill_A; exact inferInstance; simp only [List.size_toArray, List.length_cons, List.length_nil, Nat.zero_add, Nat.reduceAdd]; apply lay_cons; apply lay_cons; exact lay_nil; rotate_left; rotate_left; apply fill_1; exact inferInstance; exact oneI; apply set_S; apply set_S; exact set_0; rotate_left; rotate_left; exact fill_nil; rotate_left; rotate_left; rotate_left; rotate_left; rotate_left) ?_; refine qstep ?_
  refine x_mapUpd (f := f) (by refine blk_set_ne' ?_ (by exact Ne.symm ‹_›); refine blk_alloc_old' ?_; refine blk_alloc_old' ?_; assumption) k2 ⟨c, _, rfl⟩ fun es' ck' m' hsz => ?_
  rw [show (now : Int) + 1 = ((now + 1 : Nat) : Int) by omega] at m' ⊢
  refine hK _ ?_ ?_
  · exact (((((Fr.refl (fun r => r = t ∨ r = tb) w).alloc _).alloc _).set (fun _ => .inl rfl) _).drw).set (fun _ => .inr rfl) _
  · refine ⟨?_, ⟨es', ck', _, ?_, m', ?_, ?_, ?_⟩, ?_, ?_, ?_, ?_⟩
    · rw [blk_set_ne hne]
      exact blk_set_same (by rw [size_alloc, size_alloc]; omega)
    · exact blk_set_same (show tb < (setBlk _ _ _).heap.size by rw [size_set, size_alloc, size_alloc]; omega)
    · rw [hsz, List.length_cons]
      have hin : (f (tagV c pg)).isSome = true ↔ ∃ e ∈ L, e.cell = c ∧ e.page = pg := by
        constructor
        · intro hs
          obtain ⟨v, hv⟩ := Option.isSome_iff_exists.1 hs
          obtain ⟨e, he, h1, _⟩ := k5 _ _ hv
          obtain ⟨rfl, rfl⟩ := tagV_inj.1 h1
          exact ⟨e, he, rfl, rfl⟩
        · rintro ⟨e, he, rfl, rfl⟩
          rw [k4 e he]; rfl
      by_cases hs : (f (tagV c pg)).isSome = true
      · have := rm_len h.tags (hin.1 hs)
        rw [if_pos (show (f (.agg #[.int .i64 c, .int .u32 pg])).isSome = true from hs)]
        omega
      · have : rm L c pg = L := rm_none fun e he hc => hs (hin.2 ⟨e, he, hc⟩)
        rw [if_neg (show ¬ (f (.agg #[.int .i64 c, .int .u32 pg])).isSome = true from hs), this]
        omega
    · intro e he
      rcases List.mem_cons.1 he with rfl | he
      · exact upd_same
      · obtain ⟨h1, h2⟩ := rm_mem.1 he
        rw [upd_ne (show tagV e.cell e.page ≠ .agg #[.int .i64 c, .int .u32 pg] from fun hq => h2 (tagV_inj.1 hq))]
        exact k4 e h1
    · intro x v hx
      by_cases hq : x = .agg #[.int .i64 c, .int .u32 pg]
      · rw [hq, upd_same] at hx
        cases hx
        exact ⟨_, List.mem_cons_self .., hq, rfl⟩
      · rw [upd_ne hq] at hx
        obtain ⟨e, he, h1, h2⟩ := k5 x v hx
        exact ⟨e, List.mem_cons_of_mem _ (rm_mem.2 ⟨he, fun hc => hq (by rw [h1, hc.1, hc.2]; rfl)⟩), h1, h2⟩
    · refine List.pairwise_cons.2 ⟨fun e he => ?_, h.sorted.filter _⟩
      have := h.le e (rm_mem.1 he).1
      show e.used < now + 1
      omega
    · refine List.pairwise_cons.2 ⟨fun e he hc => (rm_mem.1 he).2 ⟨hc.1.symm, hc.2.symm⟩, h.tags.filter _⟩
    · intro e he
      rcases List.mem_cons.1 he with rfl | he
      · exact Nat.le_refl _
      · have := h.le e (rm_mem.1 he).1
        omega
    · exact ⟨by rw [List.length_cons]; omega, h.cap.2⟩
theorem TlbR.find {t tb slots now : Nat} {L : List TE} (h : TlbR w t tb slots now L) {c : Int} {p : Nat} {e : TE} (he : e ∈ L) (hc : e.cell = c ∧ e.page = p) : L.find? (·.is c p) = some e := by
  have key : ∀ (l : List TE), l.Pairwise (fun a b => ¬ (a.cell = b.cell ∧ a.page = b.page)) → e ∈ l → l.find? (·.is c p) = some e := fun l => by
    induction l with
    | nil => intro _ h; cases h
    | cons a l ih =>
      intro hp hm
      obtain ⟨h1, h2⟩ := List.pairwise_cons.1 hp
      rcases List.mem_cons.1 hm with rfl | hm
      · simp [is_iff.2 hc]
      · have ha : a.is c p = false := by
          rw [← Bool.not_eq_true, is_iff]
          exact fun hq => h1 e hm ⟨hq.1.trans hc.1.symm, hq.2.trans hc.2.symm⟩
        simp [ha, ih h2 hm]
  exact key L h.tags he
theorem TlbLen_c {t tb slots now : Nat} {L : List TE} (h : TlbR w t tb slots now L) (hk : K (.int .i64 L.length) w) : C P 30 #[ptr t] w K E := by
  have hb := h.blk
  obtain ⟨es, ck, f, k1, k2, k3, k4, k5⟩ := h.map
  apply F30
  unfold S30_0
  with_reducible refine x_nil ?_; refine x_field0 ?_; refine x_load1 ‹_› at_1 ?_; refine x_lenM ‹_› ?_
  rwa [k3]
theorem TlbFlush_c {t tb slots now : Nat} {L : List TE} (h : TlbR w t tb slots now L) (hk : ∀ w', Fr (fun r => r = tb) w w' → TlbR w' t tb slots now [] → K (.int .i64 L.length) w') : C P 32 #[ptr t] w K E := by
  have hb := h.blk
  obtain ⟨es, ck, f, k1, k2, k3, k4, k5⟩ := h.map
  have hne : t ≠ tb := ne_blk hb k1 (by simp)
  apply F32
  unfold S32_0
  with_reducible refine x_nil ?_; refine x_field0 ?_; refine x_load1 ‹_› at_1 ?_; refine x_lenM ‹_› ?_; refine x_nil ?_; refine x_field0 ?_; refine x_load1 ‹_› at_1 ?_
  refine x_clearM ‹_› ?_
  rw [k3]
  exact hk _ (Fr.set1 (Fr.refl _ _)) ⟨(blk_set_ne hne).trans hb, ⟨#[], ck, fun _ => none, blk_set_same (lt_of_blk k1), MapOf.empty _ _, rfl, by simp, by simp⟩, List.Pairwise.nil, List.Pairwise.nil, by simp, by have := h.cap; simp; omega⟩
end Go.Eng
namespace Go.Eng
open Go.Proofs Go.MapKept
variable {w : World} {K : Value → World → Prop} {E : List PanicEntry → World → Prop}
theorem Look_c {t tb slots now pg : Nat} {c : Int} {L : List TE} (h : TlbR w t tb slots now L) (hnow : now < 9223372036854775807)
   (h0 : ∀ w', Ext w w' → (∀ e ∈ L, ¬ (e.cell = c ∧ e.page = pg)) → TlbR w' t tb slots now L → K (.tuple #[.agg #[.int .u32 0, .int .u8 0], .bool false]) w')
   (h1 : ∀ e w', e ∈ L → e.cell = c ∧ e.page = pg → Fr (fun r => r = t ∨ r = tb) w w' → TlbR w' t tb slots (now + 1) (⟨c, pg, e.frame, e.perm, now + 1⟩ :: rm L c pg) → K (.tuple #[.agg #[.int .u32 e.frame, .int .u8 e.perm], .bool true]) w') :
   C P 87 #[ptr t, tagV c pg] w K E := by
  have hb := h.blk
  obtain ⟨es, ck, f, k1, k2, k3, k4, k5⟩ := h.map
  have hne : t ≠ tb := ne_blk hb k1 (by simp)
  have lt1 := lt_of_blk hb
  have lt2 := lt_of_blk k1
  apply F87
  unfold S87_0 tagV
  cases hf : f (.agg #[.int .i64 c, .int .u32 pg]) with
  | none =>
    with_reducible refine x_boxA ?_; refine x_alloc ?_; refine XQ.of rfl ?_; refine x_nil ?_; refine qstep ?_; refine XQ.of rfl ?_; refine x_field0 ?_; refine qstep ?_; refine XQ.of rfl ?_; refine x_load1 (by refine blk_alloc_old' ?_; refine blk_alloc_old' ?_; assumption) at_1 ?_; refine qstep ?_; refine XQ.of rfl ?_; refine x_loadA (by refine blk_alloc_old' ?_; exact blk_alloc_new) (sub_cons (sub_cons sub_nil)) ?_; refine qstep ?_; refine XQ.of rfl ?_; refine x_lookOkN (by refine blk_alloc_old' ?_; refine blk_alloc_old' ?_; assumption) ‹_› two_mk ‹_› ?_; refine qstep ?_; refine XQ.of rfl ?_; refine x_extract at_0 ?_; refine qstep ?_; refine XQ.of rfl ?_; refine x_extract at_1 ?_; refine qstep ?_; refine x_alloc ?_; refine And.intro ?_ ?_; refine XQ.of rfl ?_; refine x_extract at_1 ?_; refine qstep ?_; exact rfl; refine And.intro ?_ ?_; refine XQ.of rfl ?_; refine x_extract at_0 ?_; refine qstep ?_; exact rfl; refine And.intro ?_ ?_; refine XQ.of rfl ?_; refine x_lookOkN (by refine blk_alloc_old' ?_; refine blk_alloc_old' ?_; refine blk_alloc_old' ?_; assumption) ‹_› two_mk ‹_› ?_; refine qstep ?_; exact rfl; refine And.intro ?_ ?_; refine XQ.of rfl ?_; refine x_loadA (by refine blk_alloc_old' ?_; refine blk_alloc_old' ?_; exact blk_alloc_new) (sub_cons (sub_cons sub_nil)) ?_; refine qstep ?_; exact rfl; refine And.intro ?_ ?_; refine XQ.of rfl ?_; refine x_load1 (by refine blk_alloc_old' ?_; refine blk_alloc_old' ?_; refine blk_alloc_old' ?_; assumption) at_1 ?_; refine qstep ?_; exact rfl; refine And.intro ?_ ?_; refine XQ.of rfl ?_; refine x_field0 ?_; refine qstep ?_; exact rfl; refine And.intro ?_ ?_; refine XQ.of rfl ?_; refine x_nil ?_; refine qstep ?_; exact rfl; refine x_storeW blk_alloc_new rfl (by decide) rfl ?_; refine And.intro ?_ ?_; refine XQ.of rfl ?_; refine x_extract at_1 ?_; refine qstep ?_; exact rfl; refine Cnd.no ?_
    unfold S87_j4
    generalize hw1 : setBlk _ _ _ = w1
    simp only [size_alloc] at hw1 ⊢
    have e1 : Ext w w1 := by rw [← hw1]; exact (((((Fr.refl _ w).alloc _).alloc _).drw).alloc _).set (fun h => by show False; have : w.heap.size + 1 + 1 < w.heap.size := h; omega) _
    have b1 : w1.heap[w.heap.size + 1]? = some (.cells #[.int .u32 0, .int .u8 0] 188 (0, 0)) := by rw [← hw1]; refine blk_set_ne' ?_ (by exact Nat.ne_of_lt (by omega)); refine blk_alloc_old' ?_; exact blk_alloc_eq (by simp only [size_set, size_alloc])
    have b2 : w1.heap[w.heap.size + 1 + 1]? = some (.cells #[.int .u32 0, .int .u8 0, .int .u64 0] 212 (0, 0)) := by
      rw [← hw1]
      exact blk_set_same (by rw [size_alloc]; show _ < (drw _).heap.size + 1; show _ < ((w.alloc _).alloc _).heap.size + 1; rw [size_alloc, size_alloc]; omega)
    with_reducible refine x_field0 ?_; refine x_loadA ‹_› (sub_cons (sub_cons sub_nil)) ?_; refine x_storeW ‹_› rfl (by decide) rfl ?_
    refine xres_2 (rv_loadA (by exact blk_set_same (by exact lt_of_blk ‹_›)) (sub_cons (sub_cons sub_nil))) rv_val ?_
    have e2 : Ext w (setBlk w1 (w.heap.size + 1) (.cells #[.int .u32 0, .int .u8 0] 188 (0, 0))) := e1.set (fun h => by omega) _
    refine h0 _ e2 (fun e he hc => ?_) (h.frame e2 id id)
    have := k4 e he
    rw [hc.1, hc.2] at this
    exact absurd (this.symm.trans hf) (by simp)
  | some v =>
    obtain ⟨e, he, g1, rfl⟩ := k5 _ _ hf
    obtain ⟨rfl, rfl⟩ := tagV_inj.1 g1
    unfold TE.v at hf
    with_reducible refine x_boxA ?_; refine x_alloc ?_; refine XQ.of rfl ?_; refine x_nil ?_; refine qstep ?_; refine XQ.of rfl ?_; refine x_field0 ?_; refine qstep ?_; refine XQ.of rfl ?_; refine x_load1 (by refine blk_alloc_old' ?_; refine blk_alloc_old' ?_; assumption) at_1 ?_; refine qstep ?_; refine XQ.of rfl ?_; refine x_loadA (by refine blk_alloc_old' ?_; exact blk_alloc_new) (sub_cons (sub_cons sub_nil)) ?_; refine qstep ?_; refine XQ.of rfl ?_; refine x_lookOkS (by refine blk_alloc_old' ?_; refine blk_alloc_old' ?_; assumption) ‹_› two_mk ‹_› ?_; refine qstep ?_; refine XQ.of rfl ?_; refine x_extract at_0 ?_; refine qstep ?_; refine XQ.of rfl ?_; refine x_extract at_1 ?_; refine qstep ?_; refine x_alloc ?_; refine And.intro ?_ ?_; refine XQ.of rfl ?_; refine x_extract at_1 ?_; refine qstep ?_; exact rfl; refine And.intro ?_ ?_; refine XQ.of rfl ?_; refine x_extract at_0 ?_; refine qstep ?_; exact rfl; refine And.intro ?_ ?_; refine XQ.of rfl ?_; refine x_lookOkS (by refine blk_alloc_old' ?_; refine blk_alloc_old' ?_; refine blk_alloc_old' ?_; assumption) ‹_› two_mk ‹_› ?_; refine qstep ?_; exact rfl; refine And.intro ?_ ?_; refine XQ.of rfl ?_; refine x_loadA (by refine blk_alloc_old' ?_; refine blk_alloc_old' ?_; exact blk_alloc_new) (sub_cons (sub_cons sub_nil)) ?_; refine qstep ?_; exact rfl; refine And.intro ?_ ?_; refine XQ.of rfl ?_; refine x_load1 (by refine blk_alloc_old' ?_; refine blk_alloc_old' ?_; refine blk_alloc_old' ?_; assumption) at_1 ?_; refine qstep ?_; exact rfl; refine And.intro ?_ ?_; refine XQ.of rfl ?_; refine x_field0 ?_; refine qstep ?_; exact rfl; refine And.intro ?_ ?_; refine XQ.of rfl ?_; refine x_nil ?_; refine qstep ?_; exact rfl; refine x_storeA blk_alloc_new rfl (by simp [Value.oneCell']) (lay_cons (lay_cons (lay_cons lay_nil))) ?_; refine And.intro ?_ ?_; refine XQ.of rfl ?_; refine x_extract at_1 ?_; refine qstep ?_; exact rfl; refine Cnd.yes ?_; refine x_loadA (by refine blk_set_ne' ?_ (by exact Nat.ne_of_lt (by refine lt_alloc ?_; exact lt_alloc_new)); refine blk_alloc_old' ?_; refine blk_alloc_old' ?_; exact blk_alloc_new) (sub_cons (sub_cons sub_nil)) ?_; refine x_field0 ?_; refine x_loadA (by exact blk_set_same lt_alloc_new) (sub_cons (sub_cons sub_nil)) ?_
    generalize hw1 : setBlk _ _ _ = w1
    simp only [size_alloc] at hw1 ⊢
    have e1 : Ext w w1 := by rw [← hw1]; exact (((((Fr.refl _ w).alloc _).alloc _).drw).alloc _).set (fun h => by show False; have : w.heap.size + 1 + 1 < w.heap.size := h; omega) _
    have b1 : w1.heap[w.heap.size + 1]? = some (.cells #[.int .u32 0, .int .u8 0] 188 (0, 0)) := by rw [← hw1]; refine blk_set_ne' ?_ (by exact Nat.ne_of_lt (by omega)); refine blk_alloc_old' ?_; exact blk_alloc_eq (by simp only [size_set, size_alloc])
    have b2 : w1.heap[w.heap.size + 1 + 1]? = some (.cells #[.int .u32 e.frame, .int .u8 e.perm, .int .u64 e.used] 212 (0, 0)) := by
      rw [← hw1]
      exact blk_set_same (by rw [size_alloc]; show _ < (drw _).heap.size + 1; show _ < ((w.alloc _).alloc _).heap.size + 1; rw [size_alloc, size_alloc]; omega)
    refine x_callF (use_c (h.frame e1 id id) hnow ?_ fun w2 hx2 ht2 => ?_)
    · have := rm_len h.tags ⟨e, he, rfl, rfl⟩
      have := h.cap
      omega
    · unfold S87_j4
      have b1' := hx2.get (by rintro (h | h) <;> omega) b1
      have b2' := hx2.get (by rintro (h | h) <;> omega) b2
      with_reducible refine x_field0 ?_; refine x_loadA ‹_› (sub_cons (sub_cons sub_nil)) ?_; refine x_storeA ‹_› rfl (by simp [Value.oneCell']) (lay_cons (lay_cons lay_nil)) ?_
      refine xres_2 (rv_loadA (by exact blk_set_same (by exact lt_of_blk ‹_›)) (sub_cons (sub_cons sub_nil))) rv_val ?_
      have e3 : Fr (fun r => r = t ∨ r = tb) w (setBlk w2 (w.heap.size + 1) (.cells #[.int .u32 e.frame, .int .u8 e.perm] 188 (0, 0))) := ((e1.mono fun _ _ h => h.elim).trans hx2).set (fun h => by omega) _
      refine h1 e _ he ⟨rfl, rfl⟩ e3 (ht2.frame (Fr.set1 (Fr.refl _ _)) (by omega) (by omega))
end Go.Eng
namespace Go.Eng
open Go.Proofs Go.MapKept
variable {w : World} {K : Value → World → Prop} {E : List PanicEntry → World → Prop}
theorem IndexI_c {b cp : Nat} {xs : List Int} {x : Int} {T : TypeId} {fz : Nat × Nat} (hb : w.heap[b]? = some (.cells (xs.map (Value.int .i64)).toArray T fz)) (hl : xs.length ≤ 1000000)
   (h0 : x ∉ xs → K (.int .i64 (-1)) w) (h1 : ∀ i : Nat, x ∈ xs → K (.int .i64 i) w) : C P 97 #[.slice (some ⟨b, 0, none⟩) xs.length cp, .int .i64 x] w K E := by
  apply F97
  unfold S97_0
  with_reducible refine x_lenS ?_
  unfold S97_l2
  refine ⟨fun v8 w2 => ∃ i : Nat, v8 = .int .i64 i ∧ i ≤ xs.length ∧ w2 = w ∧ x ∉ xs.take i, fun v8 _ => match v8 with | .int _ i => xs.length - i.toNat | _ => 0, ⟨0, rfl, by omega, rfl, by simp⟩, ?_⟩
  rintro _ _ ⟨i, rfl, hi, rfl, hno⟩
  unfold S97_b2
  refine x_lss (fun hc => ?_) (fun hc => ?_)
  with_reducible refine Cnd.yes ?_
  rotate_left
  with_reducible refine Cnd.no ?_
  rotate_left
  · refine x_idxS (by omega) ?_
    have hlt : i < xs.length := by omega
    refine x_load1 (v := .int .i64 xs[i]) hb (by rw [List.getElem?_toArray, show 0 + (i : Int).toNat * 1 = i by omega]; simp [hlt]) ?_
    refine x_eql (fun hc => ?_) (fun hc => ?_)
    with_reducible refine Cnd.yes ?_
    rotate_left
    with_reducible refine Cnd.no ?_; refine x_addN (by rw [IntKind.wrap_i64]; omega) ?_
    rotate_left
    · exact h1 i (by rw [hc]; exact List.getElem_mem _)
    · refine ⟨⟨i + 1, by congr 1, by omega, rfl, ?_⟩, ?_⟩
      · rw [List.take_succ_eq_append_getElem hlt]
        intro hm
        rcases List.mem_append.1 hm with hm | hm
        · exact hno hm
        · simp at hm
          exact hc hm
      · simp only; omega
  · unfold S97_j7
    refine h0 ?_
    rwa [show i = xs.length by omega, List.take_length] at hno
theorem ContainsI_c {b cp : Nat} {xs : List Int} {x : Int} {T : TypeId} {fz : Nat × Nat} (hb : w.heap[b]? = some (.cells (xs.map (Value.int .i64)).toArray T fz)) (hl : xs.length ≤ 1000000)
   (h : K (.bool (decide (x ∈ xs))) w) : C P 81 #[.slice (some ⟨b, 0, none⟩) xs.length cp, .int .i64 x] w K E := by
  apply F81
  unfold S81_0
  refine x_callF (IndexI_c hb hl (fun hn => ?_) fun i hi => ?_)
  · refine x_geq (fun hc => by omega) (fun hc => ?_)
    rwa [decide_eq_false hn] at h
  · refine x_geq (fun hc => ?_) (fun hc => by omega)
    rwa [decide_eq_true hi] at h
structure TlbM (es : Array MapEntry) (ck : Nat) (f : Value → Option Value) (L : List TE) : Prop where
  m : MapOf es ck (Two .i64 .u32) f
  sz : es.size = L.length
  has : ∀ e ∈ L, f (tagV e.cell e.page) = some e.v
  all : ∀ x v, f x = some v → ∃ e ∈ L, x = tagV e.cell e.page ∧ v = e.v
theorem TlbR.of {t tb slots now ck : Nat} {L : List TE} {es : Array MapEntry} {f : Value → Option Value} (hb : w.heap[t]? = some (.cells #[.int .i64 slots, .map (some tb), .int .u64 now] 142 (0, 0))) (hm : w.heap[tb]? = some (.map es ck)) (h : TlbM es ck f L)
   (sorted : L.Pairwise fun a b => b.used < a.used) (tags : L.Pairwise fun a b => ¬ (a.cell = b.cell ∧ a.page = b.page)) (le : ∀ e ∈ L, e.used ≤ now) (cap : L.length ≤ slots ∧ 1 ≤ slots ∧ slots ≤ 64) : TlbR w t tb slots now L :=
  ⟨hb, ⟨es, ck, f, hm, h.m, h.sz, h.has, h.all⟩, sorted, tags, le, cap⟩
theorem TlbR.m {t tb slots now : Nat} {L : List TE} (h : TlbR w t tb slots now L) : ∃ es ck f, w.heap[tb]? = some (.map es ck) ∧ TlbM es ck f L := by
  obtain ⟨es, ck, f, k1, k2, k3, k4, k5⟩ := h.map
  exact ⟨es, ck, f, k1, k2, k3, k4, k5⟩
theorem TlbM.ent {es : Array MapEntry} {ck : Nat} {f : Value → Option Value} {L : List TE} (h : TlbM es ck f L) {y : MapEntry} (hy : y ∈ es.toList) : ∃ e ∈ L, y.key = tagV e.cell e.page ∧ y.val = e.v := h.all _ _ (h.m.mem y hy)
theorem TlbM.back {es : Array MapEntry} {ck : Nat} {f : Value → Option Value} {L : List TE} (h : TlbM es ck f L) {e : TE} (he : e ∈ L) : ∃ y ∈ es.toList, y.key = tagV e.cell e.page ∧ y.val = e.v := h.m.dom _ _ (h.has e he)
theorem TlbM.del {es es' : Array MapEntry} {ck : Nat} {f : Value → Option Value} {L : List TE} (h : TlbM es ck f L) (ht : L.Pairwise fun a b => ¬ (a.cell = b.cell ∧ a.page = b.page)) {c : Int} {p : Nat} (m' : MapOf es' ck (Two .i64 .u32) (del f (tagV c p))) (hsz : es'.size = if (f (tagV c p)).isSome then es.size - 1 else es.size) :
    TlbM es' ck (del f (tagV c p)) (rm L c p) := by
  refine ⟨m', ?_, fun e he => ?_, fun x v hx => ?_⟩
  · have hin : (f (tagV c p)).isSome = true ↔ ∃ e ∈ L, e.cell = c ∧ e.page = p := by
      constructor
      · intro hs
        obtain ⟨v, hv⟩ := Option.isSome_iff_exists.1 hs
        obtain ⟨e, he, h1, _⟩ := h.all _ _ hv
        obtain ⟨rfl, rfl⟩ := tagV_inj.1 h1
        exact ⟨e, he, rfl, rfl⟩
      · rintro ⟨e, he, rfl, rfl⟩
        rw [h.has e he]; rfl
    have hs := h.sz
    by_cases hc : (f (tagV c p)).isSome = true
    · have := rm_len ht (hin.1 hc)
      rw [if_pos hc] at hsz
      clear hin
      omega
    · rw [if_neg hc] at hsz
      rw [rm_none fun e he hh => hc (hin.2 ⟨e, he, hh⟩)]
      clear hin
      omega
  · obtain ⟨h1, h2⟩ := rm_mem.1 he
    rw [del_ne fun hq => h2 (tagV_inj.1 hq)]
    exact h.has e h1
  · by_cases hq : x = tagV c p
    · rw [hq, del_same] at hx; cases hx
    · rw [del_ne hq] at hx
      obtain ⟨e, he, h1, h2⟩ := h.all x v hx
      exact ⟨e, rm_mem.2 ⟨he, fun hc => hq (by rw [h1, hc.1, hc.2])⟩, h1, h2⟩
end Go.Eng
namespace Go.Eng
open Go.Proofs Go.MapKept
variable {w : World} {K : Value → World → Prop} {E : List PanicEntry → World → Prop}
def notOf (c : Int) (L : List TE) : List TE := L.filter fun e => !decide (e.cell = c)
theorem notOf_rm {c : Int} {p : Nat} {L : List TE} : notOf c (rm L c p) = notOf c L := by
  simp only [notOf, rm, List.filter_filter]
  apply List.filter_congr
  intro e _
  by_cases h : e.cell = c <;> simp [TE.is, h]
def unseen (es : Array MapEntry) (seen : Array Nat) : Nat := (es.toList.filter fun y => !seen.contains y.born).length
theorem unseen_push {es es' : Array MapEntry} {seen : Array Nat} {y : MapEntry} (hs : es'.toList.Sublist es.toList) (hy : y ∈ es.toList) (hn : y.born ∉ seen.toList) : unseen es' (seen.push y.born) < unseen es seen := by
  have h1 : unseen es' (seen.push y.born) ≤ unseen es (seen.push y.born) := (hs.filter _).length_le
  have h2 : unseen es (seen.push y.born) < unseen es seen := by
    have e : (es.toList.filter fun z => !(seen.push y.born).contains z.born) = (es.toList.filter fun z => !seen.contains z.born).filter fun z => !decide (z.born = y.born) := by
      rw [List.filter_filter]
      apply List.filter_congr
      intro z _
      simp only [Array.contains_push]
      by_cases hz : z.born = y.born <;> simp [hz]
    unfold unseen
    rw [e]
    have hmem : y ∈ es.toList.filter fun z => !seen.contains z.born := List.mem_filter.2 ⟨hy, by simpa using hn⟩
    refine Nat.lt_of_le_of_ne (List.length_filter_le _ _) fun hlen => ?_
    have := (List.filter_sublist (p := fun z => !decide (z.born = y.born)) (l := es.toList.filter fun z => !seen.contains z.born)).eq_of_length hlen
    have hm2 := hmem
    rw [← this] at hm2
    simpa using (List.mem_filter.1 hm2).2
  omega
theorem FlushCell_c {t tb slots now b cp : Nat} {c : Int} {L : List TE} (h : TlbR w t tb slots now L) (hb : w.heap[b]? = some (.cells #[.int .i64 c] 3 (0, 0)))
   (hK : ∀ w' n, Fr (fun r => r = tb) w w' → TlbR w' t tb slots now (notOf c L) → K (.int .i64 n) w') : C P 60 #[ptr t, .slice (some ⟨b, 0, none⟩) 1 cp] w K E := by
  have hbt := h.blk
  obtain ⟨es, ck, f, k1, km⟩ := h.m
  have hne : t ≠ tb := ne_blk hbt k1 (by simp)
  have hnb : b ≠ tb := ne_blk hb k1 (by simp)
  have lt1 := lt_of_blk hbt
  have lt2 := lt_of_blk k1
  have lt3 := lt_of_blk hb
  apply F60
  unfold S60_0
  with_reducible refine x_nil ?_; refine x_field0 ?_; refine x_load1 ‹_› at_1 ?_; refine x_lenM ‹_› ?_; refine x_nil ?_; refine x_field0 ?_; refine x_load1 ‹_› at_1 ?_
  refine x_range ‹_› ?_
  generalize hw1 : World.alloc _ _ = w1
  have e1 : Ext w w1 := by rw [← hw1]; exact (Fr.refl _ w).alloc _
  have it1 : w1.heap[w.heap.size]? = some (.mapIter (some tb) ck #[] ck) := by rw [← hw1]; exact blk_alloc_new
  unfold S60_l3
  refine ⟨fun w2 => ∃ es seen f L', w2.heap[w.heap.size]? = some (.mapIter (some tb) ck seen ck) ∧ w2.heap[tb]? = some (.map es ck) ∧ TlbM es ck f L' ∧ L'.Sublist L ∧ notOf c L' = notOf c L ∧
      (∀ y ∈ es.toList, y.born ∈ seen.toList → ∀ (d : Int) (p : Nat), y.key = tagV d p → d ≠ c) ∧ Fr (fun r => r = tb ∨ w.heap.size ≤ r) w w2,
    fun w2 => match w2.heap[tb]?, w2.heap[w.heap.size]? with | some (.map es _), some (.mapIter _ _ seen _) => unseen es seen | _, _ => 0,
    ⟨es, #[], f, L, it1, e1.get k1, km, List.Sublist.refl _, rfl, by simp, e1.mono fun _ _ h => h.elim⟩, ?_⟩
  rintro w2 ⟨es2, seen, f2, L2, q1, q2, q3, q4, q5, q6, q7⟩
  have t2 := q7.get (by rintro (h | h) <;> omega) hbt
  have b2 := q7.get (by rintro (h | h) <;> omega) hb
  have hit : w.heap.size < w2.heap.size := lt_of_blk q1
  have hitb : w.heap.size ≠ tb := by omega
  unfold S60_b3
  refine x_next q1 q2 q3.m.born (fun hall w3 hw3 => ?_) fun y hy hns w3 hw3 => ?_
  · have e3 : Ext w2 w3 := by
      rcases hw3 with rfl | rfl
      · exact Fr.refl _ _
      · exact Ext.drw_self _
    have t3 := e3.get t2
    have m3 := e3.get q2
    with_reducible refine x_extract at_0 ?_; refine Cnd.no ?_
    unfold S60_j7
    with_reducible refine x_nil ?_; refine x_field0 ?_; refine x_load1 ‹_› at_1 ?_; refine x_lenM ‹_› ?_
    refine x_sub ?_
    have hL : notOf c L = L2 := by
      rw [← q5]
      refine List.filter_eq_self.2 fun e he => ?_
      obtain ⟨z, hz, hzk, _⟩ := q3.back he
      have := q6 z hz (hall z hz) _ _ hzk
      simpa using this
    have e4 : Fr (fun r => r = tb) w w3 := (q7.trans (Fr.of_ext e3)).mono fun r hr hs => by rcases hs with hs | hs; exact hs; omega
    refine hK w3 _ e4 ?_
    rw [hL]
    exact TlbR.of t3 m3 q3 (h.sorted.sublist q4) (h.tags.sublist q4) (fun e he => h.le e (q4.subset he)) ⟨Nat.le_trans q4.length_le h.cap.1, h.cap.2⟩
  · have e3 : Ext w2 w3 := by
      rcases hw3 with rfl | rfl
      · exact Fr.refl _ _
      · exact Ext.drw_self _
    have i3 := e3.get q1
    obtain ⟨e, he, hk, hv⟩ := q3.ent hy
    have hfind : es2.find? (·.born == y.born) = some y := by
      have hnb := List.pairwise_iff_getElem.1 q3.m.nb
      rw [← Array.find?_toList]
      obtain ⟨j, hj⟩ := List.mem_iff_getElem?.1 hy
      obtain ⟨hjl, hje⟩ := List.getElem?_eq_some_iff.1 hj
      refine List.find?_eq_some_iff_getElem.2 ⟨by simp, j, hjl, hje, fun i hi => ?_⟩
      have := hnb i j (by simp at hjl ⊢; omega) (by simpa using hjl) hi
      simp only [List.getElem_map] at this
      rw [hje] at this
      simpa using this
    generalize hw4 : setBlk w3 _ _ = w4
    have e4 : Fr (fun r => r = w.heap.size) w2 w4 := by rw [← hw4]; exact Fr.set1 (Fr.of_ext e3)
    have i4 : w4.heap[w.heap.size]? = some (.mapIter (some tb) ck (seen.push y.born) ck) := by rw [← hw4]; exact blk_set_same (lt_of_blk i3)
    have m4 := e4.get (fun h => hitb h.symm) q2
    have t4 := e4.get (by omega) t2
    have b4 := e4.get (by omega) b2
    clear hw4
    rw [hk]
    unfold tagV
    with_reducible refine x_extract at_0 ?_; refine Cnd.yes ?_
    refine x_entry i4 m4 hfind ?_
    rw [hk, hv]
    unfold tagV
    with_reducible refine x_extract at_0 ?_; refine x_alloc ?_; refine x_storeA blk_alloc_new rfl (by simp [Value.oneCell']) (lay_cons (lay_cons lay_nil)) ?_; refine x_field0 ?_; refine x_load1 (by exact blk_set_same lt_alloc_new) at_0 ?_
    generalize hw5 : setBlk _ _ _ = w5
    have e5 : Ext w4 w5 := by rw [← hw5]; exact ((Fr.refl _ w4).alloc _).set (fun h => by omega) _
    have k5 : w5.heap[w4.heap.size]? = some (.cells #[.int .i64 e.cell, .int .u32 e.page] 177 (0, 0)) := by rw [← hw5]; exact blk_set_same lt_alloc_new
    have t5 := e5.get t4
    have m5 := e5.get m4
    have b5 := e5.get b4
    have i5 := e5.get i4
    have q75 : Fr (fun r => r = tb ∨ w.heap.size ≤ r) w w5 := q7.trans' (e4.trans' (Fr.of_ext e5) fun r hr hlt => hr) fun r hr hlt => by subst hr; exact .inr (Nat.le_refl _)
    have hmu : ∀ {es' : Array MapEntry}, es'.toList.Sublist es2.toList → unseen es' (seen.push y.born) < unseen es2 seen := fun hs => unseen_push hs hy hns
    clear hw5
    have hb5 : w5.heap[b]? = some (.cells (([c] : List Int).map (Value.int .i64)).toArray 3 (0, 0)) := b5
    refine x_callF (ContainsI_c (xs := [c]) hb5 (by simp) ?_)
    by_cases hc : e.cell = c
    · rw [decide_eq_true (by simp [hc])]
      with_reducible refine Cnd.yes ?_; refine XQ.of rfl ?_; refine x_nil ?_; refine qstep ?_; refine XQ.of rfl ?_; refine x_field0 ?_; refine qstep ?_; refine XQ.of rfl ?_; refine x_load1 ‹_› at_1 ?_; refine qstep ?_; refine XQ.of rfl ?_; refine x_loadA ‹_› (sub_cons (sub_cons sub_nil)) ?_; refine qstep ?_
      refine x_deleteS (f := f2) (show (drw w5).heap[tb]? = _ from m5) q3.m two_mk fun es' m' hsz hsub => ?_
      have hm' : TlbM es' ck (del f2 (tagV e.cell e.page)) (rm L2 e.cell e.page) := q3.del (h.tags.sublist q4) m' hsz
      have e6 : Fr (fun r => r = tb) w5 (setBlk (drw w5) tb (.map es' ck)) := Fr.set1 ((Fr.refl _ w5).drw)
      have i6 := e6.get hitb i5
      have m6 : (setBlk (drw w5) tb (.map es' ck)).heap[tb]? = some (.map es' ck) := blk_set_same (show tb < (drw w5).heap.size from lt_of_blk m5)
      refine ⟨⟨es', seen.push y.born, _, _, i6, m6, hm', (List.filter_sublist).trans q4, by rw [hc, notOf_rm, q5], fun z hz hzs d p hzk => ?_, q75.trans' e6 fun r hr _ => .inl hr⟩, ?_⟩
      · have hz2 := hsub.subset hz
        rw [Array.toList_push, List.mem_append] at hzs
        rcases hzs with hzs | hzs
        · exact q6 z hz2 hzs d p hzk
        · have hzb : z.born = y.born := by simpa using hzs
          have hzy : z = y := by
            have h1 : es2.find? (·.born == z.born) = some y := by rw [hzb]; exact hfind
            have hmem := hm'.m.mem z hz
            by_cases hzk2 : z.key = tagV e.cell e.page
            · rw [hzk2, del_same] at hmem; cases hmem
            · -- the same stamp: the same entry
              have hnb := List.pairwise_iff_getElem.1 q3.m.nb
              obtain ⟨i, hi⟩ := List.mem_iff_getElem?.1 hz2
              obtain ⟨j, hj⟩ := List.mem_iff_getElem?.1 hy
              obtain ⟨hil, hie⟩ := List.getElem?_eq_some_iff.1 hi
              obtain ⟨hjl, hje⟩ := List.getElem?_eq_some_iff.1 hj
              rcases Nat.lt_trichotomy i j with hij | hij | hij
              · exact (hnb i j (by simpa using hil) (by simpa using hjl) hij (by simp only [List.getElem_map]; rw [hie, hje, hzb])).elim
              · subst hij; rw [← hie, ← hje]
              · exact (hnb j i (by simpa using hjl) (by simpa using hil) hij (by simp only [List.getElem_map]; rw [hie, hje, hzb])).elim
          have hmem := hm'.m.mem z hz
          rw [hzy, hk, del_same] at hmem
          cases hmem
      · simp only [i6, m6, q1, q2]
        exact hmu hsub
    · rw [decide_eq_false (by simp [hc])]
      with_reducible refine Cnd.no ?_
      refine ⟨⟨es2, seen.push y.born, f2, L2, i5, m5, q3, q4, q5, fun z hz hzs d p hzk => ?_, q75⟩, ?_⟩
      · rw [Array.toList_push, List.mem_append] at hzs
        rcases hzs with hzs | hzs
        · exact q6 z hz hzs d p hzk
        · have hzb : z.born = y.born := by simpa using hzs
          have hnb := List.pairwise_iff_getElem.1 q3.m.nb
          obtain ⟨i, hi⟩ := List.mem_iff_getElem?.1 hz
          obtain ⟨j, hj⟩ := List.mem_iff_getElem?.1 hy
          obtain ⟨hil, hie⟩ := List.getElem?_eq_some_iff.1 hi
          obtain ⟨hjl, hje⟩ := List.getElem?_eq_some_iff.1 hj
          rcases Nat.lt_trichotomy i j with hij | hij | hij
          · exact (hnb i j (by simpa using hil) (by simpa using hjl) hij (by simp only [List.getElem_map]; rw [hie, hje, hzb])).elim
          · subst hij
            rw [hie] at hje
            subst hje
            rw [hk] at hzk
            obtain ⟨h1, _⟩ := tagV_inj.1 hzk
            rw [← h1]; exact hc
          · exact (hnb j i (by simpa using hjl) (by simpa using hil) hij (by simp only [List.getElem_map]; rw [hie, hje, hzb])).elim
      · simp only [i5, m5, q1, q2]
        exact hmu (List.Sublist.refl _)
end Go.Eng
namespace Go.Eng
open Go.Proofs Go.MapKept
variable {w : World} {K : Value → World → Prop} {E : List PanicEntry → World → Prop}
theorem last_min {L : List TE} (hs : L.Pairwise fun a b => b.used < a.used) {e : TE} (he : e ∈ L) (hm : ∀ a ∈ L, e.used ≤ a.used) : ∃ L0, L = L0 ++ [e] := by
  induction L with
  | nil => cases he
  | cons a L ih =>
    obtain ⟨h1, h2⟩ := List.pairwise_cons.1 hs
    rcases List.mem_cons.1 he with rfl | he
    · cases L with
      | nil => exact ⟨[], rfl⟩
      | cons b L =>
        have := h1 b (by simp)
        have := hm b (by simp)
        omega
    · obtain ⟨L0, rfl⟩ := ih h2 he fun a ha => hm a (List.mem_cons_of_mem _ ha)
      exact ⟨a :: L0, rfl⟩
theorem put_j {t tb slots now pg fr pe b4 b5 b6 gp : Nat} {c gc : Int} {went : Bool} {L : List TE} (h : TlbR w t tb slots now L) (hnow : now < 9223372036854775807) (hlen : (rm L c pg).length < slots)
   (h4 : w.heap[b4]? = some (.cells #[.int .i64 c, .int .u32 pg] 177 (0, 0))) (h5 : w.heap[b5]? = some (.cells #[.int .u32 fr, .int .u8 pe] 188 (0, 0))) (h6 : w.heap[b6]? = some (.cells #[.int .i64 gc, .int .u32 gp] 177 (0, 0)))
   (n1 : b6 ≠ t) (n2 : b6 ≠ tb)
   (hK : ∀ w', Fr (fun r => r = t ∨ r = tb ∨ r = b6) w w' → TlbR w' t tb slots (now + 1) (⟨c, pg, fr, pe, now + 1⟩ :: rm L c pg) → K (.tuple #[tagV gc gp, .bool went]) w') :
   S90_j10 (ptr t) (ptr b4) (ptr b5) (ptr b6) (.bool went) w K E := by
  unfold S90_j10
  with_reducible refine x_loadA ‹_› (sub_cons (sub_cons sub_nil)) ?_; refine x_loadA ‹_› (sub_cons (sub_cons sub_nil)) ?_
  refine x_callF (use_c h hnow hlen fun w2 hx2 ht2 => ?_)
  have h6' := hx2.get (by rintro (h | h) <;> omega) h6
  with_reducible refine x_loadA ‹_› (sub_cons (sub_cons sub_nil)) ?_; refine x_storeW ‹_› rfl (by simp [Value.oneCell']) rfl ?_
  refine xres_2 (rv_loadA (by exact blk_set_same (by exact lt_of_blk ‹_›)) (sub_cons (sub_cons sub_nil))) rv_val ?_
  have e3 : Fr (fun r => r = t ∨ r = tb ∨ r = b6) w (setBlk w2 b6 (.cells #[.int .i64 gc, .int .u32 gp] 177 (0, 0))) := (hx2.mono fun r _ h => by rcases h with h | h; exact .inl h; exact .inr (.inl h)).set (fun _ => .inr (.inr rfl)) _
  exact hK _ e3 (ht2.frame (Fr.set1 (Fr.refl _ _)) (by omega) (by omega))
end Go.Eng
namespace Go.Eng
open Go.Proofs Go.MapKept
variable {w : World} {K : Value → World → Prop} {E : List PanicEntry → World → Prop}
theorem put_world {w : World} {o1 o2 o3 o4 o5 : Obj} {w1 : World} (hw : drw (setBlk ((drw (((w.alloc o1).alloc o2).alloc o3)).alloc o4) (drw (((w.alloc o1).alloc o2).alloc o3)).heap.size o5) = w1) :
    Ext w w1 ∧ w1.heap[w.heap.size]? = some o1 ∧ w1.heap[w.heap.size + 1]? = some o2 ∧ w1.heap[w.heap.size + 2]? = some o3 ∧ w1.heap.size = w.heap.size + 4 := by
  have hs : (drw (((w.alloc o1).alloc o2).alloc o3)).heap.size = w.heap.size + 3 := by
    show (((w.alloc o1).alloc o2).alloc o3).heap.size = _
    simp only [size_alloc]
  have e0 : ∀ r, r < w.heap.size + 3 → w1.heap[r]? = (((w.alloc o1).alloc o2).alloc o3).heap[r]? := fun r hr => by
    rw [← hw]
    show (setBlk _ _ _).heap[r]? = _
    rw [blk_set_ne (by rw [hs]; omega), blk_alloc_old (by rw [hs]; omega)]
  refine ⟨?_, ?_, ?_, ?_, ?_⟩
  · rw [← hw]
    exact (((((Fr.refl _ w).alloc _).alloc _).alloc _).drw.alloc _).set (fun h => by rw [hs] at h; omega) _ |>.drw
  · rw [e0 _ (by omega), blk_alloc_old (by simp only [size_alloc]; omega), blk_alloc_old (by simp only [size_alloc]; omega)]
    exact blk_alloc_new
  · rw [e0 _ (by omega), blk_alloc_old (by simp only [size_alloc]; omega)]
    exact blk_alloc_eq (by simp only [size_alloc])
  · rw [e0 _ (by omega)]
    exact blk_alloc_eq (by simp only [size_alloc])
  · rw [← hw]
    show (setBlk _ _ _).heap.size = _
    rw [size_set, size_alloc, hs]
theorem put_world2 {w w1 : World} {o1 o2 o3 o4 : Obj} (hw : setBlk (setBlk ((w.alloc o1).alloc o2) w.heap.size o3) (w.alloc o1).heap.size o4 = w1) :
    Ext w w1 ∧ w1.heap[w.heap.size]? = some o3 ∧ w1.heap[w.heap.size + 1]? = some o4 ∧ w1.heap.size = w.heap.size + 2 := by
  refine ⟨?_, ?_, ?_, ?_⟩
  · rw [← hw]
    exact (((Fr.refl _ w).alloc _).alloc _ |>.set (fun h => by omega) _).set (fun h => by rw [size_alloc] at h; omega) _
  · rw [← hw, blk_set_ne (by rw [size_alloc]; omega)]
    exact blk_set_same (by simp only [size_alloc]; omega)
  · rw [← hw, ← size_alloc (w := w) (o := o1)]
    exact blk_set_same (by rw [size_set]; exact lt_alloc_new)
  · rw [← hw]
    simp only [size_set, size_alloc]
theorem Put_c {t tb slots now pg fr pe : Nat} {c : Int} {L : List TE} (h : TlbR w t tb slots now L) (hnow : now < 9223372036854775807)
   (h1 : (∃ e ∈ L, e.cell = c ∧ e.page = pg) ∨ L.length < slots → ∀ w', Fr (fun r => r = t ∨ r = tb) w w' → TlbR w' t tb slots (now + 1) (⟨c, pg, fr, pe, now + 1⟩ :: rm L c pg) → K (.tuple #[tagV 0 0, .bool false]) w')
   (h2 : ∀ L0 e w', L = L0 ++ [e] → (∀ e ∈ L, ¬ (e.cell = c ∧ e.page = pg)) → L.length = slots → Fr (fun r => r = t ∨ r = tb) w w' → TlbR w' t tb slots (now + 1) (⟨c, pg, fr, pe, now + 1⟩ :: L0) → K (.tuple #[tagV e.cell e.page, .bool true]) w') :
   C P 90 #[ptr t, tagV c pg, .agg #[.int .u32 fr, .int .u8 pe]] w K E := by
  have hb := h.blk
  obtain ⟨es, ck, f, k1, km⟩ := h.m
  have k2 := km.m
  have hne : t ≠ tb := ne_blk hb k1 (by simp)
  have lt1 := lt_of_blk hb
  have lt2 := lt_of_blk k1
  have hcap := h.cap
  apply F90
  unfold S90_0 tagV
  cases hf : f (.agg #[.int .i64 c, .int .u32 pg]) with
  | some v =>
    obtain ⟨e, he, g1, rfl⟩ := km.all _ _ hf
    obtain ⟨rfl, rfl⟩ := tagV_inj.1 g1
    unfold TE.v at hf
    with_reducible refine x_boxA ?_; refine x_boxA ?_; refine x_alloc ?_; refine XQ.of rfl ?_; refine x_nil ?_; refine qstep ?_; refine XQ.of rfl ?_; refine x_field0 ?_; refine qstep ?_; refine XQ.of rfl ?_; refine x_load1 (by refine blk_alloc_old' ?_; refine blk_alloc_old' ?_; refine blk_alloc_old' ?_; assumption) at_1 ?_; refine qstep ?_; refine XQ.of rfl ?_; refine x_loadA (by refine blk_alloc_old' ?_; refine blk_alloc_old' ?_; exact blk_alloc_new) (sub_cons (sub_cons sub_nil)) ?_; refine qstep ?_; refine XQ.of rfl ?_; refine x_lookOkS (by refine blk_alloc_old' ?_; refine blk_alloc_old' ?_; refine blk_alloc_old' ?_; assumption) ‹_› two_mk ‹_› ?_; refine qstep ?_; refine XQ.of rfl ?_; refine x_extract at_0 ?_; refine qstep ?_; refine XQ.of rfl ?_; refine x_extract at_1 ?_; refine qstep ?_; refine x_alloc ?_; refine And.intro ?_ ?_; refine XQ.of rfl ?_; refine x_extract at_1 ?_; refine qstep ?_; exact rfl; refine And.intro ?_ ?_; refine XQ.of rfl ?_; refine x_extract at_0 ?_; refine qstep ?_; exact rfl; refine And.intro ?_ ?_; refine XQ.of rfl ?_; refine x_lookOkS (by refine blk_alloc_old' ?_; refine blk_alloc_old' ?_; refine blk_alloc_old' ?_; refine blk_alloc_old' ?_; assumption) ‹_› two_mk ‹_› ?_; refine qstep ?_; exact rfl; refine And.intro ?_ ?_; refine XQ.of rfl ?_; refine x_loadA (by refine blk_alloc_old' ?_; refine blk_alloc_old' ?_; refine blk_alloc_old' ?_; exact blk_alloc_new) (sub_cons (sub_cons sub_nil)) ?_; refine qstep ?_; exact rfl; refine And.intro ?_ ?_; refine XQ.of rfl ?_; refine x_load1 (by refine blk_alloc_old' ?_; refine blk_alloc_old' ?_; refine blk_alloc_old' ?_; refine blk_alloc_old' ?_; assumption) at_1 ?_; refine qstep ?_; exact rfl; refine And.intro ?_ ?_; refine XQ.of rfl ?_; refine x_field0 ?_; refine qstep ?_; exact rfl; refine And.intro ?_ ?_; refine XQ.of rfl ?_; refine x_nil ?_; refine qstep ?_; exact rfl; refine x_storeA blk_alloc_new rfl (by simp [Value.oneCell']) (lay_cons (lay_cons (lay_cons lay_nil))) ?_; refine And.intro ?_ ?_; refine XQ.of rfl ?_; refine x_extract at_1 ?_; refine qstep ?_; exact rfl; refine XQ.of rfl ?_; refine x_notT ?_; refine qstep ?_; refine XQG.no (by decide) ?_; refine XQG.no (by decide) ?_; refine XQG.no (by decide) ?_; refine XQG.no (by decide) ?_; refine XQG.no (by decide) ?_; refine XQG.no (by decide) ?_; refine XQG.no (by decide) ?_; refine XQG.no (by decide) ?_; refine XQG.no (by decide) ?_; refine XQG.no (by decide) ?_; refine XQ.of rfl ?_; refine x_pickF ?_; refine qstep ?_; refine Cnd.no ?_
    generalize hw1 : drw (setBlk _ _ _) = w1
    obtain ⟨e1, f4, f5, f6, hs1⟩ := put_world hw1
    simp only [size_alloc]
    clear hw1
    have hl := rm_len h.tags ⟨e, he, rfl, rfl⟩
    exact put_j (h.frame e1 id id) hnow (by omega) f4 f5 f6 (by omega) (by omega) fun w' hx ht => h1 (.inl ⟨e, he, rfl, rfl⟩) w' ((Fr.of_ext e1).trans' hx fun r hr hlt => by rcases hr with hr | hr | hr; exact .inl hr; exact .inr hr; omega) ht
  | none =>
    have hno : ∀ e ∈ L, ¬ (e.cell = c ∧ e.page = pg) := fun e he hc => by
      have := km.has e he
      rw [hc.1, hc.2] at this
      exact absurd (this.symm.trans hf) (by simp)
    with_reducible refine x_boxA ?_; refine x_boxA ?_; refine x_alloc ?_; refine XQ.of rfl ?_; refine x_nil ?_; refine qstep ?_; refine XQ.of rfl ?_; refine x_field0 ?_; refine qstep ?_; refine XQ.of rfl ?_; refine x_load1 (by refine blk_alloc_old' ?_; refine blk_alloc_old' ?_; refine blk_alloc_old' ?_; assumption) at_1 ?_; refine qstep ?_; refine XQ.of rfl ?_; refine x_loadA (by refine blk_alloc_old' ?_; refine blk_alloc_old' ?_; exact blk_alloc_new) (sub_cons (sub_cons sub_nil)) ?_; refine qstep ?_; refine XQ.of rfl ?_; refine x_lookOkN (by refine blk_alloc_old' ?_; refine blk_alloc_old' ?_; refine blk_alloc_old' ?_; assumption) ‹_› two_mk ‹_› ?_; refine qstep ?_; refine XQ.of rfl ?_; refine x_extract at_0 ?_; refine qstep ?_; refine XQ.of rfl ?_; refine x_extract at_1 ?_; refine qstep ?_; refine x_alloc ?_; refine And.intro ?_ ?_; refine XQ.of rfl ?_; refine x_extract at_1 ?_; refine qstep ?_; exact rfl; refine And.intro ?_ ?_; refine XQ.of rfl ?_; refine x_extract at_0 ?_; refine qstep ?_; exact rfl; refine And.intro ?_ ?_; refine XQ.of rfl ?_; refine x_lookOkN (by refine blk_alloc_old' ?_; refine blk_alloc_old' ?_; refine blk_alloc_old' ?_; refine blk_alloc_old' ?_; assumption) ‹_› two_mk ‹_› ?_; refine qstep ?_; exact rfl; refine And.intro ?_ ?_; refine XQ.of rfl ?_; refine x_loadA (by refine blk_alloc_old' ?_; refine blk_alloc_old' ?_; refine blk_alloc_old' ?_; exact blk_alloc_new) (sub_cons (sub_cons sub_nil)) ?_; refine qstep ?_; exact rfl; refine And.intro ?_ ?_; refine XQ.of rfl ?_; refine x_load1 (by refine blk_alloc_old' ?_; refine blk_alloc_old' ?_; refine blk_alloc_old' ?_; refine blk_alloc_old' ?_; assumption) at_1 ?_; refine qstep ?_; exact rfl; refine And.intro ?_ ?_; refine XQ.of rfl ?_; refine x_field0 ?_; refine qstep ?_; exact rfl; refine And.intro ?_ ?_; refine XQ.of rfl ?_; refine x_nil ?_; refine qstep ?_; exact rfl; refine x_storeW blk_alloc_new rfl (by decide) rfl ?_; refine And.intro ?_ ?_; refine XQ.of rfl ?_; refine x_extract at_1 ?_; refine qstep ?_; exact rfl; refine XQ.of rfl ?_; refine x_notF ?_; refine qstep ?_; refine XQG.yes ?_; refine XQ.of rfl ?_; refine x_val ?_; refine qstep ?_; refine XQG.yes ?_; refine XQ.of rfl ?_; refine x_nil ?_; refine qstep ?_; refine XQG.yes ?_; refine XQ.of rfl ?_; refine x_field0 ?_; refine qstep ?_; refine XQG.yes ?_; refine XQ.of rfl ?_; refine x_load1 (by refine blk_set_ne' ?_ (by exact Nat.ne_of_lt (by refine lt_alloc ?_; refine lt_alloc ?_; refine lt_alloc ?_; assumption)); refine blk_alloc_old' ?_; refine blk_alloc_old' ?_; refine blk_alloc_old' ?_; refine blk_alloc_old' ?_; assumption) at_1 ?_; refine qstep ?_; refine XQG.yes ?_; refine XQ.of rfl ?_; refine x_lenM (by refine blk_set_ne' ?_ (by exact Nat.ne_of_lt (by refine lt_alloc ?_; refine lt_alloc ?_; refine lt_alloc ?_; assumption)); refine blk_alloc_old' ?_; refine blk_alloc_old' ?_; refine blk_alloc_old' ?_; refine blk_alloc_old' ?_; assumption) ?_; refine qstep ?_; refine XQG.yes ?_; refine XQ.of rfl ?_; refine x_val ?_; refine qstep ?_; refine XQG.yes ?_; refine XQ.of rfl ?_; refine x_nil ?_; refine qstep ?_; refine XQG.yes ?_; refine XQ.of rfl ?_; refine x_field0 ?_; refine qstep ?_; refine XQG.yes ?_; refine XQ.of rfl ?_; refine x_load1 (by refine blk_set_ne' ?_ (by exact Nat.ne_of_lt (by refine lt_alloc ?_; refine lt_alloc ?_; refine lt_alloc ?_; assumption)); refine blk_alloc_old' ?_; refine blk_alloc_old' ?_; refine blk_alloc_old' ?_; refine blk_alloc_old' ?_; assumption) at_0 ?_; refine qstep ?_; refine XQG.yes ?_; refine XQ.of rfl ?_
    refine x_eql (fun hc => ?_) (fun hc => ?_)
    with_reducible refine qstep ?_; refine XQ.of rfl ?_; refine x_pickT ?_; refine qstep ?_; refine Cnd.yes ?_; refine x_nil ?_; refine x_field0 ?_; refine x_load1 (by refine blk_set_ne' ?_ (by exact Nat.ne_of_lt (by refine lt_alloc ?_; refine lt_alloc ?_; refine lt_alloc ?_; assumption)); refine blk_alloc_old' ?_; refine blk_alloc_old' ?_; refine blk_alloc_old' ?_; refine blk_alloc_old' ?_; assumption) at_2 ?_; refine x_addN (by rw [wrap_u64]; omega) ?_; refine x_nil ?_; refine x_field0 ?_; refine x_load1 (by refine blk_set_ne' ?_ (by exact Nat.ne_of_lt (by refine lt_alloc ?_; refine lt_alloc ?_; refine lt_alloc ?_; assumption)); refine blk_alloc_old' ?_; refine blk_alloc_old' ?_; refine blk_alloc_old' ?_; refine blk_alloc_old' ?_; assumption) at_1 ?_
    rotate_left
    with_reducible refine qstep ?_; refine XQ.of rfl ?_; refine x_pickT ?_; refine qstep ?_; refine Cnd.no ?_
    rotate_left
    · generalize hw1 : drw (setBlk _ _ _) = w1
      obtain ⟨e1, f4, f5, f6, hs1⟩ := put_world hw1
      simp only [size_alloc]
      clear hw1
      have t1 := e1.get hb
      have m1 := e1.get k1
      have hfull : L.length = slots := by have := km.sz; omega
      refine x_range m1 ?_
      rw [show (now : Int) + 1 = ((now + 1 : Nat) : Int) by omega]
      generalize hw2 : World.alloc _ _ = w2
      have e2 : Ext w1 w2 := by rw [← hw2]; exact (Fr.refl _ w1).alloc _
      have i2 : w2.heap[w1.heap.size]? = some (.mapIter (some tb) ck #[] ck) := by rw [← hw2]; exact blk_alloc_new
      clear hw2
      unfold S90_l5
      refine ⟨fun v7 v10 w3 => ∃ (seen : Array Nat) (went : Bool) (old gp : Nat) (gc : Int), v7 = .bool went ∧ v10 = .int .u64 old ∧ w3.heap[w1.heap.size]? = some (.mapIter (some tb) ck seen ck) ∧ w3.heap[w.heap.size + 2]? = some (.cells #[.int .i64 gc, .int .u32 gp] 177 (0, 0)) ∧
          Fr (fun r => r = w.heap.size + 2 ∨ w1.heap.size ≤ r) w1 w3 ∧ (went = false → old = now + 1 ∧ ∀ y ∈ es.toList, y.born ∉ seen.toList) ∧
          (went = true → ∃ e ∈ L, gc = e.cell ∧ gp = e.page ∧ old = e.used ∧ ∀ y ∈ es.toList, y.born ∈ seen.toList → ∀ a ∈ L, y.key = tagV a.cell a.page → e.used ≤ a.used),
        fun _ _ w3 => match w3.heap[w1.heap.size]? with | some (.mapIter _ _ seen _) => unseen es seen | _ => 0,
        ⟨#[], false, now + 1, 0, 0, rfl, rfl, i2, e2.get f6, e2.mono fun _ _ h => h.elim, fun _ => ⟨rfl, by simp⟩, fun h => by cases h⟩, ?_⟩
      rintro _ _ w3 ⟨seen, went, old, gp, gc, rfl, rfl, q1, q2, q3, q4, q5⟩
      have t3 := q3.get (by rintro (h | h) <;> omega) t1
      have m3 := q3.get (by rintro (h | h) <;> omega) m1
      have f43 := q3.get (by rintro (h | h) <;> omega) f4
      have f53 := q3.get (by rintro (h | h) <;> omega) f5
      unfold S90_b5
      refine x_next q1 m3 k2.born (fun hall w4 hw4 => ?_) fun y hy hns w4 hw4 => ?_
      · have e4 : Ext w3 w4 := by
          rcases hw4 with rfl | rfl
          · exact Fr.refl _ _
          · exact Ext.drw_self _
        have t4 := e4.get t3
        have m4 := e4.get m3
        have g4 := e4.get q2
        with_reducible refine x_extract at_0 ?_; refine Cnd.no ?_
        cases went with
        | false =>
          obtain ⟨_, hn⟩ := q4 rfl
          exfalso
          have hpos : 0 < es.size := by have := km.sz; omega
          have hin : es[0] ∈ es.toList := by simp
          exact hn _ hin (hall _ hin)
        | true =>
          obtain ⟨e, he, rfl, rfl, rfl, hmin⟩ := q5 rfl
          obtain ⟨L0, hL0⟩ := last_min h.sorted he fun a ha => by
            obtain ⟨y, hy, hyk, _⟩ := km.back ha
            exact hmin y hy (hall y hy) a ha hyk
          unfold S90_j9
          with_reducible refine XQ.of rfl ?_; refine x_nil ?_; refine qstep ?_; refine XQ.of rfl ?_; refine x_field0 ?_; refine qstep ?_; refine XQ.of rfl ?_; refine x_load1 ‹_› at_1 ?_; refine qstep ?_; refine XQ.of rfl ?_; refine x_loadA ‹_› (sub_cons (sub_cons sub_nil)) ?_; refine qstep ?_
          refine x_deleteS (f := f) (show (drw w4).heap[tb]? = _ from m4) k2 two_mk fun es' m' hsz hsub => ?_
          have hm' : TlbM es' ck (del f (tagV e.cell e.page)) (rm L e.cell e.page) := km.del h.tags m' hsz
          have hrm : rm L e.cell e.page = L0 := by
            have htags := h.tags
            rw [hL0] at htags ⊢
            have h3 := (List.pairwise_append.1 htags).2.2
            rw [rm, List.filter_append]
            have h5 : List.filter (fun a => !a.is e.cell e.page) L0 = L0 := List.filter_eq_self.2 fun a ha => by
              have := h3 a ha e (by simp)
              rw [← is_iff] at this
              simpa using this
            rw [h5]
            simp [TE.is]
          rw [hrm] at hm'
          have hsubL : L0.Sublist L := by rw [hL0]; exact List.sublist_append_left _ _
          have hlen : L.length = L0.length + 1 := by rw [hL0]; simp
          have e6 : Fr (fun r => r = tb) w4 (setBlk (drw w4) tb (.map es' ck)) := Fr.set1 ((Fr.refl _ w4).drw)
          have htr : TlbR (setBlk (drw w4) tb (.map es' ck)) t tb slots now L0 := TlbR.of (e6.get hne t4) (blk_set_same (show tb < (drw w4).heap.size from lt_of_blk m4)) hm' (h.sorted.sublist hsubL) (h.tags.sublist hsubL) (fun a ha => h.le a (hsubL.subset ha)) ⟨by omega, hcap.2⟩
          have hrm2 : rm L0 c pg = L0 := rm_none fun a ha => hno a (hsubL.subset ha)
          refine put_j htr hnow (by rw [hrm2]; omega) (e6.get (by omega) (e4.get f43)) (e6.get (by omega) (e4.get f53)) (e6.get (by omega) g4) (by omega) (by omega) fun w' hx ht => ?_
          rw [hrm2] at ht
          refine h2 L0 e w' hL0 hno hfull ?_ ht
          have a1 : Fr (fun r => r = w.heap.size + 2 ∨ w1.heap.size ≤ r ∨ r = tb) w1 (setBlk (drw w4) tb (.map es' ck)) := ((q3.mono fun r _ hh => by rcases hh with hh | hh; exact .inl hh; exact .inr (.inl hh)).trans (Fr.of_ext e4)).trans' e6 fun r hr _ => .inr (.inr hr)
          have a2 : Fr (fun r => r = t ∨ r = tb) w (setBlk (drw w4) tb (.map es' ck)) := (Fr.of_ext e1).trans' a1 fun r hr hlt => by rcases hr with hr | hr | hr; omega; omega; exact .inr hr
          exact a2.trans' hx fun r hr hlt => by rcases hr with hr | hr | hr; exact .inl hr; exact .inr hr; omega
      · have e4 : Ext w3 w4 := by
          rcases hw4 with rfl | rfl
          · exact Fr.refl _ _
          · exact Ext.drw_self _
        have i4 := e4.get q1
        have lt3 := lt_of_blk q1
        have s13 := q3.size
        obtain ⟨a, ha, hk, hv⟩ := km.ent hy
        have hfind : es.find? (·.born == y.born) = some y := by
          have hnb := List.pairwise_iff_getElem.1 k2.nb
          rw [← Array.find?_toList]
          obtain ⟨j, hj⟩ := List.mem_iff_getElem?.1 hy
          obtain ⟨hjl, hje⟩ := List.getElem?_eq_some_iff.1 hj
          refine List.find?_eq_some_iff_getElem.2 ⟨by simp, j, hjl, hje, fun i hi => ?_⟩
          have := hnb i j (by simp at hjl ⊢; omega) (by simpa using hjl) hi
          simp only [List.getElem_map] at this
          rw [hje] at this
          simpa using this
        generalize hw5 : setBlk w4 _ _ = w5
        have e5 : Fr (fun r => r = w1.heap.size) w3 w5 := by rw [← hw5]; exact Fr.set1 (Fr.of_ext e4)
        have i5 : w5.heap[w1.heap.size]? = some (.mapIter (some tb) ck (seen.push y.born) ck) := by rw [← hw5]; exact blk_set_same (lt_of_blk i4)
        have m5 := e5.get (by omega) m3
        have t5 := e5.get (by omega) t3
        have g5 := e5.get (by omega) q2
        clear hw5
        rw [hk, hv]
        unfold tagV TE.v
        with_reducible refine x_extract at_0 ?_; refine Cnd.yes ?_
        refine x_entry i5 m5 hfind ?_
        rw [hk, hv]
        unfold tagV TE.v
        with_reducible refine x_extract at_0 ?_; refine x_extract at_1 ?_; refine x_alloc ?_; refine x_alloc ?_; refine x_storeA (by refine blk_alloc_old' ?_; exact blk_alloc_new) rfl (by simp [Value.oneCell']) (lay_cons (lay_cons lay_nil)) ?_; refine x_storeA (by refine blk_set_ne' ?_ (by exact Ne.symm (Nat.ne_of_lt lt_alloc_new)); exact blk_alloc_new) rfl (by simp [Value.oneCell']) (lay_cons (lay_cons (lay_cons lay_nil))) ?_; refine x_field0 ?_; refine x_load1 (by exact blk_set_same (by refine lt_set ?_; exact lt_alloc_new)) at_2 ?_
        generalize hw6 : setBlk (setBlk _ _ _) _ _ = w6
        obtain ⟨e6, k6, l6, s6⟩ := put_world2 hw6
        simp only [size_alloc]
        clear hw6
        have s35 : w3.heap.size ≤ w5.heap.size := e5.size
        have i6 := e6.get i5
        have g6 := e6.get g5
        have e36 : Fr (fun r => r = w.heap.size + 2 ∨ w1.heap.size ≤ r) w1 w6 := q3.trans' (e5.trans' (Fr.of_ext e6) fun r hr _ => hr) fun r hr hlt => .inr (by omega)
        have hmu : unseen es (seen.push y.born) < unseen es seen := unseen_push (List.Sublist.refl _) hy hns
        have hold : ∀ (e : TE), (∀ z ∈ es.toList, z.born ∈ seen.toList → ∀ b ∈ L, z.key = tagV b.cell b.page → e.used ≤ b.used) → e.used ≤ a.used →
            ∀ z ∈ es.toList, z.born ∈ (seen.push y.born).toList → ∀ b ∈ L, z.key = tagV b.cell b.page → e.used ≤ b.used := fun e hmin hle z hz hzs b hb hzk => by
          rw [Array.toList_push, List.mem_append] at hzs
          rcases hzs with hzs | hzs
          · exact hmin z hz hzs b hb hzk
          · have hzb : z.born = y.born := by simpa using hzs
            have hzy : z = y := by
              have hnb := List.pairwise_iff_getElem.1 k2.nb
              obtain ⟨i, hi⟩ := List.mem_iff_getElem?.1 hz
              obtain ⟨j, hj⟩ := List.mem_iff_getElem?.1 hy
              obtain ⟨hil, hie⟩ := List.getElem?_eq_some_iff.1 hi
              obtain ⟨hjl, hje⟩ := List.getElem?_eq_some_iff.1 hj
              rcases Nat.lt_trichotomy i j with hij | hij | hij
              · exact (hnb i j (by simpa using hil) (by simpa using hjl) hij (by simp only [List.getElem_map]; rw [hie, hje, hzb])).elim
              · subst hij; rw [← hie, ← hje]
              · exact (hnb j i (by simpa using hjl) (by simpa using hil) hij (by simp only [List.getElem_map]; rw [hie, hje, hzb])).elim
            subst hzy
            have h7 := km.has b hb
            rw [← hzk, hk, km.has a ha] at h7
            have h8 : a.v = b.v := Option.some.inj h7
            have : a.used = b.used := by
              simp [TE.v] at h8
              omega
            omega
        refine x_lss (fun hc => ?_) (fun hc => ?_)
        with_reducible refine Cnd.yes ?_; refine XQ.of rfl ?_; refine x_loadA ‹_› (sub_cons (sub_cons sub_nil)) ?_; refine qstep ?_; refine XQ.of rfl ?_; refine x_field0 ?_; refine qstep ?_; refine XQ.of rfl ?_; refine x_load1 ‹_› at_2 ?_; refine qstep ?_; refine x_storeA ‹_› rfl (by simp [Value.oneCell']) (lay_cons (lay_cons lay_nil)) ?_; refine And.intro ?_ ?_; refine XQ.of rfl ?_; refine x_load1 (by refine blk_set_ne' ?_ (by exact Ne.symm (Nat.ne_of_lt (by omega))); assumption) at_2 ?_; refine qstep ?_; exact rfl; refine And.intro ?_ ?_; refine XQ.of rfl ?_; refine x_field0 ?_; refine qstep ?_; exact rfl; refine And.intro ?_ ?_
        rotate_left
        rotate_left
        with_reducible refine Cnd.no ?_; refine And.intro ?_ ?_
        rotate_left
        rotate_left
        · have e7 : Fr (fun r => r = w.heap.size + 2) w6 (setBlk (drw w6) (w.heap.size + 2) (.cells #[.int .i64 a.cell, .int .u32 a.page] 177 (0, 0))) := Fr.set1 ((Fr.refl _ w6).drw)
          refine ⟨seen.push y.born, true, a.used, a.page, a.cell, rfl, rfl, e7.get (by omega) i6, blk_set_same (show _ < (drw w6).heap.size from lt_of_blk g6), e36.trans' e7 fun r hr _ => .inl hr, fun h => (by cases h), fun _ => ⟨a, ha, rfl, rfl, rfl, ?_⟩⟩
          refine hold a (fun z hz hzs b hb hzk => ?_) (Nat.le_refl _)
          cases went with
          | false => exact absurd hzs ((q4 rfl).2 z hz)
          | true =>
            obtain ⟨e, he, _, _, rfl, hmin⟩ := q5 rfl
            have := hmin z hz hzs b hb hzk
            omega
        · have e7 : Fr (fun r => r = w.heap.size + 2) w6 (setBlk (drw w6) (w.heap.size + 2) (.cells #[.int .i64 a.cell, .int .u32 a.page] 177 (0, 0))) := Fr.set1 ((Fr.refl _ w6).drw)
          have i7 := e7.get (by omega) i6
          simp only [i7, q1]
          exact hmu
        · cases went with
          | false =>
            have := (q4 rfl).1
            have := h.le a ha
            omega
          | true =>
            obtain ⟨e, he, g1, g2, g3, hmin⟩ := q5 rfl
            exact ⟨seen.push y.born, true, old, gp, gc, rfl, rfl, i6, g6, e36, fun h => (by cases h), fun _ => ⟨e, he, g1, g2, g3, hold e hmin (by omega)⟩⟩
        · simp only [i6, q1]
          exact hmu
    · generalize hw1 : drw (setBlk _ _ _) = w1
      obtain ⟨e1, f4, f5, f6, hs1⟩ := put_world hw1
      simp only [size_alloc]
      clear hw1
      have hsz := km.sz
      have hlt : L.length < slots := by omega
      exact put_j (h.frame e1 id id) hnow (by rw [rm_none hno]; exact hlt) f4 f5 f6 (by omega) (by omega) fun w' hx ht => h1 (.inr hlt) w' ((Fr.of_ext e1).trans' hx fun r hr hlt => by rcases hr with hr | hr | hr; exact .inl hr; exact .inr hr; omega) ht
end Go.Eng
namespace Go.Eng
open Go.Proofs Go.MapKept
variable {w : World} {K : Value → World → Prop} {E : List PanicEntry → World → Prop}
def db64 : List Nat := [0,1,56,2,57,49,28,3,61,58,42,50,38,29,17,4,62,47,59,36,45,43,51,22,53,39,33,30,24,18,12,5,63,55,48,27,60,41,37,16,46,35,44,21,52,32,23,11,54,26,40,15,34,20,31,10,25,14,19,9,13,8,7,6]
def Glob (w : World) : Prop := ∃ T fz, w.heap[1]? = some (.cells (db64.map fun (x : Nat) => Value.int .u8 (x : Nat)).toArray T fz)
theorem Glob.fr {w w' : World} {S : Nat → Prop} (h : Glob w) (hf : Fr S w w') (hs : ¬ S 1) : Glob w' := by
  obtain ⟨T, fz, h⟩ := h
  exact ⟨T, fz, hf.get hs h⟩
theorem tz_step {x y i v : Nat} (hg : Glob w) (hx : 0 < x) (hx2 : x < 2 ^ 63) (ha : x &&& (2 ^ 64 - x) = x) (hy : x * 285870213051353865 % 2 ^ 64 = y) (hi : y / 2 ^ 58 = i) (hv : db64[i]? = some v) (hv2 : v < 256) (h : K (.int .i64 v) w) : C P 109 #[.int .u64 x] w K E := by
  obtain ⟨T, fz, hg⟩ := hg
  apply F109
  unfold S109_0
  refine x_eql (fun hc => by omega) (fun hc => ?_)
  with_reducible refine Cnd.no ?_
  refine .run r_neg ?_
  have e1 : IntKind.u64.wrap (0 - (x : Int)) = ((2 ^ 64 - x : Nat) : Int) := by rw [wrap_u64]; omega
  rw [e1]
  refine x_and64 (b' := 2 ^ 64 - x) (by omega) rfl (by omega) ha ?_
  refine x_mul ?_
  have e2 : IntKind.u64.wrap ((x : Int) * 285870213051353865) = (y : Int) := by rw [wrap_u64]; omega
  rw [e2]
  refine x_shr (by decide) (by decide) ?_
  rw [show (58 : Int).toNat = 58 from rfl]
  have e3 : (y : Int) / 2 ^ 58 = (i : Int) := by omega
  rw [e3]
  have hi64 : i < 64 := by
    have := (List.getElem?_eq_some_iff.1 hv).1
    simpa [db64] using this
  refine x_idxA (by omega) ?_
  refine x_load1 (v := .int .u8 (v : Nat)) hg (by rw [List.getElem?_toArray, show 0 + (i : Int).toNat * 1 = i by omega, List.getElem?_map, hv]; rfl) ?_
  with_reducible refine x_convN (by rw [IntKind.wrap_i64]; omega) ?_
  exact h
theorem tz_c {k : Nat} (hk : k ≤ 8) (hg : Glob w) (h : K (.int .i64 k) w) : C P 102 #[.int .u64 (2 ^ k : Nat)] w K E := by
  apply F102
  unfold S102_0
  with_reducible refine Cnd.no ?_
  refine x_callF ?_
  have : k = 0 ∨ k = 1 ∨ k = 2 ∨ k = 3 ∨ k = 4 ∨ k = 5 ∨ k = 6 ∨ k = 7 ∨ k = 8 := by omega
  rcases this with rfl | rfl | rfl | rfl | rfl | rfl | rfl | rfl | rfl <;>
    exact tz_step hg (by decide) (by decide) (by decide) rfl rfl rfl (by decide) h
end Go.Eng
namespace Go.Eng
open Go.Proofs Go.MapKept
variable {w : World} {K : Value → World → Prop} {E : List PanicEntry → World → Prop}
theorem x_shrN {P : Program} {w : World} {ty t : TypeId} {cx cy : Bool} {K : Value → World → Prop} {E : List PanicEntry → World → Prop} {k k' : IntKind} {a s : Nat} (h1 : s ≤ k.bits) (h : K (.int k (a / 2 ^ s : Nat)) w) : X P (.bin .shr t cx cy (.int k (a : Nat)) (.int k' (s : Nat))) ty w K E := by
  refine x_shr (by omega) (by omega) ?_
  rw [Int.toNat_natCast]
  have e : (a : Int) / 2 ^ s = ((a / 2 ^ s : Nat) : Int) := by push_cast; rfl
  rw [e]
  exact h
theorem cplace_c {la lb ways addr : Nat} (ha : la ≤ 8) (hb : lb ≤ 8) (hg : Glob w) (hw1 : 1 < w.heap.size) (hv : addr < 4294967296)
   (h : ∀ w', Ext w w' → K (.tuple #[.int .i64 (addr / 2 ^ lb % 2 ^ la : Nat), .int .u32 (addr / 2 ^ lb / 2 ^ la : Nat)]) w') :
   C P 91 #[.agg #[.int .i64 (2 ^ la : Nat), .int .i64 ways, .int .i64 (2 ^ lb : Nat)], .int .u32 addr] w K E := by
  have pa : 0 < 2 ^ la := Nat.two_pow_pos la
  have pb : 0 < 2 ^ lb := Nat.two_pow_pos lb
  have la' : 2 ^ la ≤ 2 ^ 8 := Nat.pow_le_pow_right (by omega) ha
  have lb' : 2 ^ lb ≤ 2 ^ 8 := Nat.pow_le_pow_right (by omega) hb
  have hdiv : addr / 2 ^ lb ≤ addr := Nat.div_le_self _ _
  generalize hA : 2 ^ la = A at *
  generalize hB : 2 ^ lb = B at *
  generalize hq : addr / B = q at *
  have hqA : q % A < A := Nat.mod_lt _ pa
  have hqA2 : q / A ≤ q := Nat.div_le_self _ _
  apply F91
  unfold S91_0
  with_reducible refine x_boxA ?_; refine x_field0 ?_; refine x_load1 blk_alloc_new at_2 ?_; refine x_convN (by rw [wrap_u64]; omega) ?_
  generalize hw2 : World.alloc _ _ = w2
  have e2 : Ext w w2 := by rw [← hw2]; exact (Fr.refl _ w).alloc _
  have b2 : w2.heap[w.heap.size]? = some (.cells #[.int .i64 A, .int .i64 ways, .int .i64 B] 28 (0, 0)) := by rw [← hw2]; exact blk_alloc_new
  have g2 := hg.fr e2 id
  clear hw2
  have c1 := tz_c (K := fun v w_5 => X P (Cop.bin BinOp.shr 38 false false (Value.int IntKind.u32 addr) v) 38 w_5 (fun t12 w_6 =>
          XQ P (Cop.conv 38 3 t12) 3 (drw w_6) fun t14 =>
            XQ P (Cop.fieldAddr 28 (ptr w.heap.size) 0) 0 (drw w_6) fun t15 =>
              XQ P (Cop.load 3 t15) 3 (drw w_6) fun t16 =>
                XQ P (Cop.bin BinOp.sub 3 false true t16 (Value.int IntKind.i64 1)) 3 (drw w_6) fun t17 =>
                  XQ P (Cop.bin BinOp.and 3 false false t14 t17) 3 (drw w_6) fun t18 =>
                    XQ P (Cop.fieldAddr 28 (ptr w.heap.size) 0) 0 (drw w_6)
                      fun t20 =>
                      XQ P (Cop.load 3 t20) 3 (drw w_6) fun t21 =>
                        XQ P (Cop.conv 3 93 t21) 93 (drw w_6) fun t22 =>
                          X P (Cop.callF 102 #[t22]) 3 (drw w_6)
                            (fun t23 w_7 =>
                              (XQ P (Cop.bin BinOp.and 3 false false t14 t17) 3 w_7 fun v => v = t18) ∧
                                (XQ P (Cop.bin BinOp.sub 3 false true t16 (Value.int IntKind.i64 1)) 3 w_7 fun v =>
                                    v = t17) ∧
                                  (XQ P (Cop.load 3 t15) 3 w_7 fun v => v = t16) ∧
                                    (XQ P (Cop.fieldAddr 28 (ptr w.heap.size) 0)
                                        0 w_7 fun v => v = t15) ∧
                                      (XQ P (Cop.conv 38 3 t12) 3 w_7 fun v => v = t14) ∧
                                        XQ P (Cop.bin BinOp.shr 38 false false t12 t23) 38 w_7 fun t24 =>
                                          K (Value.tuple #[t18, t24]) w_7) E) E) (E := E) hb g2
  rw [hB] at c1
  refine x_callF (c1 ?_)
  refine x_shrN (s := lb) (by simp only [IntKind.bits]; omega) ?_
  rw [hB, hq]
  have hand : ∀ (w : World) (K : Value → World → Prop) (E : List PanicEntry → World → Prop), K (.int .i64 (q % A : Nat)) w → X P (.bin .and 3 false false (.int .i64 (q : Nat)) (.int .i64 ((A : Int) - 1))) 3 w K E := fun w K E hk =>
    x_andI (b' := A - 1) (by omega) (by omega) (by omega) (by rw [← hA]; exact mask) hk
  with_reducible refine XQ.of rfl ?_; refine x_convN (by rw [IntKind.wrap_i64]; omega) ?_; refine qstep ?_; refine XQ.of rfl ?_; refine x_field0 ?_; refine qstep ?_; refine XQ.of rfl ?_; refine x_load1 ‹_› at_0 ?_; refine qstep ?_; refine XQ.of rfl ?_; refine x_subN (by rw [IntKind.wrap_i64]; omega) ?_; refine qstep ?_; refine XQ.of rfl ?_
  refine hand _ _ _ ?_
  refine qstep ?_
  with_reducible refine XQ.of rfl ?_; refine x_field0 ?_; refine qstep ?_; refine XQ.of rfl ?_; refine x_load1 ‹_› at_0 ?_; refine qstep ?_; refine XQ.of rfl ?_; refine x_convN (by rw [wrap_u64]; omega) ?_; refine qstep ?_
  have c2 := tz_c (K := fun t23 w_7 =>
                              (XQ P (Cop.bin BinOp.and 3 false false (.int .i64 (q : Nat)) (.int .i64 ((A : Int) - 1))) 3 w_7 fun v => v = (.int .i64 (q % A : Nat))) ∧
                                (XQ P (Cop.bin BinOp.sub 3 false true (.int .i64 A) (Value.int IntKind.i64 1)) 3 w_7 fun v =>
                                    v = (.int .i64 ((A : Int) - 1))) ∧
                                  (XQ P (Cop.load 3 (ptr w.heap.size)) 3 w_7 fun v => v = (.int .i64 A)) ∧
                                    (XQ P (Cop.fieldAddr 28 (ptr w.heap.size) 0)
                                        0 w_7 fun v => v = ptr w.heap.size) ∧
                                      (XQ P (Cop.conv 38 3 (.int .u32 (q : Nat))) 3 w_7 fun v => v = (.int .i64 (q : Nat))) ∧
                                        XQ P (Cop.bin BinOp.shr 38 false false (.int .u32 (q : Nat)) t23) 38 w_7 fun t24 =>
                                          K (Value.tuple #[(.int .i64 (q % A : Nat)), t24]) w_7) (E := E) ha (w := drw w2) (by exact g2.fr (Ext.drw_self w2) id)
  rw [hA] at c2
  refine x_callF (c2 ?_)
  refine ⟨XQ.of rfl (by refine hand _ _ _ ?_; exact qstep rfl), ?_⟩
  with_reducible refine And.intro ?_ ?_; refine XQ.of rfl ?_; refine x_subN (by rw [IntKind.wrap_i64]; omega) ?_; refine qstep ?_; exact rfl; refine And.intro ?_ ?_; refine XQ.of rfl ?_; refine x_load1 ‹_› at_0 ?_; refine qstep ?_; exact rfl; refine And.intro ?_ ?_; refine XQ.of rfl ?_; refine x_field0 ?_; refine qstep ?_; exact rfl; refine And.intro ?_ ?_; refine XQ.of rfl ?_; refine x_convN (by rw [IntKind.wrap_i64]; omega) ?_; refine qstep ?_; exact rfl; refine XQ.of rfl ?_
  refine x_shrN (s := la) (by simp only [IntKind.bits]; omega) ?_
  rw [hA]
  exact qstep (h _ (e2.trans (Ext.drw_self w2)))
end Go.Eng
namespace Go.Eng
open Go.Proofs Go.MapKept
variable {w : World} {K : Value → World → Prop} {E : List PanicEntry → World → Prop}
theorem power_c {k a b : Nat} (h1 : a ≤ 2 ^ k) (h2 : 2 ^ k ≤ b) (hb : b ≤ 1000000) (h : K (.bool true) w) : C P 94 #[.int .i64 (2 ^ k : Nat), .int .i64 a, .int .i64 b] w K E := by
  have pk : 0 < 2 ^ k := Nat.two_pow_pos k
  have hm : 2 ^ k &&& (2 ^ k - 1) = 0 := by rw [mask, Nat.mod_self]
  generalize 2 ^ k = A at *
  apply F94
  unfold S94_0
  refine x_geq (fun hc => ?_) (fun hc => by omega)
  with_reducible refine XG.yes ?_; refine x_val ?_; refine XG.yes ?_; refine x_val ?_; refine XG.yes ?_
  refine x_leq (fun hc => ?_) (fun hc => by omega)
  with_reducible refine x_pickT ?_; refine XG.yes ?_; refine x_val ?_; refine XG.yes ?_; refine x_val ?_; refine XG.yes ?_; refine x_subN (by rw [IntKind.wrap_i64]; omega) ?_; refine XG.yes ?_
  refine x_andI (b' := A - 1) (by omega) (by omega) (by omega) hm ?_
  with_reducible refine XG.yes ?_
  refine x_eql (fun hc => ?_) (fun hc => by omega)
  with_reducible refine x_pickT ?_
  exact h
theorem may_c {la lb ways : Nat} (ha : la ≤ 8) (hb : 4 ≤ lb ∧ lb ≤ 8) (hw : 1 ≤ ways ∧ ways ≤ 8) (h : ∀ w', Ext w w' → K (.bool true) w') :
   C P 73 #[.agg #[.int .i64 (2 ^ la : Nat), .int .i64 ways, .int .i64 (2 ^ lb : Nat)]] w K E := by
  have la' : 2 ^ la ≤ 2 ^ 8 := Nat.pow_le_pow_right (by omega) ha
  have lb' : 2 ^ lb ≤ 2 ^ 8 := Nat.pow_le_pow_right (by omega) hb.2
  have lb4 : 2 ^ 4 ≤ 2 ^ lb := Nat.pow_le_pow_right (by omega) hb.1
  have pa : 0 < 2 ^ la := Nat.two_pow_pos la
  apply F73
  unfold S73_0
  with_reducible refine x_boxA ?_; refine x_field0 ?_; refine x_load1 blk_alloc_new at_0 ?_
  refine x_callF (power_c (k := la) (a := 1) (b := 256) (by omega) (by omega) (by omega) ?_)
  with_reducible refine XG.yes ?_; refine x_field0 ?_; refine XG.yes ?_; refine x_load1 blk_alloc_new at_1 ?_; refine XG.yes ?_
  refine x_geq (fun hc => ?_) (fun hc => by omega)
  with_reducible refine x_pickT ?_; refine XG.yes ?_; refine x_field0 ?_; refine XG.yes ?_; refine x_load1 blk_alloc_new at_1 ?_; refine XG.yes ?_
  refine x_leq (fun hc => ?_) (fun hc => by omega)
  with_reducible refine x_pickT ?_; refine XG.yes ?_; refine x_field0 ?_; refine XG.yes ?_; refine x_load1 blk_alloc_new at_2 ?_; refine XG.yes ?_
  refine x_callF (power_c (k := lb) (a := 16) (b := 256) (by omega) (by omega) (by omega) ?_)
  with_reducible refine x_pickT ?_
  exact h _ ((Fr.refl _ w).alloc _)
end Go.Eng
namespace Go.Eng
open Go.Proofs Go.MapKept
variable {w : World} {K : Value → World → Prop} {E : List PanicEntry → World → Prop}
def lineV (l : Nat × Bool) : List Value := [.int .u32 (l.1 : Nat), .bool l.2]
def linesV (l : List (Nat × Bool)) : List Value := l.flatMap lineV
theorem linesV_len {l : List (Nat × Bool)} : (linesV l).length = 2 * l.length := by
  induction l with
  | nil => rfl
  | cons a l ih => simp only [linesV, List.flatMap_cons, List.length_append, List.length_cons] at ih ⊢; rw [ih]; simp [lineV]; omega
theorem linesV_one {l : List (Nat × Bool)} : ∀ v ∈ linesV l, v.oneCell' = true := by
  intro v hv
  simp only [linesV, List.mem_flatMap, lineV] at hv
  obtain ⟨a, _, hv⟩ := hv
  rcases List.mem_cons.1 hv with rfl | hv
  · rfl
  · rcases List.mem_cons.1 hv with rfl | hv
    · rfl
    · cases hv
theorem linesV_take {l : List (Nat × Bool)} {n : Nat} : (linesV l).take (2 * n) = linesV (l.take n) := by
  induction l generalizing n with
  | nil => simp [linesV]
  | cons a l ih =>
    cases n with
    | zero => simp [linesV]
    | succ n =>
      have := ih (n := n)
      simp only [linesV, List.flatMap_cons, lineV, List.take_succ_cons] at this ⊢
      rw [show 2 * (n + 1) = 2 * n + 1 + 1 by omega]
      simp only [List.cons_append, List.nil_append, List.take_succ_cons]
      rw [this]
theorem linesV_drop {l : List (Nat × Bool)} {n : Nat} : (linesV l).drop (2 * n) = linesV (l.drop n) := by
  induction l generalizing n with
  | nil => simp [linesV]
  | cons a l ih =>
    cases n with
    | zero => simp [linesV]
    | succ n =>
      have := ih (n := n)
      simp only [linesV, List.flatMap_cons, lineV, List.drop_succ_cons] at this ⊢
      rw [show 2 * (n + 1) = 2 * n + 1 + 1 by omega]
      simp only [List.cons_append, List.nil_append, List.drop_succ_cons]
      exact this
structure SetR (c : Array Value) (o : Nat) (full : List (Nat × Bool)) (many : Nat) : Prop where
  len : full.length = 8
  le : many ≤ 8
  fits : o + 17 ≤ c.size
  part : (c.toList.drop o).take 17 = linesV full ++ [.int .i64 (many : Nat)]
end Go.Eng
namespace Go.Eng
open Go.Proofs Go.MapKept
variable {w : World} {K : Value → World → Prop} {E : List PanicEntry → World → Prop}
theorem part_lay {c : Array Value} {o k : Nat} {xs S : List Value} (hS : (c.toList.drop o).take 17 = S) (hf : o + 17 ≤ c.size) (hk : k + xs.length ≤ 17) :
    ((lay c (o + k) xs).toList.drop o).take 17 = S.take k ++ xs ++ S.drop (k + xs.length) := by
  have hl : (lay c (o + k) xs).size = c.size := lay_size (by omega)
  have hSl : S.length = 17 := by rw [← hS]; simp; omega
  apply List.ext_getElem?
  intro i
  by_cases hi : i < 17
  · rw [List.getElem?_take, if_pos hi, List.getElem?_drop, Array.getElem?_toList]
    have hSi : S[i]? = c[o + i]? := by rw [← hS, List.getElem?_take, if_pos hi, List.getElem?_drop, Array.getElem?_toList]
    by_cases h1 : i < k
    · rw [lay_out (by omega) (by omega), List.append_assoc, List.getElem?_append_left (by simp; omega), List.getElem?_take, if_pos h1, hSi]
    · by_cases h2 : i < k + xs.length
      · rw [show o + i = o + k + (i - k) by omega, lay_in (by omega) (by omega), List.append_assoc, List.getElem?_append_right (by simp; omega), List.length_take, Nat.min_eq_left (by omega), List.getElem?_append_left (by omega)]
      · rw [lay_out (by omega) (by omega), List.append_assoc, List.getElem?_append_right (by simp; omega), List.length_take, Nat.min_eq_left (by omega), List.getElem?_append_right (by omega), List.getElem?_drop, show k + xs.length + (i - k - xs.length) = i by omega, hSi]
  · rw [List.getElem?_eq_none (by simp; omega), List.getElem?_eq_none (by simp; omega)]
theorem front_c {cb o n many t : Nat} {d : Bool} {c : Array Value} {T : TypeId} {full : List (Nat × Bool)} (hb : w.heap[cb]? = some (.cells c T (0, 0))) (hs : SetR c o full many) (hn : n ≤ 7)
   (hK : ∀ w' c', Fr (fun r => r = cb) w w' → w'.heap[cb]? = some (.cells c' T (0, 0)) → c'.size = c.size → (∀ i, i < o ∨ o + 17 ≤ i → c'[i]? = c[i]?) → SetR c' o ((t, d) :: (full.take n ++ full.drop (n + 1))) many → K (.tuple #[]) w') :
   C P 93 #[.pointer (some ⟨cb, o, none⟩), .int .i64 n, .agg #[.int .u32 t, .bool d]] w K E := by
  have hlt := lt_of_blk hb
  have hlen := hs.len
  have hfit := hs.fits
  apply F93
  unfold S93_0
  with_reducible refine x_boxA ?_; refine XQ.of rfl ?_; refine x_nil ?_; refine qstep ?_; refine XQ.of rfl ?_; refine x_field ?_; refine qstep ?_; refine XQ.of rfl ?_; refine x_addN (by rw [IntKind.wrap_i64]; omega) ?_; refine qstep ?_; refine XQ.of rfl ?_
  rw [show (n : Int) + 1 = ((n + 1 : Nat) : Int) by omega]
  refine x_slA (l := 1) (h := n + 1) (by omega) (by omega) (by omega) ?_
  with_reducible refine qstep ?_; refine XQ.of rfl ?_; refine x_nil ?_; refine qstep ?_; refine XQ.of rfl ?_; refine x_field ?_; refine qstep ?_; refine XQ.of rfl ?_
  refine x_sliceAh (by omega) (by omega) ?_
  with_reducible refine qstep ?_
  rw [Int.toNat_natCast]
  generalize hw1 : drw (World.alloc _ _) = w1
  have e1 : Ext w w1 := by rw [← hw1]; exact ((Fr.refl _ w).alloc _).drw
  have hb1 := e1.get hb
  have hv1 : w1.heap[w.heap.size]? = some (.cells #[.int .u32 t, .bool d] 147 (0, 0)) := by rw [← hw1]; exact blk_alloc_new
  clear hw1
  have hxs : ((c.toList.drop o).take (2 * n)) = linesV (full.take n) := by
    have h1 := congrArg (List.take (2 * n)) hs.part
    rw [List.take_take, Nat.min_eq_left (by omega), List.take_append_of_le_length (by rw [linesV_len]; omega), linesV_take] at h1
    exact h1
  have hl1 : (linesV (full.take n)).length = 2 * n := by rw [linesV_len, List.length_take]; omega
  refine x_copy (xs := linesV (full.take n)) hb1 (by rw [hl1]; show _ = min n (n + 1 - 1) * 2; omega) ?_ (by rw [hl1]; omega) linesV_one ?_
  · have := holds_blk (w := w1) (o := o + 0) (n := 2 * n) hb1 (by omega)
    rw [show o + 0 = o from rfl, hxs] at this
    exact this
  · generalize hc1 : lay c _ _ = c1
    have hsz1 : c1.size = c.size := by rw [← hc1]; exact lay_size (by rw [hl1]; omega)
    generalize hw2 : setBlk _ _ _ = w2
    have e2 : Fr (fun r => r = cb) w1 w2 := by rw [← hw2]; exact Fr.set1 (Fr.refl _ _)
    have hb2 : w2.heap[cb]? = some (.cells c1 T (0, 0)) := by rw [← hw2]; exact blk_set_same (lt_of_blk hb1)
    have hv2 := e2.get (by omega) hv1
    clear hw2
    with_reducible refine XQ.of rfl ?_; refine x_loadA ‹_› (sub_cons (sub_cons sub_nil)) ?_; refine qstep ?_; refine XQ.of rfl ?_; refine x_nil ?_; refine qstep ?_; refine XQ.of rfl ?_; refine x_field ?_; refine qstep ?_; refine XQ.of rfl ?_
    refine x_idxA (by omega) ?_
    with_reducible refine qstep ?_
    refine x_storeA (show (drw w2).heap[cb]? = _ from hb2) rfl (by simp [Value.oneCell']) (lay_any (by show o + 0 + (0 : Int).toNat * 2 + 2 ≤ c1.size; omega)) ?_
    have p0 := part_lay (k := 2) (xs := linesV (full.take n)) hs.part hfit (by rw [hl1]; omega)
    have hc1' : lay c (o + 2) (linesV (full.take n)) = c1 := by rw [← hc1]
    rw [hc1'] at p0
    have p1 := part_lay (k := 0) (xs := [.int .u32 t, .bool d]) p0 (by omega) (by simp)
    refine hK _ _ ((Fr.of_ext e1).trans (e2.trans (Fr.set1 ((Fr.refl _ w2).drw)))) (blk_set_same (show cb < (drw w2).heap.size from lt_of_blk hb2)) ?_ ?_ ?_
    · rw [lay_size (by simp; omega), hsz1]
    · intro i hi
      rw [lay_out (by simp; omega) (by simp; omega), ← hc1', lay_out (by rw [hl1]; omega) (by rw [hl1]; omega)]
    · refine ⟨by simp; omega, hs.le, by rw [lay_size (by simp; omega), hsz1]; exact hfit, ?_⟩
      refine Eq.trans p1 ?_
      have hS2 : ((linesV full ++ [Value.int .i64 (many : Nat)]).take 2 ++ linesV (full.take n) ++ (linesV full ++ [Value.int .i64 (many : Nat)]).drop (2 + (linesV (full.take n)).length)).drop (0 + [Value.int .u32 (t : Nat), Value.bool d].length) = linesV (full.take n) ++ (linesV (full.drop (n + 1)) ++ [Value.int .i64 (many : Nat)]) := by
        rw [hl1, show 2 + 2 * n = 2 * (n + 1) by omega, List.drop_append_of_le_length (l₁ := linesV full) (by rw [linesV_len]; omega), linesV_drop, List.append_assoc]
        rw [List.drop_append, List.drop_of_length_le (by simp [linesV_len]; omega), List.nil_append]
        simp [linesV_len, hlen]
      rw [hS2]
      simp [linesV, lineV]
end Go.Eng
