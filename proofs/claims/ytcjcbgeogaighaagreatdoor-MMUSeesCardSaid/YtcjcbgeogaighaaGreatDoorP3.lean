/- A part (3 of 6) of the proof that the law of MMUSees answers true for every input and that each argument reads afterwards as before. Conditions: those of the card alone (the two tables of math/bits read as the program text lays them). -/
import Derived.Test.YtcjcbgeogaighaaGreatDoorP2
set_option linter.all false
namespace Go.Eng
open Go.Proofs
variable {r : Option Nat} {Q : Qx} (a : Act) (w : World)
set_option maxRecDepth 100000
def S41_0 (v0 : Value) (w : World) (R : K1) (E : Ev) : Prop :=
  X P (.bin .lss 3 false true v0 (.int .i64 1)) 4 w (fun t5 w1 =>
  XG (some t5) false P (.val v0) 3 w1 (fun t7 w2 =>
  XG (some t5) false P (.bin .gtr 3 false true t7 (.int .i64 4096)) 4 w2 (fun t8 w3 =>
  X P (.pick t5 (.bool true) t8) 4 w3 (fun t9 w4 =>
  Cnd t9 (
  R (Value.tuple #[(.pointer none), (.int .i64 20)]) w4) (
  X P (.makeMap 155 none) 155 w4 (fun t11 w5 =>
  X P (.build 157 #[(0, v0), (1, t11)]) 157 w5 (fun t12 w6 =>
  X P (.box 157 t12) 41 w6 (fun t13 w7 =>
  R (Value.tuple #[t13, (.int .i64 0)]) w7) E) E) E)) E) E) E) E
noncomputable def C41_0 : Code := bodyOf Tryz.f41
theorem K41_0 (g : Env) (w : World) (R : K1) (E : Ev) :
  vcF P Z0 Z0 C41_0 (QC (fun _ _ => False) (fun a w => resQ P Tryz.f41.results a w R) Y0 E) g w = S41_0 (g 0) w R E := by kernel_rfl
theorem T41_0 (hs : a.tmps.size = 14) (R : K1) (E : Ev) (hR : ∀ a' w', Ag (wr C41_0) a a' → resQ P Tryz.f41.results (gt a') w' R → Q .ret a' w') (hE : HE Q E)
  (h : S41_0 (gt a 0) w R E) : C41_0.wpIn (Fw r) 0 P (Qs (wr C41_0) a Q) a w :=
  piece' (HJ := Z0) (HL := Z0) hmix hs (by decide +kernel) (fun _ _ => False) (fun a w => resQ P Tryz.f41.results a w R) Y0 E (fun _ _ _ h => h.elim) hR
  (fun _ _ _ _ h => h.elim) hE
  trivial (Eq.mpr (K41_0 (gt a) w R E) h)
theorem F41 (a0 : Value) (w : World) (R : K1) (E : Ev) (h : S41_0 a0 w R E) : C P 41 #[a0] w R E := by
  have e : S41_0 (gt (A0 Tryz.f41.ntmps #[a0]) 0) w R E = S41_0 a0 w R E := by kernel_rfl
  have t := T41_0 (r := none) (Q := QF P Tryz.f41 R E) (A0 Tryz.f41.ntmps #[a0]) w (by kernel_rfl) R E (fun _ _ _ h => h) (fun _ _ _ h => h) (Eq.mpr e h)
  exact C_of (c := C41_0) Tryz.func41 (by kernel_rfl) t
def S42_0 (v0 : Value) (w : World) (R : K1) (E : Ev) : Prop :=
  X P (.box 28 v0) 0 w (fun t1 w1 =>
  X P (.load 28 t1) 28 w1 (fun t4 w2 =>
  X P (.callF 73 #[t4]) 4 w2 (fun t5 w3 =>
  X P (.un .not t5) 4 w3 (fun t6 w4 =>
  Cnd t6 (
  R (Value.tuple #[(.pointer none), (.int .i64 30)]) w4) (
  X P (.load 28 t1) 28 w4 (fun t7 w5 =>
  X P (.build 153 #[(0, t7)]) 153 w5 (fun t8 w6 =>
  X P (.box 153 t8) 42 w6 (fun t9 w7 =>
  R (Value.tuple #[t9, (.int .i64 0)]) w7) E) E) E)) E) E) E) E
noncomputable def C42_0 : Code := bodyOf Tryz.f42
theorem K42_0 (g : Env) (w : World) (R : K1) (E : Ev) :
  vcF P Z0 Z0 C42_0 (QC (fun _ _ => False) (fun a w => resQ P Tryz.f42.results a w R) Y0 E) g w = S42_0 (g 0) w R E := by kernel_rfl
theorem T42_0 (hs : a.tmps.size = 10) (R : K1) (E : Ev) (hR : ∀ a' w', Ag (wr C42_0) a a' → resQ P Tryz.f42.results (gt a') w' R → Q .ret a' w') (hE : HE Q E)
  (h : S42_0 (gt a 0) w R E) : C42_0.wpIn (Fw r) 0 P (Qs (wr C42_0) a Q) a w :=
  piece' (HJ := Z0) (HL := Z0) hmix hs (by decide +kernel) (fun _ _ => False) (fun a w => resQ P Tryz.f42.results a w R) Y0 E (fun _ _ _ h => h.elim) hR
  (fun _ _ _ _ h => h.elim) hE
  trivial (Eq.mpr (K42_0 (gt a) w R E) h)
theorem F42 (a0 : Value) (w : World) (R : K1) (E : Ev) (h : S42_0 a0 w R E) : C P 42 #[a0] w R E := by
  have e : S42_0 (gt (A0 Tryz.f42.ntmps #[a0]) 0) w R E = S42_0 a0 w R E := by kernel_rfl
  have t := T42_0 (r := none) (Q := QF P Tryz.f42 R E) (A0 Tryz.f42.ntmps #[a0]) w (by kernel_rfl) R E (fun _ _ _ h => h) (fun _ _ _ h => h) (Eq.mpr e h)
  exact C_of (c := C42_0) Tryz.func42 (by kernel_rfl) t
def S43_0 (v0 : Value) (w : World) (R : K1) (E : Ev) : Prop :=
  X P (.bin .lss 3 false true v0 (.int .i64 1)) 4 w (fun t5 w1 =>
  XG (some t5) false P (.val v0) 3 w1 (fun t7 w2 =>
  XG (some t5) false P (.bin .gtr 3 false true t7 (.int .i64 64)) 4 w2 (fun t8 w3 =>
  X P (.pick t5 (.bool true) t8) 4 w3 (fun t9 w4 =>
  Cnd t9 (
  R (Value.tuple #[(.pointer none), (.int .i64 50)]) w4) (
  X P (.makeMap 139 none) 139 w4 (fun t11 w5 =>
  X P (.build 142 #[(0, v0), (1, t11)]) 142 w5 (fun t12 w6 =>
  X P (.box 142 t12) 43 w6 (fun t13 w7 =>
  R (Value.tuple #[t13, (.int .i64 0)]) w7) E) E) E)) E) E) E) E
noncomputable def C43_0 : Code := bodyOf Tryz.f43
theorem K43_0 (g : Env) (w : World) (R : K1) (E : Ev) :
  vcF P Z0 Z0 C43_0 (QC (fun _ _ => False) (fun a w => resQ P Tryz.f43.results a w R) Y0 E) g w = S43_0 (g 0) w R E := by kernel_rfl
theorem T43_0 (hs : a.tmps.size = 14) (R : K1) (E : Ev) (hR : ∀ a' w', Ag (wr C43_0) a a' → resQ P Tryz.f43.results (gt a') w' R → Q .ret a' w') (hE : HE Q E)
  (h : S43_0 (gt a 0) w R E) : C43_0.wpIn (Fw r) 0 P (Qs (wr C43_0) a Q) a w :=
  piece' (HJ := Z0) (HL := Z0) hmix hs (by decide +kernel) (fun _ _ => False) (fun a w => resQ P Tryz.f43.results a w R) Y0 E (fun _ _ _ h => h.elim) hR
  (fun _ _ _ _ h => h.elim) hE
  trivial (Eq.mpr (K43_0 (gt a) w R E) h)
theorem F43 (a0 : Value) (w : World) (R : K1) (E : Ev) (h : S43_0 a0 w R E) : C P 43 #[a0] w R E := by
  have e : S43_0 (gt (A0 Tryz.f43.ntmps #[a0]) 0) w R E = S43_0 a0 w R E := by kernel_rfl
  have t := T43_0 (r := none) (Q := QF P Tryz.f43 R E) (A0 Tryz.f43.ntmps #[a0]) w (by kernel_rfl) R E (fun _ _ _ h => h) (fun _ _ _ h => h) (Eq.mpr e h)
  exact C_of (c := C43_0) Tryz.func43 (by kernel_rfl) t
def S44_0 (v0 v1 v2 : Value) (w : World) (R : K1) (E : Ev) : Prop :=
  X P (.bin .eql 41 false true v0 (.pointer none)) 4 w (fun t9 w1 =>
  XG (some t9) false P (.val v1) 42 w1 (fun t11 w2 =>
  XG (some t9) false P (.bin .eql 42 false true t11 (.pointer none)) 4 w2 (fun t12 w3 =>
  X P (.pick t9 (.bool true) t12) 4 w3 (fun t13 w4 =>
  XG (some t13) false P (.val v2) 43 w4 (fun t15 w5 =>
  XG (some t13) false P (.bin .eql 43 false true t15 (.pointer none)) 4 w5 (fun t16 w6 =>
  X P (.pick t13 (.bool true) t16) 4 w6 (fun t17 w7 =>
  Cnd t17 (
  R (Value.tuple #[(.pointer none), (.int .i64 80)]) w7) (
  X P (.makeMap 83 none) 83 w7 (fun t21 w8 =>
  X P (.build 85 #[(0, v0), (1, v1), (2, v2), (3, t21)]) 85 w8 (fun t22 w9 =>
  X P (.box 85 t22) 44 w9 (fun t23 w10 =>
  R (Value.tuple #[t23, (.int .i64 0)]) w10) E) E) E)) E) E) E) E) E) E) E
noncomputable def C44_0 : Code := bodyOf Tryz.f44
theorem K44_0 (g : Env) (w : World) (R : K1) (E : Ev) :
  vcF P Z0 Z0 C44_0 (QC (fun _ _ => False) (fun a w => resQ P Tryz.f44.results a w R) Y0 E) g w = S44_0 (g 0) (g 1) (g 2) w R E := by kernel_rfl
theorem T44_0 (hs : a.tmps.size = 24) (R : K1) (E : Ev) (hR : ∀ a' w', Ag (wr C44_0) a a' → resQ P Tryz.f44.results (gt a') w' R → Q .ret a' w') (hE : HE Q E)
  (h : S44_0 (gt a 0) (gt a 1) (gt a 2) w R E) : C44_0.wpIn (Fw r) 0 P (Qs (wr C44_0) a Q) a w :=
  piece' (HJ := Z0) (HL := Z0) hmix hs (by decide +kernel) (fun _ _ => False) (fun a w => resQ P Tryz.f44.results a w R) Y0 E (fun _ _ _ h => h.elim) hR
  (fun _ _ _ _ h => h.elim) hE
  trivial (Eq.mpr (K44_0 (gt a) w R E) h)
theorem F44 (a0 a1 a2 : Value) (w : World) (R : K1) (E : Ev) (h : S44_0 a0 a1 a2 w R E) : C P 44 #[a0, a1, a2] w R E := by
  have e : S44_0 (gt (A0 Tryz.f44.ntmps #[a0, a1, a2]) 0) (gt (A0 Tryz.f44.ntmps #[a0, a1, a2]) 1) (gt (A0 Tryz.f44.ntmps #[a0, a1, a2]) 2) w R E = S44_0 a0 a1 a2 w R E := by kernel_rfl
  have t := T44_0 (r := none) (Q := QF P Tryz.f44 R E) (A0 Tryz.f44.ntmps #[a0, a1, a2]) w (by kernel_rfl) R E (fun _ _ _ h => h) (fun _ _ _ h => h) (Eq.mpr e h)
  exact C_of (c := C44_0) Tryz.func44 (by kernel_rfl) t
def S45_0 (v0 : Value) (w : World) (R : K1) (E : Ev) : Prop :=
  X P (.nilCheck v0) 0 w (fun t4 w1 =>
  X P (.fieldAddr 157 t4 0) 0 w1 (fun t5 w2 =>
  X P (.load 3 t5) 3 w2 (fun t6 w3 =>
  R t6 w3) E) E) E
noncomputable def C45_0 : Code := bodyOf Tryz.f45
theorem K45_0 (g : Env) (w : World) (R : K1) (E : Ev) :
  vcF P Z0 Z0 C45_0 (QC (fun _ _ => False) (fun a w => resQ P Tryz.f45.results a w R) Y0 E) g w = S45_0 (g 0) w R E := by kernel_rfl
theorem T45_0 (hs : a.tmps.size = 7) (R : K1) (E : Ev) (hR : ∀ a' w', Ag (wr C45_0) a a' → resQ P Tryz.f45.results (gt a') w' R → Q .ret a' w') (hE : HE Q E)
  (h : S45_0 (gt a 0) w R E) : C45_0.wpIn (Fw r) 0 P (Qs (wr C45_0) a Q) a w :=
  piece' (HJ := Z0) (HL := Z0) hmix hs (by decide +kernel) (fun _ _ => False) (fun a w => resQ P Tryz.f45.results a w R) Y0 E (fun _ _ _ h => h.elim) hR
  (fun _ _ _ _ h => h.elim) hE
  trivial (Eq.mpr (K45_0 (gt a) w R E) h)
theorem F45 (a0 : Value) (w : World) (R : K1) (E : Ev) (h : S45_0 a0 w R E) : C P 45 #[a0] w R E := by
  have e : S45_0 (gt (A0 Tryz.f45.ntmps #[a0]) 0) w R E = S45_0 a0 w R E := by kernel_rfl
  have t := T45_0 (r := none) (Q := QF P Tryz.f45 R E) (A0 Tryz.f45.ntmps #[a0]) w (by kernel_rfl) R E (fun _ _ _ h => h) (fun _ _ _ h => h) (Eq.mpr e h)
  exact C_of (c := C45_0) Tryz.func45 (by kernel_rfl) t
def S46_0 (v0 : Value) (w : World) (R : K1) (E : Ev) : Prop :=
  X P (.nilCheck v0) 0 w (fun t8 w1 =>
  X P (.fieldAddr 106 t8 4) 0 w1 (fun t9 w2 =>
  X P (.load 4 t9) 4 w2 (fun t10 w3 =>
  Cnd t10 (
  R (Value.tuple #[(.int .u32 0), (.int .i64 62)]) w3) (
  XQ P (.nilCheck v0) 0 (drw w3) (fun t13 =>
  XQ P (.fieldAddr 106 t13 3) 0 (drw w3) (fun t14 =>
  XQ P (.load 3 t14) 3 (drw w3) (fun t15 =>
  XQ P (.nilCheck v0) 0 (drw w3) (fun t17 =>
  XQ P (.fieldAddr 106 t17 2) 0 (drw w3) (fun t18 =>
  XQ P (.load 3 t18) 3 (drw w3) (fun t19 =>
  XQ P (.bin .eql 3 false false t15 t19) 4 (drw w3) (fun t20 =>
  Cnd t20 (
  R (Value.tuple #[(.int .u32 0), (.int .i64 61)]) (drw w3)) (
  XQ P (.nilCheck v0) 0 (drw (drw w3)) (fun t22 =>
  XQ P (.fieldAddr 106 t22 1) 0 (drw (drw w3)) (fun t23 =>
  XQ P (.load 38 t23) 38 (drw (drw w3)) (fun t24 =>
  XQ P (.nilCheck v0) 0 (drw (drw w3)) (fun t26 =>
  XQ P (.fieldAddr 106 t26 3) 0 (drw (drw w3)) (fun t27 =>
  XQ P (.load 3 t27) 3 (drw (drw w3)) (fun t28 =>
  XQ P (.conv 3 38 t28) 38 (drw (drw w3)) (fun t29 =>
  XQ P (.bin .mul 38 false true t29 (.int .u32 4096)) 38 (drw (drw w3)) (fun t30 =>
  XQ P (.bin .add 38 false false t24 t30) 38 (drw (drw w3)) (fun t31 =>
  X P (.nilCheck v0) 0 (drw (drw w3)) (fun t33 w4 =>
  X P (.fieldAddr 106 t33 0) 0 w4 (fun t34 w5 =>
  X P (.load 41 t34) 41 w5 (fun t35 w6 =>
  X P (.callF 74 #[t35, t31, (.int .i64 4096), (.int .u8 0)]) 53 w6 (fun t37 w7 =>
  X P (.bin .neq 53 false true t37 (.int .i64 0)) 4 w7 (fun t39 w8 =>
  Cnd t39 (
  R (Value.tuple #[(.int .u32 0), t37]) w8) (
  X P (.nilCheck v0) 0 w8 (fun t42 w9 =>
  X P (.fieldAddr 106 t42 3) 0 w9 (fun t43 w10 =>
  X P (.load 3 t43) 3 w10 (fun t44 w11 =>
  X P (.bin .add 3 false true t44 (.int .i64 1)) 3 w11 (fun t45 w12 =>
  X P (.nilCheck v0) 0 w12 (fun t46 w13 =>
  X P (.fieldAddr 106 t46 3) 0 w13 (fun t47 w14 =>
  X P (.store 3 t47 t45) 0 w14 (fun _ w15 =>
  R (Value.tuple #[t31, (.int .i64 0)]) w15) E) E) E) E) E) E) E)) E) E) E) E) E))))))))))))))))))) E) E) E
noncomputable def C46_0 : Code := bodyOf Tryz.f46
theorem K46_0 (g : Env) (w : World) (R : K1) (E : Ev) :
  vcF P Z0 Z0 C46_0 (QC (fun _ _ => False) (fun a w => resQ P Tryz.f46.results a w R) Y0 E) g w = S46_0 (g 0) w R E := by kernel_rfl
theorem T46_0 (hs : a.tmps.size = 49) (R : K1) (E : Ev) (hR : ∀ a' w', Ag (wr C46_0) a a' → resQ P Tryz.f46.results (gt a') w' R → Q .ret a' w') (hE : HE Q E)
  (h : S46_0 (gt a 0) w R E) : C46_0.wpIn (Fw r) 0 P (Qs (wr C46_0) a Q) a w :=
  piece' (HJ := Z0) (HL := Z0) hmix hs (by decide +kernel) (fun _ _ => False) (fun a w => resQ P Tryz.f46.results a w R) Y0 E (fun _ _ _ h => h.elim) hR
  (fun _ _ _ _ h => h.elim) hE
  trivial (Eq.mpr (K46_0 (gt a) w R E) h)
theorem F46 (a0 : Value) (w : World) (R : K1) (E : Ev) (h : S46_0 a0 w R E) : C P 46 #[a0] w R E := by
  have e : S46_0 (gt (A0 Tryz.f46.ntmps #[a0]) 0) w R E = S46_0 a0 w R E := by kernel_rfl
  have t := T46_0 (r := none) (Q := QF P Tryz.f46 R E) (A0 Tryz.f46.ntmps #[a0]) w (by kernel_rfl) R E (fun _ _ _ h => h) (fun _ _ _ h => h) (Eq.mpr e h)
  exact C_of (c := C46_0) Tryz.func46 (by kernel_rfl) t
def S48_0 (v0 v1 : Value) (w : World) (R : K1) (E : Ev) : Prop :=
  X P (.callF 75 #[v0, v1]) 3 w (fun t7 w1 =>
  X P (.bin .geq 3 false true t7 (.int .i64 0)) 4 w1 (fun t8 w2 =>
  R t8 w2) E) E
noncomputable def C48_0 : Code := bodyOf Tryz.f48
theorem K48_0 (g : Env) (w : World) (R : K1) (E : Ev) :
  vcF P Z0 Z0 C48_0 (QC (fun _ _ => False) (fun a w => resQ P Tryz.f48.results a w R) Y0 E) g w = S48_0 (g 0) (g 1) w R E := by kernel_rfl
theorem T48_0 (hs : a.tmps.size = 9) (R : K1) (E : Ev) (hR : ∀ a' w', Ag (wr C48_0) a a' → resQ P Tryz.f48.results (gt a') w' R → Q .ret a' w') (hE : HE Q E)
  (h : S48_0 (gt a 0) (gt a 1) w R E) : C48_0.wpIn (Fw r) 0 P (Qs (wr C48_0) a Q) a w :=
  piece' (HJ := Z0) (HL := Z0) hmix hs (by decide +kernel) (fun _ _ => False) (fun a w => resQ P Tryz.f48.results a w R) Y0 E (fun _ _ _ h => h.elim) hR
  (fun _ _ _ _ h => h.elim) hE
  trivial (Eq.mpr (K48_0 (gt a) w R E) h)
theorem F48 (a0 a1 : Value) (w : World) (R : K1) (E : Ev) (h : S48_0 a0 a1 w R E) : C P 48 #[a0, a1] w R E := by
  have e : S48_0 (gt (A0 Tryz.f48.ntmps #[a0, a1]) 0) (gt (A0 Tryz.f48.ntmps #[a0, a1]) 1) w R E = S48_0 a0 a1 w R E := by kernel_rfl
  have t := T48_0 (r := none) (Q := QF P Tryz.f48 R E) (A0 Tryz.f48.ntmps #[a0, a1]) w (by kernel_rfl) R E (fun _ _ _ h => h) (fun _ _ _ h => h) (Eq.mpr e h)
  exact C_of (c := C48_0) Tryz.func48 (by kernel_rfl) t
def S49_0 (v0 : Value) (w : World) (R : K1) (E : Ev) : Prop :=
  X P (.box 60 v0) 0 w (fun t1 w1 =>
  X P (.load 60 t1) 60 w1 (fun t3 w2 =>
  X P (.callF 50 #[t3]) 4 w2 (fun t4 w3 =>
  X P (.un .not t4) 4 w3 (fun t5 w4 =>
  R t5 w4) E) E) E) E
noncomputable def C49_0 : Code := bodyOf Tryz.f49
theorem K49_0 (g : Env) (w : World) (R : K1) (E : Ev) :
  vcF P Z0 Z0 C49_0 (QC (fun _ _ => False) (fun a w => resQ P Tryz.f49.results a w R) Y0 E) g w = S49_0 (g 0) w R E := by kernel_rfl
theorem T49_0 (hs : a.tmps.size = 6) (R : K1) (E : Ev) (hR : ∀ a' w', Ag (wr C49_0) a a' → resQ P Tryz.f49.results (gt a') w' R → Q .ret a' w') (hE : HE Q E)
  (h : S49_0 (gt a 0) w R E) : C49_0.wpIn (Fw r) 0 P (Qs (wr C49_0) a Q) a w :=
  piece' (HJ := Z0) (HL := Z0) hmix hs (by decide +kernel) (fun _ _ => False) (fun a w => resQ P Tryz.f49.results a w R) Y0 E (fun _ _ _ h => h.elim) hR
  (fun _ _ _ _ h => h.elim) hE
  trivial (Eq.mpr (K49_0 (gt a) w R E) h)
theorem F49 (a0 : Value) (w : World) (R : K1) (E : Ev) (h : S49_0 a0 w R E) : C P 49 #[a0] w R E := by
  have e : S49_0 (gt (A0 Tryz.f49.ntmps #[a0]) 0) w R E = S49_0 a0 w R E := by kernel_rfl
  have t := T49_0 (r := none) (Q := QF P Tryz.f49 R E) (A0 Tryz.f49.ntmps #[a0]) w (by kernel_rfl) R E (fun _ _ _ h => h) (fun _ _ _ h => h) (Eq.mpr e h)
  exact C_of (c := C49_0) Tryz.func49 (by kernel_rfl) t
def S50_0 (v0 : Value) (w : World) (R : K1) (E : Ev) : Prop :=
  X P (.box 60 v0) 0 w (fun t1 w1 =>
  X P (.load 60 t1) 60 w1 (fun t7 w2 =>
  X P (.callF 77 #[t7, (.int .u32 0)]) 129 w2 (fun t8 w3 =>
  X P (.callF 76 #[t8]) 107 w3 (fun t9 w4 =>
  X P (.extract t9 0) 38 w4 (fun t10 w5 =>
  X P (.extract t9 1) 53 w5 (fun t11 w6 =>
  X P (.fieldAddr 60 t1 0) 0 w6 (fun t12 w7 =>
  X P (.load 38 t12) 38 w7 (fun t13 w8 =>
  X P (.bin .rem 38 false true t13 (.int .u32 4096)) 38 w8 (fun t14 w9 =>
  X P (.bin .eql 38 false true t14 (.int .u32 0)) 4 w9 (fun t15 w10 =>
  XG (some t15) true P (.fieldAddr 60 t1 1) 0 w10 (fun t17 w11 =>
  XG (some t15) true P (.load 38 t17) 38 w11 (fun t18 w12 =>
  XG (some t15) true P (.bin .rem 38 false true t18 (.int .u32 4096)) 38 w12 (fun t19 w13 =>
  XG (some t15) true P (.bin .eql 38 false true t19 (.int .u32 0)) 4 w13 (fun t20 w14 =>
  X P (.pick t15 t20 (.bool false)) 4 w14 (fun t21 w15 =>
  X P (.bin .eql 53 false true t11 (.int .i64 0)) 4 w15 (fun t23 w16 =>
  XG (some t23) true P (.val t21) 4 w16 (fun t25 w17 =>
  X P (.pick t23 t25 (.bool false)) 4 w17 (fun t26 w18 =>
  XG (some t26) true P (.fieldAddr 60 t1 2) 0 w18 (fun t28 w19 =>
  XG (some t26) true P (.load 3 t28) 3 w19 (fun t29 w20 =>
  XG (some t26) true P (.bin .geq 3 false true t29 (.int .i64 1)) 4 w20 (fun t30 w21 =>
  X P (.pick t26 t30 (.bool false)) 4 w21 (fun t31 w22 =>
  XG (some t31) true P (.fieldAddr 60 t1 2) 0 w22 (fun t33 w23 =>
  XG (some t31) true P (.load 3 t33) 3 w23 (fun t34 w24 =>
  XG (some t31) true P (.fieldAddr 60 t1 0) 0 w24 (fun t35 w25 =>
  XG (some t31) true P (.load 38 t35) 38 w25 (fun t36 w26 =>
  XG (some t31) true P (.bin .shr 38 false true t36 (.int .u64 12)) 38 w26 (fun t37 w27 =>
  XG (some t31) true P (.conv 38 3 t37) 3 w27 (fun t38 w28 =>
  XG (some t31) true P (.bin .sub 3 true false (.int .i64 1048576) t38) 3 w28 (fun t39 w29 =>
  XG (some t31) true P (.bin .leq 3 false false t34 t39) 4 w29 (fun t40 w30 =>
  X P (.pick t31 t40 (.bool false)) 4 w30 (fun t41 w31 =>
  XG (some t41) true P (.fieldAddr 60 t1 2) 0 w31 (fun t43 w32 =>
  XG (some t41) true P (.load 3 t43) 3 w32 (fun t44 w33 =>
  XG (some t41) true P (.fieldAddr 60 t1 1) 0 w33 (fun t45 w34 =>
  XG (some t41) true P (.load 38 t45) 38 w34 (fun t46 w35 =>
  XG (some t41) true P (.bin .shr 38 false true t46 (.int .u64 12)) 38 w35 (fun t47 w36 =>
  XG (some t41) true P (.conv 38 3 t47) 3 w36 (fun t48 w37 =>
  XG (some t41) true P (.bin .sub 3 true false (.int .i64 4096) t48) 3 w37 (fun t49 w38 =>
  XG (some t41) true P (.bin .leq 3 false false t44 t49) 4 w38 (fun t50 w39 =>
  X P (.pick t41 t50 (.bool false)) 4 w39 (fun t51 w40 =>
  R t51 w40) E) E) E) E) E) E) E) E) E) E) E) E) E) E) E) E) E) E) E) E) E) E) E) E) E) E) E) E) E) E) E) E) E) E) E) E) E) E) E) E
noncomputable def C50_0 : Code := bodyOf Tryz.f50
theorem K50_0 (g : Env) (w : World) (R : K1) (E : Ev) :
  vcF P Z0 Z0 C50_0 (QC (fun _ _ => False) (fun a w => resQ P Tryz.f50.results a w R) Y0 E) g w = S50_0 (g 0) w R E := by kernel_rfl
theorem T50_0 (hs : a.tmps.size = 52) (R : K1) (E : Ev) (hR : ∀ a' w', Ag (wr C50_0) a a' → resQ P Tryz.f50.results (gt a') w' R → Q .ret a' w') (hE : HE Q E)
  (h : S50_0 (gt a 0) w R E) : C50_0.wpIn (Fw r) 0 P (Qs (wr C50_0) a Q) a w :=
  piece' (HJ := Z0) (HL := Z0) hmix hs (by decide +kernel) (fun _ _ => False) (fun a w => resQ P Tryz.f50.results a w R) Y0 E (fun _ _ _ h => h.elim) hR
  (fun _ _ _ _ h => h.elim) hE
  trivial (Eq.mpr (K50_0 (gt a) w R E) h)
theorem F50 (a0 : Value) (w : World) (R : K1) (E : Ev) (h : S50_0 a0 w R E) : C P 50 #[a0] w R E := by
  have e : S50_0 (gt (A0 Tryz.f50.ntmps #[a0]) 0) w R E = S50_0 a0 w R E := by kernel_rfl
  have t := T50_0 (r := none) (Q := QF P Tryz.f50 R E) (A0 Tryz.f50.ntmps #[a0]) w (by kernel_rfl) R E (fun _ _ _ h => h) (fun _ _ _ h => h) (Eq.mpr e h)
  exact C_of (c := C50_0) Tryz.func50 (by kernel_rfl) t
def S51_0 (v0 : Value) (w : World) (R : K1) (E : Ev) : Prop :=
  X P (.nilCheck v0) 0 w (fun t4 w1 =>
  X P (.fieldAddr 106 t4 0) 0 w1 (fun t5 w2 =>
  X P (.load 41 t5) 41 w2 (fun t6 w3 =>
  R t6 w3) E) E) E
noncomputable def C51_0 : Code := bodyOf Tryz.f51
theorem K51_0 (g : Env) (w : World) (R : K1) (E : Ev) :
  vcF P Z0 Z0 C51_0 (QC (fun _ _ => False) (fun a w => resQ P Tryz.f51.results a w R) Y0 E) g w = S51_0 (g 0) w R E := by kernel_rfl
theorem T51_0 (hs : a.tmps.size = 7) (R : K1) (E : Ev) (hR : ∀ a' w', Ag (wr C51_0) a a' → resQ P Tryz.f51.results (gt a') w' R → Q .ret a' w') (hE : HE Q E)
  (h : S51_0 (gt a 0) w R E) : C51_0.wpIn (Fw r) 0 P (Qs (wr C51_0) a Q) a w :=
  piece' (HJ := Z0) (HL := Z0) hmix hs (by decide +kernel) (fun _ _ => False) (fun a w => resQ P Tryz.f51.results a w R) Y0 E (fun _ _ _ h => h.elim) hR
  (fun _ _ _ _ h => h.elim) hE
  trivial (Eq.mpr (K51_0 (gt a) w R E) h)
theorem F51 (a0 : Value) (w : World) (R : K1) (E : Ev) (h : S51_0 a0 w R E) : C P 51 #[a0] w R E := by
  have e : S51_0 (gt (A0 Tryz.f51.ntmps #[a0]) 0) w R E = S51_0 a0 w R E := by kernel_rfl
  have t := T51_0 (r := none) (Q := QF P Tryz.f51 R E) (A0 Tryz.f51.ntmps #[a0]) w (by kernel_rfl) R E (fun _ _ _ h => h) (fun _ _ _ h => h) (Eq.mpr e h)
  exact C_of (c := C51_0) Tryz.func51 (by kernel_rfl) t
def S52_0 (v0 : Value) (w : World) (R : K1) (E : Ev) : Prop :=
  X P (.box 57 v0) 0 w (fun t1 w1 =>
  X P (.mkFunc (Fn.func 78) #[] #[t1]) 118 w1 (fun t3 w2 =>
  R t3 w2) E) E
noncomputable def C52_0 : Code := bodyOf Tryz.f52
theorem K52_0 (g : Env) (w : World) (R : K1) (E : Ev) :
  vcF P Z0 Z0 C52_0 (QC (fun _ _ => False) (fun a w => resQ P Tryz.f52.results a w R) Y0 E) g w = S52_0 (g 0) w R E := by kernel_rfl
theorem T52_0 (hs : a.tmps.size = 4) (R : K1) (E : Ev) (hR : ∀ a' w', Ag (wr C52_0) a a' → resQ P Tryz.f52.results (gt a') w' R → Q .ret a' w') (hE : HE Q E)
  (h : S52_0 (gt a 0) w R E) : C52_0.wpIn (Fw r) 0 P (Qs (wr C52_0) a Q) a w :=
  piece' (HJ := Z0) (HL := Z0) hmix hs (by decide +kernel) (fun _ _ => False) (fun a w => resQ P Tryz.f52.results a w R) Y0 E (fun _ _ _ h => h.elim) hR
  (fun _ _ _ _ h => h.elim) hE
  trivial (Eq.mpr (K52_0 (gt a) w R E) h)
theorem F52 (a0 : Value) (w : World) (R : K1) (E : Ev) (h : S52_0 a0 w R E) : C P 52 #[a0] w R E := by
  have e : S52_0 (gt (A0 Tryz.f52.ntmps #[a0]) 0) w R E = S52_0 a0 w R E := by kernel_rfl
  have t := T52_0 (r := none) (Q := QF P Tryz.f52 R E) (A0 Tryz.f52.ntmps #[a0]) w (by kernel_rfl) R E (fun _ _ _ h => h) (fun _ _ _ h => h) (Eq.mpr e h)
  exact C_of (c := C52_0) Tryz.func52 (by kernel_rfl) t
def S53_0 (v0 v1 v2 : Value) (w : World) (R : K1) (E : Ev) : Prop :=
  X P (.conv 38 140 v1) 140 w (fun t13 w1 =>
  X P (.conv 38 140 v2) 140 w1 (fun t15 w2 =>
  X P (.bin .mul 140 true false (.int .u64 4) t15) 140 w2 (fun t16 w3 =>
  X P (.bin .add 140 false false t13 t16) 140 w3 (fun t17 w4 =>
  X P (.bin .eql 41 false true v0 (.pointer none)) 4 w4 (fun t19 w5 =>
  XG (some t19) false P (.val t17) 140 w5 (fun t21 w6 =>
  XG (some t19) false P (.bin .gtr 140 false true t21 (.int .u64 4294967292)) 4 w6 (fun t22 w7 =>
  X P (.pick t19 (.bool true) t22) 4 w7 (fun t23 w8 =>
  Cnd t23 (
  R (Value.tuple #[(.int .u32 0), (.int .u32 0), (.bool false)]) w8) (
  X P (.conv 140 38 t17) 38 w8 (fun t27 w9 =>
  X P (.callF 66 #[v0, t27, (.int .i64 4)]) 107 w9 (fun t28 w10 =>
  X P (.extract t28 0) 38 w10 (fun t29 w11 =>
  X P (.extract t28 1) 53 w11 (fun t30 w12 =>
  X P (.conv 140 38 t17) 38 w12 (fun t32 w13 =>
  X P (.bin .eql 53 false true t30 (.int .i64 0)) 4 w13 (fun t35 w14 =>
  R (Value.tuple #[t32, t29, t35]) w14) E) E) E) E) E) E)) E) E) E) E) E) E) E) E
noncomputable def C53_0 : Code := bodyOf Tryz.f53
theorem K53_0 (g : Env) (w : World) (R : K1) (E : Ev) :
  vcF P Z0 Z0 C53_0 (QC (fun _ _ => False) (fun a w => resQ P Tryz.f53.results a w R) Y0 E) g w = S53_0 (g 0) (g 1) (g 2) w R E := by kernel_rfl
theorem T53_0 (hs : a.tmps.size = 36) (R : K1) (E : Ev) (hR : ∀ a' w', Ag (wr C53_0) a a' → resQ P Tryz.f53.results (gt a') w' R → Q .ret a' w') (hE : HE Q E)
  (h : S53_0 (gt a 0) (gt a 1) (gt a 2) w R E) : C53_0.wpIn (Fw r) 0 P (Qs (wr C53_0) a Q) a w :=
  piece' (HJ := Z0) (HL := Z0) hmix hs (by decide +kernel) (fun _ _ => False) (fun a w => resQ P Tryz.f53.results a w R) Y0 E (fun _ _ _ h => h.elim) hR
  (fun _ _ _ _ h => h.elim) hE
  trivial (Eq.mpr (K53_0 (gt a) w R E) h)
theorem F53 (a0 a1 a2 : Value) (w : World) (R : K1) (E : Ev) (h : S53_0 a0 a1 a2 w R E) : C P 53 #[a0, a1, a2] w R E := by
  have e : S53_0 (gt (A0 Tryz.f53.ntmps #[a0, a1, a2]) 0) (gt (A0 Tryz.f53.ntmps #[a0, a1, a2]) 1) (gt (A0 Tryz.f53.ntmps #[a0, a1, a2]) 2) w R E = S53_0 a0 a1 a2 w R E := by kernel_rfl
  have t := T53_0 (r := none) (Q := QF P Tryz.f53 R E) (A0 Tryz.f53.ntmps #[a0, a1, a2]) w (by kernel_rfl) R E (fun _ _ _ h => h) (fun _ _ _ h => h) (Eq.mpr e h)
  exact C_of (c := C53_0) Tryz.func53 (by kernel_rfl) t
def S54_j8 (v2 v4 : Value) (w : World) (R : K1) (E : Ev) : Prop :=
  X P (.load 129 v4) 129 w (fun t32 w1 =>
  X P (.callF 76 #[t32]) 107 w1 (fun t33 w2 =>
  X P (.extract t33 0) 38 w2 (fun t34 w3 =>
  X P (.extract t33 1) 53 w3 (fun t35 w4 =>
  X P (.bin .neq 53 false true t35 (.int .i64 0)) 4 w4 (fun t37 w5 =>
  Cnd t37 (
  X P (.build 129 #[]) 129 w5 (fun t38 w6 =>
  X P (.store 129 v2 t38) 0 w6 (fun _ w7 =>
  XRes P [(v2, some 129), (t35, none)] w7 R) E) E) (
  X P (.load 129 v4) 129 w5 (fun t40 w6 =>
  X P (.store 129 v2 t40) 0 w6 (fun _ w7 =>
  XRes P [(v2, some 129), ((.int .i64 0), none)] w7 R) E) E)) E) E) E) E) E
noncomputable def C54_j8 : Code := cR (cR (cR (cR (cR (bodyOf Tryz.f54)))))
theorem K54_j8 (g : Env) (w : World) (R : K1) (E : Ev) :
  vcF P Z0 Z0 C54_j8 (QC (fun _ _ => False) (fun a w => resQ P Tryz.f54.results a w R) Y0 E) g w = S54_j8 (g 2) (g 4) w R E := by kernel_rfl
theorem T54_j8 (hs : a.tmps.size = 41) (R : K1) (E : Ev) (hR : ∀ a' w', Ag (wr C54_j8) a a' → resQ P Tryz.f54.results (gt a') w' R → Q .ret a' w') (hE : HE Q E)
  (h : S54_j8 (gt a 2) (gt a 4) w R E) : C54_j8.wpIn (Fw r) 0 P (Qs (wr C54_j8) a Q) a w :=
  piece' (HJ := Z0) (HL := Z0) hmix hs (by decide +kernel) (fun _ _ => False) (fun a w => resQ P Tryz.f54.results a w R) Y0 E (fun _ _ _ h => h.elim) hR
  (fun _ _ _ _ h => h.elim) hE
  trivial (Eq.mpr (K54_j8 (gt a) w R E) h)
def S54_0 (v0 : Value) (w : World) (R : K1) (E : Ev) : Prop :=
  X P (.alloc 129) 0 w (fun t2 w1 =>
  X P (.bin .eql 38 false true v0 (.int .u32 0)) 4 w1 (fun t8 w2 =>
  Cnd t8 (
  X P (.build 129 #[]) 129 w2 (fun t9 w3 =>
  X P (.store 129 t2 t9) 0 w3 (fun _ w4 =>
  XRes P [(t2, some 129), ((.int .i64 0), none)] w4 R) E) E) (
  X P (.bin .and 38 false true v0 (.int .u32 1)) 38 w2 (fun t11 w3 =>
  X P (.bin .eql 38 false true t11 (.int .u32 0)) 4 w3 (fun t12 w4 =>
  XG (some t12) false P (.val v0) 38 w4 (fun t14 w5 =>
  XG (some t12) false P (.bin .and 38 false true t14 (.int .u32 4095)) 38 w5 (fun t15 w6 =>
  XG (some t12) false P (.bin .andNot 38 false true t15 (.int .u32 31)) 38 w6 (fun t16 w7 =>
  XG (some t12) false P (.bin .neq 38 false true t16 (.int .u32 0)) 4 w7 (fun t17 w8 =>
  X P (.pick t12 (.bool true) t17) 4 w8 (fun t18 w9 =>
  Cnd t18 (
  X P (.build 129 #[]) 129 w9 (fun t19 w10 =>
  X P (.store 129 t2 t19) 0 w10 (fun _ w11 =>
  XRes P [(t2, some 129), ((.int .i64 43), none)] w11 R) E) E) (
  X P (.bin .and 38 false true v0 (.int .u32 14)) 38 w9 (fun t21 w10 =>
  X P (.bin .shr 38 false true t21 (.int .u64 1)) 38 w10 (fun t22 w11 =>
  X P (.conv 38 58 t22) 58 w11 (fun t23 w12 =>
  X P (.bin .shr 38 false true v0 (.int .u64 12)) 38 w12 (fun t25 w13 =>
  X P (.build 129 #[(0, (.int .i64 1)), (1, t23), (2, t25)]) 129 w13 (fun t26 w14 =>
  X P (.alloc 129) 0 w14 (fun t4 w15 =>
  X P (.store 129 t4 t26) 0 w15 (fun _ w16 =>
  X P (.bin .and 38 false true v0 (.int .u32 16)) 38 w16 (fun t28 w17 =>
  X P (.bin .neq 38 false true t28 (.int .u32 0)) 4 w17 (fun t29 w18 =>
  Cnd t29 (
  X P (.fieldAddr 129 t4 0) 0 w18 (fun t30 w19 =>
  X P (.store 127 t30 (.int .i64 2)) 0 w19 (fun _ w20 =>
  S54_j8 t2 t4 w20 R E) E) E) (
  S54_j8 t2 t4 w18 R E)) E) E) E) E) E) E) E) E) E)) E) E) E) E) E) E) E)) E) E
noncomputable def C54_0 : Code := bodyOf Tryz.f54
noncomputable def HJ54_0 (R : K1) (E : Ev) : Cut := fun i => match i with | some 8 => some (fun a w => S54_j8 (a 2) (a 4) w R E) | _ => none
theorem K54_0 (g : Env) (w : World) (R : K1) (E : Ev) :
  vcF P (HJ54_0 R E) Z0 C54_0 (QC (fun _ _ => False) (fun a w => resQ P Tryz.f54.results a w R) Y0 E) g w = S54_0 (g 0) w R E := by kernel_rfl
theorem T54_0 (hs : a.tmps.size = 41) (R : K1) (E : Ev) (hR : ∀ a' w', Ag (wr C54_0) a a' → resQ P Tryz.f54.results (gt a') w' R → Q .ret a' w') (hE : HE Q E)
  (h : S54_0 (gt a 0) w R E) : C54_0.wpIn (Fw r) 0 P (Qs (wr C54_0) a Q) a w :=
  piece' (HJ := HJ54_0 R E) (HL := Z0) hmix hs (by decide +kernel) (fun _ _ => False) (fun a w => resQ P Tryz.f54.results a w R) Y0 E (fun _ _ _ h => h.elim) hR
  (fun _ _ _ _ h => h.elim) hE
  ⟨pay (c := C54_j8) (W := wr C54_0) (h := fun a w => S54_j8 (a 2) (a 4) w R E) (by decide +kernel) fun a w hsz h => T54_j8 a w (hsz.trans hs) R E (fun _ _ _ h => h) (fun _ _ _ h => h) h, trivial⟩ (Eq.mpr (K54_0 (gt a) w R E) h)
theorem F54 (a0 : Value) (w : World) (R : K1) (E : Ev) (h : S54_0 a0 w R E) : C P 54 #[a0] w R E := by
  have e : S54_0 (gt (A0 Tryz.f54.ntmps #[a0]) 0) w R E = S54_0 a0 w R E := by kernel_rfl
  have t := T54_0 (r := none) (Q := QF P Tryz.f54 R E) (A0 Tryz.f54.ntmps #[a0]) w (by kernel_rfl) R E (fun _ _ _ h => h) (fun _ _ _ h => h) (Eq.mpr e h)
  exact C_of (c := C54_0) Tryz.func54 (by kernel_rfl) t
def S55_0 (v0 v1 : Value) (w : World) (R : K1) (E : Ev) : Prop :=
  X P (.conv 38 3 v1) 3 w (fun t6 w1 =>
  X P (.callF 45 #[v0]) 3 w1 (fun t8 w2 =>
  X P (.bin .lss 3 false false t6 t8) 4 w2 (fun t9 w3 =>
  R t9 w3) E) E) E
noncomputable def C55_0 : Code := bodyOf Tryz.f55
theorem K55_0 (g : Env) (w : World) (R : K1) (E : Ev) :
  vcF P Z0 Z0 C55_0 (QC (fun _ _ => False) (fun a w => resQ P Tryz.f55.results a w R) Y0 E) g w = S55_0 (g 0) (g 1) w R E := by kernel_rfl
theorem T55_0 (hs : a.tmps.size = 10) (R : K1) (E : Ev) (hR : ∀ a' w', Ag (wr C55_0) a a' → resQ P Tryz.f55.results (gt a') w' R → Q .ret a' w') (hE : HE Q E)
  (h : S55_0 (gt a 0) (gt a 1) w R E) : C55_0.wpIn (Fw r) 0 P (Qs (wr C55_0) a Q) a w :=
  piece' (HJ := Z0) (HL := Z0) hmix hs (by decide +kernel) (fun _ _ => False) (fun a w => resQ P Tryz.f55.results a w R) Y0 E (fun _ _ _ h => h.elim) hR
  (fun _ _ _ _ h => h.elim) hE
  trivial (Eq.mpr (K55_0 (gt a) w R E) h)
theorem F55 (a0 a1 : Value) (w : World) (R : K1) (E : Ev) (h : S55_0 a0 a1 w R E) : C P 55 #[a0, a1] w R E := by
  have e : S55_0 (gt (A0 Tryz.f55.ntmps #[a0, a1]) 0) (gt (A0 Tryz.f55.ntmps #[a0, a1]) 1) w R E = S55_0 a0 a1 w R E := by kernel_rfl
  have t := T55_0 (r := none) (Q := QF P Tryz.f55 R E) (A0 Tryz.f55.ntmps #[a0, a1]) w (by kernel_rfl) R E (fun _ _ _ h => h) (fun _ _ _ h => h) (Eq.mpr e h)
  exact C_of (c := C55_0) Tryz.func55 (by kernel_rfl) t
def S56_0 (v0 v1 : Value) (w : World) (R : K1) (E : Ev) : Prop :=
  X P (.callF 80 #[v0, v1]) 3 w (fun t7 w1 =>
  X P (.bin .geq 3 false true t7 (.int .i64 0)) 4 w1 (fun t8 w2 =>
  R t8 w2) E) E
noncomputable def C56_0 : Code := bodyOf Tryz.f56
theorem K56_0 (g : Env) (w : World) (R : K1) (E : Ev) :
  vcF P Z0 Z0 C56_0 (QC (fun _ _ => False) (fun a w => resQ P Tryz.f56.results a w R) Y0 E) g w = S56_0 (g 0) (g 1) w R E := by kernel_rfl
theorem T56_0 (hs : a.tmps.size = 9) (R : K1) (E : Ev) (hR : ∀ a' w', Ag (wr C56_0) a a' → resQ P Tryz.f56.results (gt a') w' R → Q .ret a' w') (hE : HE Q E)
  (h : S56_0 (gt a 0) (gt a 1) w R E) : C56_0.wpIn (Fw r) 0 P (Qs (wr C56_0) a Q) a w :=
  piece' (HJ := Z0) (HL := Z0) hmix hs (by decide +kernel) (fun _ _ => False) (fun a w => resQ P Tryz.f56.results a w R) Y0 E (fun _ _ _ h => h.elim) hR
  (fun _ _ _ _ h => h.elim) hE
  trivial (Eq.mpr (K56_0 (gt a) w R E) h)
theorem F56 (a0 a1 : Value) (w : World) (R : K1) (E : Ev) (h : S56_0 a0 a1 w R E) : C P 56 #[a0, a1] w R E := by
  have e : S56_0 (gt (A0 Tryz.f56.ntmps #[a0, a1]) 0) (gt (A0 Tryz.f56.ntmps #[a0, a1]) 1) w R E = S56_0 a0 a1 w R E := by kernel_rfl
  have t := T56_0 (r := none) (Q := QF P Tryz.f56 R E) (A0 Tryz.f56.ntmps #[a0, a1]) w (by kernel_rfl) R E (fun _ _ _ h => h) (fun _ _ _ h => h) (Eq.mpr e h)
  exact C_of (c := C56_0) Tryz.func56 (by kernel_rfl) t
def S57_0 (v0 : Value) (w : World) (R : K1) (E : Ev) : Prop :=
  X P (.nilCheck v0) 0 w (fun t4 w1 =>
  X P (.fieldAddr 106 t4 4) 0 w1 (fun t5 w2 =>
  X P (.load 4 t5) 4 w2 (fun t6 w3 =>
  R t6 w3) E) E) E
noncomputable def C57_0 : Code := bodyOf Tryz.f57
theorem K57_0 (g : Env) (w : World) (R : K1) (E : Ev) :
  vcF P Z0 Z0 C57_0 (QC (fun _ _ => False) (fun a w => resQ P Tryz.f57.results a w R) Y0 E) g w = S57_0 (g 0) w R E := by kernel_rfl
theorem T57_0 (hs : a.tmps.size = 7) (R : K1) (E : Ev) (hR : ∀ a' w', Ag (wr C57_0) a a' → resQ P Tryz.f57.results (gt a') w' R → Q .ret a' w') (hE : HE Q E)
  (h : S57_0 (gt a 0) w R E) : C57_0.wpIn (Fw r) 0 P (Qs (wr C57_0) a Q) a w :=
  piece' (HJ := Z0) (HL := Z0) hmix hs (by decide +kernel) (fun _ _ => False) (fun a w => resQ P Tryz.f57.results a w R) Y0 E (fun _ _ _ h => h.elim) hR
  (fun _ _ _ _ h => h.elim) hE
  trivial (Eq.mpr (K57_0 (gt a) w R E) h)
theorem F57 (a0 : Value) (w : World) (R : K1) (E : Ev) (h : S57_0 a0 w R E) : C P 57 #[a0] w R E := by
  have e : S57_0 (gt (A0 Tryz.f57.ntmps #[a0]) 0) w R E = S57_0 a0 w R E := by kernel_rfl
  have t := T57_0 (r := none) (Q := QF P Tryz.f57 R E) (A0 Tryz.f57.ntmps #[a0]) w (by kernel_rfl) R E (fun _ _ _ h => h) (fun _ _ _ h => h) (Eq.mpr e h)
  exact C_of (c := C57_0) Tryz.func57 (by kernel_rfl) t
def S58_0 (v0 : Value) (w : World) (R : K1) (E : Ev) : Prop :=
  XQ P (.nilCheck v0) 0 (drw w) (fun t4 =>
  XQ P (.fieldAddr 106 t4 2) 0 (drw w) (fun t5 =>
  XQ P (.load 3 t5) 3 (drw w) (fun t6 =>
  XQ P (.nilCheck v0) 0 (drw w) (fun t8 =>
  XQ P (.fieldAddr 106 t8 3) 0 (drw w) (fun t9 =>
  XQ P (.load 3 t9) 3 (drw w) (fun t10 =>
  XQ P (.bin .sub 3 false false t6 t10) 3 (drw w) (fun t11 =>
  R t11 (drw w))))))))
noncomputable def C58_0 : Code := bodyOf Tryz.f58
theorem K58_0 (g : Env) (w : World) (R : K1) (E : Ev) :
  vcF P Z0 Z0 C58_0 (QC (fun _ _ => False) (fun a w => resQ P Tryz.f58.results a w R) Y0 E) g w = S58_0 (g 0) w R E := by kernel_rfl
theorem T58_0 (hs : a.tmps.size = 12) (R : K1) (E : Ev) (hR : ∀ a' w', Ag (wr C58_0) a a' → resQ P Tryz.f58.results (gt a') w' R → Q .ret a' w') (hE : HE Q E)
  (h : S58_0 (gt a 0) w R E) : C58_0.wpIn (Fw r) 0 P (Qs (wr C58_0) a Q) a w :=
  piece' (HJ := Z0) (HL := Z0) hmix hs (by decide +kernel) (fun _ _ => False) (fun a w => resQ P Tryz.f58.results a w R) Y0 E (fun _ _ _ h => h.elim) hR
  (fun _ _ _ _ h => h.elim) hE
  trivial (Eq.mpr (K58_0 (gt a) w R E) h)
theorem F58 (a0 : Value) (w : World) (R : K1) (E : Ev) (h : S58_0 a0 w R E) : C P 58 #[a0] w R E := by
  have e : S58_0 (gt (A0 Tryz.f58.ntmps #[a0]) 0) w R E = S58_0 a0 w R E := by kernel_rfl
  have t := T58_0 (r := none) (Q := QF P Tryz.f58 R E) (A0 Tryz.f58.ntmps #[a0]) w (by kernel_rfl) R E (fun _ _ _ h => h) (fun _ _ _ h => h) (Eq.mpr e h)
  exact C_of (c := C58_0) Tryz.func58 (by kernel_rfl) t
def S59_0 (v0 v1 v2 v3 : Value) (w : World) (R : K1) (E : Ev) : Prop :=
  X P (.box 129 v3) 0 w (fun t7 w1 =>
  X P (.load 129 t7) 129 w1 (fun t11 w2 =>
  X P (.callF 76 #[t11]) 107 w2 (fun t12 w3 =>
  X P (.extract t12 0) 38 w3 (fun t13 w4 =>
  X P (.extract t12 1) 53 w4 (fun t14 w5 =>
  X P (.bin .mul 38 true false (.int .u32 4) v2) 38 w5 (fun t18 w6 =>
  X P (.bin .add 38 false false v1 t18) 38 w6 (fun t19 w7 =>
  X P (.callF 16 #[v0, t19, (.int .i64 4), t13]) 53 w7 (fun t21 w8 =>
  R (Value.tuple #[]) w8) E) E) E) E) E) E) E) E
noncomputable def C59_0 : Code := bodyOf Tryz.f59
theorem K59_0 (g : Env) (w : World) (R : K1) (E : Ev) :
  vcF P Z0 Z0 C59_0 (QC (fun a w => resQ P Tryz.f59.results a w R) (fun a w => resQ P Tryz.f59.results a w R) Y0 E) g w = S59_0 (g 0) (g 1) (g 2) (g 3) w R E := by kernel_rfl
theorem T59_0 (hs : a.tmps.size = 22) (R : K1) (E : Ev) (hN : ∀ a' w', Ag (wr C59_0) a a' → resQ P Tryz.f59.results (gt a') w' R → Q .normal a' w') (hR : ∀ a' w', Ag (wr C59_0) a a' → resQ P Tryz.f59.results (gt a') w' R → Q .ret a' w') (hE : HE Q E)
  (h : S59_0 (gt a 0) (gt a 1) (gt a 2) (gt a 3) w R E) : C59_0.wpIn (Fw r) 0 P (Qs (wr C59_0) a Q) a w :=
  piece' (HJ := Z0) (HL := Z0) hmix hs (by decide +kernel) (fun a w => resQ P Tryz.f59.results a w R) (fun a w => resQ P Tryz.f59.results a w R) Y0 E hN hR
  (fun _ _ _ _ h => h.elim) hE
  trivial (Eq.mpr (K59_0 (gt a) w R E) h)
theorem F59 (a0 a1 a2 a3 : Value) (w : World) (R : K1) (E : Ev) (h : S59_0 a0 a1 a2 a3 w R E) : C P 59 #[a0, a1, a2, a3] w R E := by
  have e : S59_0 (gt (A0 Tryz.f59.ntmps #[a0, a1, a2, a3]) 0) (gt (A0 Tryz.f59.ntmps #[a0, a1, a2, a3]) 1) (gt (A0 Tryz.f59.ntmps #[a0, a1, a2, a3]) 2) (gt (A0 Tryz.f59.ntmps #[a0, a1, a2, a3]) 3) w R E = S59_0 a0 a1 a2 a3 w R E := by kernel_rfl
  have t := T59_0 (r := none) (Q := QF P Tryz.f59 R E) (A0 Tryz.f59.ntmps #[a0, a1, a2, a3]) w (by kernel_rfl) R E (fun _ _ _ h => h) (fun _ _ _ h => h) (fun _ _ _ h => h) (Eq.mpr e h)
  exact C_of (c := C59_0) Tryz.func59 (by kernel_rfl) t
def S60_j7 (v0 v5 : Value) (w : World) (R : K1) (E : Ev) : Prop :=
  X P (.nilCheck v0) 0 w (fun t32 w1 =>
  X P (.fieldAddr 142 t32 1) 0 w1 (fun t33 w2 =>
  X P (.load 139 t33) 139 w2 (fun t34 w3 =>
  X P (.callB .len #[139] #[false] #[t34]) 3 w3 (fun t35 w4 =>
  X P (.bin .sub 3 false false v5 t35) 3 w4 (fun t36 w5 =>
  R t36 w5) E) E) E) E) E
noncomputable def C60_j7 : Code := cR (cR (cR (bodyOf Tryz.f60)))
theorem K60_j7 (g : Env) (w : World) (R : K1) (E : Ev) :
  vcF P Z0 Z0 C60_j7 (QC (fun _ _ => False) (fun a w => resQ P Tryz.f60.results a w R) Y0 E) g w = S60_j7 (g 0) (g 5) w R E := by kernel_rfl
theorem T60_j7 (hs : a.tmps.size = 37) (R : K1) (E : Ev) (hR : ∀ a' w', Ag (wr C60_j7) a a' → resQ P Tryz.f60.results (gt a') w' R → Q .ret a' w') (hE : HE Q E)
  (h : S60_j7 (gt a 0) (gt a 5) w R E) : C60_j7.wpIn (Fw r) 0 P (Qs (wr C60_j7) a Q) a w :=
  piece' (HJ := Z0) (HL := Z0) hmix hs (by decide +kernel) (fun _ _ => False) (fun a w => resQ P Tryz.f60.results a w R) Y0 E (fun _ _ _ h => h.elim) hR
  (fun _ _ _ _ h => h.elim) hE
  trivial (Eq.mpr (K60_j7 (gt a) w R E) h)
def S60_b3 (v0 v1 v5 v16 : Value) (w : World) (N : K4) (X0 : K2) (E : Ev) : Prop :=
  X P (.next v16 false) 0 w (fun t17 w1 =>
  X P (.extract t17 0) 4 w1 (fun t18 w2 =>
  Cnd t18 (
  X P (.entry v16) 0 w2 (fun t19 w3 =>
  X P (.extract t19 0) 177 w3 (fun t20 w4 =>
  X P (.alloc 177) 0 w4 (fun t6 w5 =>
  X P (.store 177 t6 t20) 0 w5 (fun _ w6 =>
  X P (.fieldAddr 177 t6 0) 0 w6 (fun t22 w7 =>
  X P (.load 3 t22) 3 w7 (fun t23 w8 =>
  X P (.callF 81 #[v1, t23]) 4 w8 (fun t24 w9 =>
  Cnd t24 (
  XQ P (.nilCheck v0) 0 (drw w9) (fun t26 =>
  XQ P (.fieldAddr 142 t26 1) 0 (drw w9) (fun t27 =>
  XQ P (.load 139 t27) 139 (drw w9) (fun t28 =>
  XQ P (.load 177 t6) 177 (drw w9) (fun t29 =>
  (X P (.callB .delete #[139, 177] #[false, false] #[t28, t29]) 0 (drw w9) (fun _ w10 =>
  N v0 v1 v5 v16 w10) E)))))) (
  N v0 v1 v5 v16 w9)) E) E) E) E) E) E) E) (
  X0 v0 v5 w2)) E) E
noncomputable def C60_b3 : Code := cB (cB (cR (cL (cR (cR (bodyOf Tryz.f60))))))
noncomputable def J60_b3 (N : K4) (X0 : K2) (E : Ev) : Nat → Env → World → Prop := fun i a w => match i with | 0 => X0 (a 0) (a 5) w | _ => False
theorem K60_b3 (g : Env) (w : World) (N : K4) (X0 : K2) (E : Ev) :
  vcF P Z0 Z0 C60_b3 (QC (fun a w => N (a 0) (a 1) (a 5) (a 16) w) (fun _ _ => False) (J60_b3 N X0 E) E) g w = S60_b3 (g 0) (g 1) (g 5) (g 16) w N X0 E := by kernel_rfl
theorem T60_b3 (hs : a.tmps.size = 37) (N : K4) (X0 : K2) (E : Ev) (hN : ∀ a' w', Ag (wr C60_b3) a a' → N (gt a' 0) (gt a' 1) (gt a' 5) (gt a' 16) w' → Q .normal a' w') (hX0 : ∀ a' w', Ag (wr C60_b3) a a' → X0 (gt a' 0) (gt a' 5) w' → Q (.exit 0) a' w') (hE : HE Q E)
  (h : S60_b3 (gt a 0) (gt a 1) (gt a 5) (gt a 16) w N X0 E) : C60_b3.wpIn (Fw r) 0 P (Qs (wr C60_b3) a Q) a w :=
  piece' (HJ := Z0) (HL := Z0) hmix hs (by decide +kernel) (fun a w => N (a 0) (a 1) (a 5) (a 16) w) (fun _ _ => False) (J60_b3 N X0 E) E hN (fun _ _ _ h => h.elim)
  (fun i a' w' hag h => by
  unfold J60_b3 at h
  split at h <;> first | exact hX0 _ _ hag h | exact h.elim) hE
  trivial (Eq.mpr (K60_b3 (gt a) w N X0 E) h)
def S60_l3 (v0 v1 v5 v16 : Value) (w : World) (X0 : K2) (E : Ev) : Prop :=
  ∃ (I : World → Prop) (μ : World → Nat), I w ∧ ∀ (w : World), I w → S60_b3 v0 v1 v5 v16 w (fun x0 x1 x5 x16 y => I y ∧ μ y < μ w) X0 E
theorem T60_l3 (hs : a.tmps.size = 37) (X0 : K2) (E : Ev) (hX0 : ∀ a' w', Ag (wr (Code.loop C60_b3)) a a' → X0 (gt a' 0) (gt a' 5) w' → Q (.exit 0) a' w') (hE : HE Q E)
  (h : S60_l3 (gt a 0) (gt a 1) (gt a 5) (gt a 16) w X0 E) : (Code.loop C60_b3).wpIn (Fw r) 0 P (Qs (wr (Code.loop C60_b3)) a Q) a w := by
  obtain ⟨I, μ, h0, hr⟩ := h
  refine loop_piece (c := C60_b3) (fun a w => I w) (fun a w => μ w) h0 fun a' w' hag hI => ?_
  have h' := hr w' hI
  rw [← hag.get 0 (by decide +kernel)] at h'
  rw [← hag.get 1 (by decide +kernel)] at h'
  rw [← hag.get 5 (by decide +kernel)] at h'
  rw [← hag.get 16 (by decide +kernel)] at h'
  exact T60_b3 a' w' (hag.size.trans hs) (fun x0 x1 x5 x16 y => I y ∧ μ y < μ w') X0 E (fun _ _ _ h => h) (fun a1 w1 hag1 h => hX0 a1 w1 (hag.trans hag1) h) hE h'
def S60_0 (v0 v1 : Value) (w : World) (R : K1) (E : Ev) : Prop :=
  X P (.nilCheck v0) 0 w (fun t8 w1 =>
  X P (.fieldAddr 142 t8 1) 0 w1 (fun t9 w2 =>
  X P (.load 139 t9) 139 w2 (fun t10 w3 =>
  X P (.callB .len #[139] #[false] #[t10]) 3 w3 (fun t11 w4 =>
  X P (.nilCheck v0) 0 w4 (fun t13 w5 =>
  X P (.fieldAddr 142 t13 1) 0 w5 (fun t14 w6 =>
  X P (.load 139 t14) 139 w6 (fun t15 w7 =>
  X P (.range 139 t15) 0 w7 (fun t16 w8 =>
  S60_l3 v0 v1 t11 t16 w8 (fun x0 x5 y => S60_j7 x0 x5 y R E) E) E) E) E) E) E) E) E) E
noncomputable def C60_0 : Code := bodyOf Tryz.f60
noncomputable def HJ60_0 (R : K1) (E : Ev) : Cut := fun i => match i with | some 7 => some (fun a w => S60_j7 (a 0) (a 5) w R E) | _ => none
noncomputable def HL60_0 (R : K1) (E : Ev) : Cut := fun i => match i with | some 3 => some (fun a w => S60_l3 (a 0) (a 1) (a 5) (a 16) w (fun x0 x5 y => S60_j7 x0 x5 y R E) E) | _ => none
theorem K60_0 (g : Env) (w : World) (R : K1) (E : Ev) :
  vcF P (HJ60_0 R E) (HL60_0 R E) C60_0 (QC (fun _ _ => False) (fun a w => resQ P Tryz.f60.results a w R) Y0 E) g w = S60_0 (g 0) (g 1) w R E := by kernel_rfl
theorem T60_0 (hs : a.tmps.size = 37) (R : K1) (E : Ev) (hR : ∀ a' w', Ag (wr C60_0) a a' → resQ P Tryz.f60.results (gt a') w' R → Q .ret a' w') (hE : HE Q E)
  (h : S60_0 (gt a 0) (gt a 1) w R E) : C60_0.wpIn (Fw r) 0 P (Qs (wr C60_0) a Q) a w :=
  piece' (HJ := HJ60_0 R E) (HL := HL60_0 R E) hmix hs (by decide +kernel) (fun _ _ => False) (fun a w => resQ P Tryz.f60.results a w R) Y0 E (fun _ _ _ h => h.elim) hR
  (fun _ _ _ _ h => h.elim) hE
  ⟨pay (c := Code.loop C60_b3) (W := wr C60_0) (h := fun a w => S60_l3 (a 0) (a 1) (a 5) (a 16) w (fun x0 x5 y => S60_j7 x0 x5 y R E) E) (by decide +kernel) fun a w hsz h => T60_l3 a w (hsz.trans hs) (fun x0 x5 y => S60_j7 x0 x5 y R E) E (fun _ _ _ h => h) (fun _ _ _ h => h) h, pay (c := C60_j7) (W := wr C60_0) (h := fun a w => S60_j7 (a 0) (a 5) w R E) (by decide +kernel) fun a w hsz h => T60_j7 a w (hsz.trans hs) R E (fun _ _ _ h => h) (fun _ _ _ h => h) h, trivial⟩ (Eq.mpr (K60_0 (gt a) w R E) h)
theorem F60 (a0 a1 : Value) (w : World) (R : K1) (E : Ev) (h : S60_0 a0 a1 w R E) : C P 60 #[a0, a1] w R E := by
  have e : S60_0 (gt (A0 Tryz.f60.ntmps #[a0, a1]) 0) (gt (A0 Tryz.f60.ntmps #[a0, a1]) 1) w R E = S60_0 a0 a1 w R E := by kernel_rfl
  have t := T60_0 (r := none) (Q := QF P Tryz.f60 R E) (A0 Tryz.f60.ntmps #[a0, a1]) w (by kernel_rfl) R E (fun _ _ _ h => h) (fun _ _ _ h => h) (Eq.mpr e h)
  exact C_of (c := C60_0) Tryz.func60 (by kernel_rfl) t
def S61_j6 (v4 : Value) (w : World) (R : K1) (E : Ev) : Prop :=
  X P (.build 60 #[]) 60 w (fun t26 w1 =>
  X P (.store 60 v4 t26) 0 w1 (fun _ w2 =>
  XRes P [(v4, some 60), ((.bool false), none)] w2 R) E) E
noncomputable def C61_j6 : Code := cR (cR (bodyOf Tryz.f61))
theorem K61_j6 (g : Env) (w : World) (R : K1) (E : Ev) :
  vcF P Z0 Z0 C61_j6 (QC (fun _ _ => False) (fun a w => resQ P Tryz.f61.results a w R) Y0 E) g w = S61_j6 (g 4) w R E := by kernel_rfl
theorem T61_j6 (hs : a.tmps.size = 27) (R : K1) (E : Ev) (hR : ∀ a' w', Ag (wr C61_j6) a a' → resQ P Tryz.f61.results (gt a') w' R → Q .ret a' w') (hE : HE Q E)
  (h : S61_j6 (gt a 4) w R E) : C61_j6.wpIn (Fw r) 0 P (Qs (wr C61_j6) a Q) a w :=
  piece' (HJ := Z0) (HL := Z0) hmix hs (by decide +kernel) (fun _ _ => False) (fun a w => resQ P Tryz.f61.results a w R) Y0 E (fun _ _ _ h => h.elim) hR
  (fun _ _ _ _ h => h.elim) hE
  trivial (Eq.mpr (K61_j6 (gt a) w R E) h)
def S61_b2 (v0 v1 v4 v6 : Value) (w : World) (N : K4) (X0 : K1) (R : K1) (E : Ev) : Prop :=
  X P (.callB .len #[57] #[false] #[v0]) 3 w (fun t9 w1 =>
  X P (.bin .lss 3 false false v6 t9) 4 w1 (fun t10 w2 =>
  Cnd t10 (
  X P (.bin .quo 38 false true v1 (.int .u32 4096)) 38 w2 (fun t14 w3 =>
  X P (.indexAddr 57 v0 v6) 0 w3 (fun t17 w4 =>
  X P (.fieldAddr 60 t17 0) 0 w4 (fun t18 w5 =>
  X P (.load 38 t18) 38 w5 (fun t19 w6 =>
  X P (.bin .quo 38 false true t19 (.int .u32 4096)) 38 w6 (fun t20 w7 =>
  X P (.bin .eql 38 false false t14 t20) 4 w7 (fun t21 w8 =>
  Cnd t21 (
  X P (.indexAddr 57 v0 v6) 0 w8 (fun t24 w9 =>
  X P (.load 60 t24) 60 w9 (fun t25 w10 =>
  X P (.store 60 v4 t25) 0 w10 (fun _ w11 =>
  XRes P [(v4, some 60), ((.bool true), none)] w11 R) E) E) E) (
  X P (.bin .add 3 false true v6 (.int .i64 1)) 3 w8 (fun t12 w9 =>
  N v0 v1 v4 t12 w9) E)) E) E) E) E) E) E) (
  X0 v4 w2)) E) E
noncomputable def C61_b2 : Code := cB (cB (cR (cL (cR (bodyOf Tryz.f61)))))
noncomputable def J61_b2 (N : K4) (X0 : K1) (R : K1) (E : Ev) : Nat → Env → World → Prop := fun i a w => match i with | 0 => X0 (a 4) w | _ => False
theorem K61_b2 (g : Env) (w : World) (N : K4) (X0 : K1) (R : K1) (E : Ev) :
  vcF P Z0 Z0 C61_b2 (QC (fun a w => N (a 0) (a 1) (a 4) (a 6) w) (fun a w => resQ P Tryz.f61.results a w R) (J61_b2 N X0 R E) E) g w = S61_b2 (g 0) (g 1) (g 4) (g 6) w N X0 R E := by kernel_rfl
theorem T61_b2 (hs : a.tmps.size = 27) (N : K4) (X0 : K1) (R : K1) (E : Ev) (hN : ∀ a' w', Ag (wr C61_b2) a a' → N (gt a' 0) (gt a' 1) (gt a' 4) (gt a' 6) w' → Q .normal a' w') (hX0 : ∀ a' w', Ag (wr C61_b2) a a' → X0 (gt a' 4) w' → Q (.exit 0) a' w') (hR : ∀ a' w', Ag (wr C61_b2) a a' → resQ P Tryz.f61.results (gt a') w' R → Q .ret a' w') (hE : HE Q E)
  (h : S61_b2 (gt a 0) (gt a 1) (gt a 4) (gt a 6) w N X0 R E) : C61_b2.wpIn (Fw r) 0 P (Qs (wr C61_b2) a Q) a w :=
  piece' (HJ := Z0) (HL := Z0) hmix hs (by decide +kernel) (fun a w => N (a 0) (a 1) (a 4) (a 6) w) (fun a w => resQ P Tryz.f61.results a w R) (J61_b2 N X0 R E) E hN hR
  (fun i a' w' hag h => by
  unfold J61_b2 at h
  split at h <;> first | exact hX0 _ _ hag h | exact h.elim) hE
  trivial (Eq.mpr (K61_b2 (gt a) w N X0 R E) h)
def S61_l2 (v0 v1 v4 v6 : Value) (w : World) (X0 : K1) (R : K1) (E : Ev) : Prop :=
  ∃ (I : K1) (μ : Value → World → Nat), I v6 w ∧ ∀ (v6 : Value) (w : World), I v6 w → S61_b2 v0 v1 v4 v6 w (fun x0 x1 x4 x6 y => I x6 y ∧ μ x6 y < μ v6 w) X0 R E
theorem T61_l2 (hs : a.tmps.size = 27) (X0 : K1) (R : K1) (E : Ev) (hX0 : ∀ a' w', Ag (wr (Code.loop C61_b2)) a a' → X0 (gt a' 4) w' → Q (.exit 0) a' w') (hR : ∀ a' w', Ag (wr (Code.loop C61_b2)) a a' → resQ P Tryz.f61.results (gt a') w' R → Q .ret a' w') (hE : HE Q E)
  (h : S61_l2 (gt a 0) (gt a 1) (gt a 4) (gt a 6) w X0 R E) : (Code.loop C61_b2).wpIn (Fw r) 0 P (Qs (wr (Code.loop C61_b2)) a Q) a w := by
  obtain ⟨I, μ, h0, hr⟩ := h
  refine loop_piece (c := C61_b2) (fun a w => I (gt a 6) w) (fun a w => μ (gt a 6) w) h0 fun a' w' hag hI => ?_
  have h' := hr (gt a' 6) w' hI
  rw [← hag.get 0 (by decide +kernel)] at h'
  rw [← hag.get 1 (by decide +kernel)] at h'
  rw [← hag.get 4 (by decide +kernel)] at h'
  exact T61_b2 a' w' (hag.size.trans hs) (fun x0 x1 x4 x6 y => I x6 y ∧ μ x6 y < μ (gt a' 6) w') X0 R E (fun _ _ _ h => h) (fun a1 w1 hag1 h => hX0 a1 w1 (hag.trans hag1) h) (fun a1 w1 hag1 h => hR a1 w1 (hag.trans hag1) h) hE h'
def S61_0 (v0 v1 : Value) (w : World) (R : K1) (E : Ev) : Prop :=
  X P (.alloc 60) 0 w (fun t4 w1 =>
  S61_l2 v0 v1 t4 (.int .i64 0) w1 (fun x4 y => S61_j6 x4 y R E) R E) E
noncomputable def C61_0 : Code := bodyOf Tryz.f61
noncomputable def HJ61_0 (R : K1) (E : Ev) : Cut := fun i => match i with | some 6 => some (fun a w => S61_j6 (a 4) w R E) | _ => none
noncomputable def HL61_0 (R : K1) (E : Ev) : Cut := fun i => match i with | some 2 => some (fun a w => S61_l2 (a 0) (a 1) (a 4) (a 6) w (fun x4 y => S61_j6 x4 y R E) R E) | _ => none
theorem K61_0 (g : Env) (w : World) (R : K1) (E : Ev) :
  vcF P (HJ61_0 R E) (HL61_0 R E) C61_0 (QC (fun _ _ => False) (fun a w => resQ P Tryz.f61.results a w R) Y0 E) g w = S61_0 (g 0) (g 1) w R E := by kernel_rfl
theorem T61_0 (hs : a.tmps.size = 27) (R : K1) (E : Ev) (hR : ∀ a' w', Ag (wr C61_0) a a' → resQ P Tryz.f61.results (gt a') w' R → Q .ret a' w') (hE : HE Q E)
  (h : S61_0 (gt a 0) (gt a 1) w R E) : C61_0.wpIn (Fw r) 0 P (Qs (wr C61_0) a Q) a w :=
  piece' (HJ := HJ61_0 R E) (HL := HL61_0 R E) hmix hs (by decide +kernel) (fun _ _ => False) (fun a w => resQ P Tryz.f61.results a w R) Y0 E (fun _ _ _ h => h.elim) hR
  (fun _ _ _ _ h => h.elim) hE
  ⟨pay (c := Code.loop C61_b2) (W := wr C61_0) (h := fun a w => S61_l2 (a 0) (a 1) (a 4) (a 6) w (fun x4 y => S61_j6 x4 y R E) R E) (by decide +kernel) fun a w hsz h => T61_l2 a w (hsz.trans hs) (fun x4 y => S61_j6 x4 y R E) R E (fun _ _ _ h => h) (fun _ _ _ h => h) (fun _ _ _ h => h) h, pay (c := C61_j6) (W := wr C61_0) (h := fun a w => S61_j6 (a 4) w R E) (by decide +kernel) fun a w hsz h => T61_j6 a w (hsz.trans hs) R E (fun _ _ _ h => h) (fun _ _ _ h => h) h, trivial⟩ (Eq.mpr (K61_0 (gt a) w R E) h)
theorem F61 (a0 a1 : Value) (w : World) (R : K1) (E : Ev) (h : S61_0 a0 a1 w R E) : C P 61 #[a0, a1] w R E := by
  have e : S61_0 (gt (A0 Tryz.f61.ntmps #[a0, a1]) 0) (gt (A0 Tryz.f61.ntmps #[a0, a1]) 1) w R E = S61_0 a0 a1 w R E := by kernel_rfl
  have t := T61_0 (r := none) (Q := QF P Tryz.f61 R E) (A0 Tryz.f61.ntmps #[a0, a1]) w (by kernel_rfl) R E (fun _ _ _ h => h) (fun _ _ _ h => h) (Eq.mpr e h)
  exact C_of (c := C61_0) Tryz.func61 (by kernel_rfl) t
def S62_j5 (v11 v12 v13 : Value) (w : World) (R : K1) (E : Ev) : Prop :=
  X P (.load 34 v11) 34 w (fun t23 w1 =>
  R (Value.tuple #[t23, v12, v13]) w1) E
noncomputable def C62_j5 : Code := cR (cR (cR (cR (bodyOf Tryz.f62))))
theorem K62_j5 (g : Env) (w : World) (R : K1) (E : Ev) :
  vcF P Z0 Z0 C62_j5 (QC (fun _ _ => False) (fun a w => resQ P Tryz.f62.results a w R) Y0 E) g w = S62_j5 (g 11) (g 12) (g 13) w R E := by kernel_rfl
theorem T62_j5 (hs : a.tmps.size = 26) (R : K1) (E : Ev) (hR : ∀ a' w', Ag (wr C62_j5) a a' → resQ P Tryz.f62.results (gt a') w' R → Q .ret a' w') (hE : HE Q E)
  (h : S62_j5 (gt a 11) (gt a 12) (gt a 13) w R E) : C62_j5.wpIn (Fw r) 0 P (Qs (wr C62_j5) a Q) a w :=
  piece' (HJ := Z0) (HL := Z0) hmix hs (by decide +kernel) (fun _ _ => False) (fun a w => resQ P Tryz.f62.results a w R) Y0 E (fun _ _ _ h => h.elim) hR
  (fun _ _ _ _ h => h.elim) hE
  trivial (Eq.mpr (K62_j5 (gt a) w R E) h)
def S62_0 (v0 v1 v2 v3 : Value) (w : World) (R : K1) (E : Ev) : Prop :=
  X P (.box 44 v0) 0 w (fun t4 w1 =>
  X P (.box 3 v1) 0 w1 (fun t5 w2 =>
  X P (.alloc 34) 0 w2 (fun t11 w3 =>
  X P (.mkFunc (Fn.func 83) #[] #[t4, t5, t11]) 180 w3 (fun t17 w4 =>
  X P (.callF 82 #[v2, v3, t17]) 63 w4 (fun t18 w5 =>
  X P (.extract t18 0) 3 w5 (fun t19 w6 =>
  X P (.extract t18 1) 49 w6 (fun t20 w7 =>
  X P (.bin .neq 49 false true t20 (.int .i64 0)) 4 w7 (fun t22 w8 =>
  Cnd t22 (
  X P (.store 34 t11 (.slice none 0 0)) 0 w8 (fun _ w9 =>
  S62_j5 t11 t19 t20 w9 R E) E) (
  S62_j5 t11 t19 t20 w8 R E)) E) E) E) E) E) E) E) E
noncomputable def C62_0 : Code := bodyOf Tryz.f62
noncomputable def HJ62_0 (R : K1) (E : Ev) : Cut := fun i => match i with | some 5 => some (fun a w => S62_j5 (a 11) (a 12) (a 13) w R E) | _ => none
theorem K62_0 (g : Env) (w : World) (R : K1) (E : Ev) :
  vcF P (HJ62_0 R E) Z0 C62_0 (QC (fun _ _ => False) (fun a w => resQ P Tryz.f62.results a w R) Y0 E) g w = S62_0 (g 0) (g 1) (g 2) (g 3) w R E := by kernel_rfl
theorem T62_0 (hs : a.tmps.size = 26) (R : K1) (E : Ev) (hR : ∀ a' w', Ag (wr C62_0) a a' → resQ P Tryz.f62.results (gt a') w' R → Q .ret a' w') (hE : HE Q E)
  (h : S62_0 (gt a 0) (gt a 1) (gt a 2) (gt a 3) w R E) : C62_0.wpIn (Fw r) 0 P (Qs (wr C62_0) a Q) a w :=
  piece' (HJ := HJ62_0 R E) (HL := Z0) hmix hs (by decide +kernel) (fun _ _ => False) (fun a w => resQ P Tryz.f62.results a w R) Y0 E (fun _ _ _ h => h.elim) hR
  (fun _ _ _ _ h => h.elim) hE
  ⟨pay (c := C62_j5) (W := wr C62_0) (h := fun a w => S62_j5 (a 11) (a 12) (a 13) w R E) (by decide +kernel) fun a w hsz h => T62_j5 a w (hsz.trans hs) R E (fun _ _ _ h => h) (fun _ _ _ h => h) h, trivial⟩ (Eq.mpr (K62_0 (gt a) w R E) h)
theorem F62 (a0 a1 a2 a3 : Value) (w : World) (R : K1) (E : Ev) (h : S62_0 a0 a1 a2 a3 w R E) : C P 62 #[a0, a1, a2, a3] w R E := by
  have e : S62_0 (gt (A0 Tryz.f62.ntmps #[a0, a1, a2, a3]) 0) (gt (A0 Tryz.f62.ntmps #[a0, a1, a2, a3]) 1) (gt (A0 Tryz.f62.ntmps #[a0, a1, a2, a3]) 2) (gt (A0 Tryz.f62.ntmps #[a0, a1, a2, a3]) 3) w R E = S62_0 a0 a1 a2 a3 w R E := by kernel_rfl
  have t := T62_0 (r := none) (Q := QF P Tryz.f62 R E) (A0 Tryz.f62.ntmps #[a0, a1, a2, a3]) w (by kernel_rfl) R E (fun _ _ _ h => h) (fun _ _ _ h => h) (Eq.mpr e h)
  exact C_of (c := C62_0) Tryz.func62 (by kernel_rfl) t
def S63_j11 (v11 : Value) (w : World) (R : K1) (E : Ev) : Prop :=
  R (Value.tuple #[v11, (.int .i64 0)]) w
noncomputable def C63_j11 : Code := cR (cR (cR (cR (cR (bodyOf Tryz.f63)))))
theorem K63_j11 (g : Env) (w : World) (R : K1) (E : Ev) :
  vcF P Z0 Z0 C63_j11 (QC (fun _ _ => False) (fun a w => resQ P Tryz.f63.results a w R) Y0 E) g w = S63_j11 (g 11) w R E := by kernel_rfl
theorem T63_j11 (hs : a.tmps.size = 59) (R : K1) (E : Ev) (hR : ∀ a' w', Ag (wr C63_j11) a a' → resQ P Tryz.f63.results (gt a') w' R → Q .ret a' w') (hE : HE Q E)
  (h : S63_j11 (gt a 11) w R E) : C63_j11.wpIn (Fw r) 0 P (Qs (wr C63_j11) a Q) a w :=
  piece' (HJ := Z0) (HL := Z0) hmix hs (by decide +kernel) (fun _ _ => False) (fun a w => resQ P Tryz.f63.results a w R) Y0 E (fun _ _ _ h => h.elim) hR
  (fun _ _ _ _ h => h.elim) hE
  trivial (Eq.mpr (K63_j11 (gt a) w R E) h)
def S63_b6 (v3 v4 v11 v27 v28 v29 : Value) (w : World) (N : K6) (X0 : K1) (E : Ev) : Prop :=
  X P (.bin .lss 3 false false v29 v28) 0 w (fun t30 w1 =>
  Cnd t30 (
  X P (.indexAddr 117 v27 v29) 0 w1 (fun t32 w2 =>
  X P (.load 38 t32) 38 w2 (fun t33 w3 =>
  X P (.load 44 v4) 44 w3 (fun t35 w4 =>
  X P (.nilCheck t35) 0 w4 (fun t36 w5 =>
  X P (.fieldAddr 85 t36 1) 0 w5 (fun t37 w6 =>
  X P (.load 42 t37) 42 w6 (fun t38 w7 =>
  X P (.callF 72 #[t38, t33, (.bool true)]) 166 w7 (fun t40 w8 =>
  X P (.field 166 t40 2) 3 w8 (fun t41 w9 =>
  X P (.bin .add 3 false false v11 t41) 3 w9 (fun t42 w10 =>
  XQ P (.load 44 v4) 44 (drw w10) (fun t43 =>
  XQ P (.nilCheck t43) 0 (drw w10) (fun t44 =>
  XQ P (.fieldAddr 85 t44 0) 0 (drw w10) (fun t45 =>
  XQ P (.load 41 t45) 41 (drw w10) (fun t46 =>
  XQ P (.bin .mul 3 true false (.int .i64 4) v29) 3 (drw w10) (fun t50 =>
  XQ P (.bin .mul 3 true false (.int .i64 4) v29) 3 (drw w10) (fun t52 =>
  XQ P (.bin .add 3 false true t52 (.int .i64 4)) 3 (drw w10) (fun t53 =>
  XQ P (.slice 34 v3 (some t50) (some t53) none) 34 (drw w10) (fun t54 =>
  (X P (.buildSlice 208 1 #[(0, t54)]) 208 (drw w10) (fun t55 w11 =>
  (XQ P (.load 41 t45) 41 w11 (fun v => v = t46)) ∧
  (XQ P (.fieldAddr 85 t44 0) 0 w11 (fun v => v = t45)) ∧
  (XQ P (.nilCheck t43) 0 w11 (fun v => v = t44)) ∧
  (XQ P (.load 44 v4) 44 w11 (fun v => v = t43)) ∧
  (X P (.callF 85 #[t46, t33, t55]) 53 w11 (fun t56 w12 =>
  X P (.bin .add 3 false true v29 (.int .i64 1)) 3 w12 (fun t57 w13 =>
  N v3 v4 t42 v27 v28 t57 w13) E) E)) E)))))))))) E) E) E) E) E) E) E) E) E) (
  X0 v11 w1)) E
noncomputable def C63_b6 : Code := cB (cB (cR (cL (cR (cR (cR (cR (bodyOf Tryz.f63))))))))
noncomputable def J63_b6 (N : K6) (X0 : K1) (E : Ev) : Nat → Env → World → Prop := fun i a w => match i with | 0 => X0 (a 11) w | _ => False
theorem K63_b6 (g : Env) (w : World) (N : K6) (X0 : K1) (E : Ev) :
  vcF P Z0 Z0 C63_b6 (QC (fun a w => N (a 3) (a 4) (a 11) (a 27) (a 28) (a 29) w) (fun _ _ => False) (J63_b6 N X0 E) E) g w = S63_b6 (g 3) (g 4) (g 11) (g 27) (g 28) (g 29) w N X0 E := by kernel_rfl
theorem T63_b6 (hs : a.tmps.size = 59) (N : K6) (X0 : K1) (E : Ev) (hN : ∀ a' w', Ag (wr C63_b6) a a' → N (gt a' 3) (gt a' 4) (gt a' 11) (gt a' 27) (gt a' 28) (gt a' 29) w' → Q .normal a' w') (hX0 : ∀ a' w', Ag (wr C63_b6) a a' → X0 (gt a' 11) w' → Q (.exit 0) a' w') (hE : HE Q E)
  (h : S63_b6 (gt a 3) (gt a 4) (gt a 11) (gt a 27) (gt a 28) (gt a 29) w N X0 E) : C63_b6.wpIn (Fw r) 0 P (Qs (wr C63_b6) a Q) a w :=
  piece' (HJ := Z0) (HL := Z0) hmix hs (by decide +kernel) (fun a w => N (a 3) (a 4) (a 11) (a 27) (a 28) (a 29) w) (fun _ _ => False) (J63_b6 N X0 E) E hN (fun _ _ _ h => h.elim)
  (fun i a' w' hag h => by
  unfold J63_b6 at h
  split at h <;> first | exact hX0 _ _ hag h | exact h.elim) hE
  trivial (Eq.mpr (K63_b6 (gt a) w N X0 E) h)
def S63_l6 (v3 v4 v11 v27 v28 v29 : Value) (w : World) (X0 : K1) (E : Ev) : Prop :=
  ∃ (I : K2) (μ : Value → Value → World → Nat), I v11 v29 w ∧ ∀ (v11 v29 : Value) (w : World), I v11 v29 w → S63_b6 v3 v4 v11 v27 v28 v29 w (fun x3 x4 x11 x27 x28 x29 y => I x11 x29 y ∧ μ x11 x29 y < μ v11 v29 w) X0 E
theorem T63_l6 (hs : a.tmps.size = 59) (X0 : K1) (E : Ev) (hX0 : ∀ a' w', Ag (wr (Code.loop C63_b6)) a a' → X0 (gt a' 11) w' → Q (.exit 0) a' w') (hE : HE Q E)
  (h : S63_l6 (gt a 3) (gt a 4) (gt a 11) (gt a 27) (gt a 28) (gt a 29) w X0 E) : (Code.loop C63_b6).wpIn (Fw r) 0 P (Qs (wr (Code.loop C63_b6)) a Q) a w := by
  obtain ⟨I, μ, h0, hr⟩ := h
  refine loop_piece (c := C63_b6) (fun a w => I (gt a 11) (gt a 29) w) (fun a w => μ (gt a 11) (gt a 29) w) h0 fun a' w' hag hI => ?_
  have h' := hr (gt a' 11) (gt a' 29) w' hI
  rw [← hag.get 3 (by decide +kernel)] at h'
  rw [← hag.get 4 (by decide +kernel)] at h'
  rw [← hag.get 27 (by decide +kernel)] at h'
  rw [← hag.get 28 (by decide +kernel)] at h'
  exact T63_b6 a' w' (hag.size.trans hs) (fun x3 x4 x11 x27 x28 x29 y => I x11 x29 y ∧ μ x11 x29 y < μ (gt a' 11) (gt a' 29) w') X0 E (fun _ _ _ h => h) (fun a1 w1 hag1 h => hX0 a1 w1 (hag.trans hag1) h) hE h'
def S63_0 (v0 v1 v2 v3 : Value) (w : World) (R : K1) (E : Ev) : Prop :=
  X P (.box 44 v0) 0 w (fun t4 w1 =>
  X P (.box 3 v1) 0 w1 (fun t5 w2 =>
  X P (.alloc 117) 0 w2 (fun t10 w3 =>
  X P (.callB .len #[34] #[false] #[v3]) 3 w3 (fun t18 w4 =>
  X P (.mkFunc (Fn.func 84) #[] #[t4, t5, t10]) 180 w4 (fun t19 w5 =>
  X P (.callF 82 #[v2, t18, t19]) 63 w5 (fun t20 w6 =>
  X P (.extract t20 0) 3 w6 (fun t21 w7 =>
  X P (.extract t20 1) 49 w7 (fun t22 w8 =>
  X P (.bin .neq 49 false true t22 (.int .i64 0)) 4 w8 (fun t24 w9 =>
  Cnd t24 (
  R (Value.tuple #[t21, t22]) w9) (
  X P (.load 117 t10) 117 w9 (fun t27 w10 =>
  X P (.callB .len #[117] #[false] #[t27]) 3 w10 (fun t28 w11 =>
  S63_l6 v3 t4 t21 t27 t28 (.int .i64 0) w11 (fun x11 y => S63_j11 x11 y R E) E) E) E)) E) E) E) E) E) E) E) E) E
noncomputable def C63_0 : Code := bodyOf Tryz.f63
noncomputable def HJ63_0 (R : K1) (E : Ev) : Cut := fun i => match i with | some 11 => some (fun a w => S63_j11 (a 11) w R E) | _ => none
noncomputable def HL63_0 (R : K1) (E : Ev) : Cut := fun i => match i with | some 6 => some (fun a w => S63_l6 (a 3) (a 4) (a 11) (a 27) (a 28) (a 29) w (fun x11 y => S63_j11 x11 y R E) E) | _ => none
theorem K63_0 (g : Env) (w : World) (R : K1) (E : Ev) :
  vcF P (HJ63_0 R E) (HL63_0 R E) C63_0 (QC (fun _ _ => False) (fun a w => resQ P Tryz.f63.results a w R) Y0 E) g w = S63_0 (g 0) (g 1) (g 2) (g 3) w R E := by kernel_rfl
theorem T63_0 (hs : a.tmps.size = 59) (R : K1) (E : Ev) (hR : ∀ a' w', Ag (wr C63_0) a a' → resQ P Tryz.f63.results (gt a') w' R → Q .ret a' w') (hE : HE Q E)
  (h : S63_0 (gt a 0) (gt a 1) (gt a 2) (gt a 3) w R E) : C63_0.wpIn (Fw r) 0 P (Qs (wr C63_0) a Q) a w :=
  piece' (HJ := HJ63_0 R E) (HL := HL63_0 R E) hmix hs (by decide +kernel) (fun _ _ => False) (fun a w => resQ P Tryz.f63.results a w R) Y0 E (fun _ _ _ h => h.elim) hR
  (fun _ _ _ _ h => h.elim) hE
  ⟨pay (c := Code.loop C63_b6) (W := wr C63_0) (h := fun a w => S63_l6 (a 3) (a 4) (a 11) (a 27) (a 28) (a 29) w (fun x11 y => S63_j11 x11 y R E) E) (by decide +kernel) fun a w hsz h => T63_l6 a w (hsz.trans hs) (fun x11 y => S63_j11 x11 y R E) E (fun _ _ _ h => h) (fun _ _ _ h => h) h, pay (c := C63_j11) (W := wr C63_0) (h := fun a w => S63_j11 (a 11) w R E) (by decide +kernel) fun a w hsz h => T63_j11 a w (hsz.trans hs) R E (fun _ _ _ h => h) (fun _ _ _ h => h) h, trivial⟩ (Eq.mpr (K63_0 (gt a) w R E) h)
theorem F63 (a0 a1 a2 a3 : Value) (w : World) (R : K1) (E : Ev) (h : S63_0 a0 a1 a2 a3 w R E) : C P 63 #[a0, a1, a2, a3] w R E := by
  have e : S63_0 (gt (A0 Tryz.f63.ntmps #[a0, a1, a2, a3]) 0) (gt (A0 Tryz.f63.ntmps #[a0, a1, a2, a3]) 1) (gt (A0 Tryz.f63.ntmps #[a0, a1, a2, a3]) 2) (gt (A0 Tryz.f63.ntmps #[a0, a1, a2, a3]) 3) w R E = S63_0 a0 a1 a2 a3 w R E := by kernel_rfl
  have t := T63_0 (r := none) (Q := QF P Tryz.f63 R E) (A0 Tryz.f63.ntmps #[a0, a1, a2, a3]) w (by kernel_rfl) R E (fun _ _ _ h => h) (fun _ _ _ h => h) (Eq.mpr e h)
  exact C_of (c := C63_0) Tryz.func63 (by kernel_rfl) t
def S64_j8 (v3 : Value) (w : World) (R : K1) (E : Ev) : Prop :=
  R v3 w
noncomputable def C64_j8 : Code := cR (cR (cR (bodyOf Tryz.f64)))
theorem K64_j8 (g : Env) (w : World) (R : K1) (E : Ev) :
  vcF P Z0 Z0 C64_j8 (QC (fun _ _ => False) (fun a w => resQ P Tryz.f64.results a w R) Y0 E) g w = S64_j8 (g 3) w R E := by kernel_rfl
theorem T64_j8 (hs : a.tmps.size = 19) (R : K1) (E : Ev) (hR : ∀ a' w', Ag (wr C64_j8) a a' → resQ P Tryz.f64.results (gt a') w' R → Q .ret a' w') (hE : HE Q E)
  (h : S64_j8 (gt a 3) w R E) : C64_j8.wpIn (Fw r) 0 P (Qs (wr C64_j8) a Q) a w :=
  piece' (HJ := Z0) (HL := Z0) hmix hs (by decide +kernel) (fun _ _ => False) (fun a w => resQ P Tryz.f64.results a w R) Y0 E (fun _ _ _ h => h.elim) hR
  (fun _ _ _ _ h => h.elim) hE
  trivial (Eq.mpr (K64_j8 (gt a) w R E) h)
def S64_j7 (v3 v7 v8 v9 : Value) (w : World) (N : K4) (E : Ev) : Prop :=
  X P (.bin .add 3 false true v9 (.int .i64 1)) 3 w (fun t17 w1 =>
  N v3 v7 v8 t17 w1) E
noncomputable def C64_j7 : Code := cR (cR (cR (cB (cB (cR (cL (cR (cR (bodyOf Tryz.f64)))))))))
theorem K64_j7 (g : Env) (w : World) (N : K4) (E : Ev) :
  vcF P Z0 Z0 C64_j7 (QC (fun a w => N (a 3) (a 7) (a 8) (a 9) w) (fun _ _ => False) Y0 E) g w = S64_j7 (g 3) (g 7) (g 8) (g 9) w N E := by kernel_rfl
theorem T64_j7 (hs : a.tmps.size = 19) (N : K4) (E : Ev) (hN : ∀ a' w', Ag (wr C64_j7) a a' → N (gt a' 3) (gt a' 7) (gt a' 8) (gt a' 9) w' → Q .normal a' w') (hE : HE Q E)
  (h : S64_j7 (gt a 3) (gt a 7) (gt a 8) (gt a 9) w N E) : C64_j7.wpIn (Fw r) 0 P (Qs (wr C64_j7) a Q) a w :=
  piece' (HJ := Z0) (HL := Z0) hmix hs (by decide +kernel) (fun a w => N (a 3) (a 7) (a 8) (a 9) w) (fun _ _ => False) Y0 E hN (fun _ _ _ h => h.elim)
  (fun _ _ _ _ h => h.elim) hE
  trivial (Eq.mpr (K64_j7 (gt a) w N E) h)
def S64_b3 (v3 v7 v8 v9 : Value) (w : World) (N : K4) (X0 : K1) (E : Ev) : Prop :=
  X P (.bin .lss 3 false false v9 v8) 0 w (fun t10 w1 =>
  Cnd t10 (
  X P (.indexAddr 182 v7 v9) 0 w1 (fun t11 w2 =>
  X P (.load 185 t11) 185 w2 (fun t12 w3 =>
  X P (.alloc 185) 0 w3 (fun t5 w4 =>
  X P (.store 185 t5 t12) 0 w4 (fun _ w5 =>
  X P (.fieldAddr 185 t5 2) 0 w5 (fun t13 w6 =>
  X P (.load 4 t13) 4 w6 (fun t14 w7 =>
  Cnd t14 (
  X P (.bin .add 3 false true v3 (.int .i64 1)) 3 w7 (fun t16 w8 =>
  S64_j7 t16 v7 v8 v9 w8 N E) E) (
  S64_j7 v3 v7 v8 v9 w7 N E)) E) E) E) E) E) E) (
  X0 v3 w1)) E
noncomputable def C64_b3 : Code := cB (cB (cR (cL (cR (cR (bodyOf Tryz.f64))))))
noncomputable def HJ64_b3 (N : K4) (X0 : K1) (E : Ev) : Cut := fun i => match i with | some 7 => some (fun a w => S64_j7 (a 3) (a 7) (a 8) (a 9) w N E) | _ => none
noncomputable def J64_b3 (N : K4) (X0 : K1) (E : Ev) : Nat → Env → World → Prop := fun i a w => match i with | 0 => X0 (a 3) w | _ => False
theorem K64_b3 (g : Env) (w : World) (N : K4) (X0 : K1) (E : Ev) :
  vcF P (HJ64_b3 N X0 E) Z0 C64_b3 (QC (fun a w => N (a 3) (a 7) (a 8) (a 9) w) (fun _ _ => False) (J64_b3 N X0 E) E) g w = S64_b3 (g 3) (g 7) (g 8) (g 9) w N X0 E := by kernel_rfl
theorem T64_b3 (hs : a.tmps.size = 19) (N : K4) (X0 : K1) (E : Ev) (hN : ∀ a' w', Ag (wr C64_b3) a a' → N (gt a' 3) (gt a' 7) (gt a' 8) (gt a' 9) w' → Q .normal a' w') (hX0 : ∀ a' w', Ag (wr C64_b3) a a' → X0 (gt a' 3) w' → Q (.exit 0) a' w') (hE : HE Q E)
  (h : S64_b3 (gt a 3) (gt a 7) (gt a 8) (gt a 9) w N X0 E) : C64_b3.wpIn (Fw r) 0 P (Qs (wr C64_b3) a Q) a w :=
  piece' (HJ := HJ64_b3 N X0 E) (HL := Z0) hmix hs (by decide +kernel) (fun a w => N (a 3) (a 7) (a 8) (a 9) w) (fun _ _ => False) (J64_b3 N X0 E) E hN (fun _ _ _ h => h.elim)
  (fun i a' w' hag h => by
  unfold J64_b3 at h
  split at h <;> first | exact hX0 _ _ hag h | exact h.elim) hE
  ⟨pay (c := C64_j7) (W := wr C64_b3) (h := fun a w => S64_j7 (a 3) (a 7) (a 8) (a 9) w N E) (by decide +kernel) fun a w hsz h => T64_j7 a w (hsz.trans hs) N E (fun _ _ _ h => h) (fun _ _ _ h => h) h, trivial⟩ (Eq.mpr (K64_b3 (gt a) w N X0 E) h)
def S64_l3 (v3 v7 v8 v9 : Value) (w : World) (X0 : K1) (E : Ev) : Prop :=
  ∃ (I : K2) (μ : Value → Value → World → Nat), I v3 v9 w ∧ ∀ (v3 v9 : Value) (w : World), I v3 v9 w → S64_b3 v3 v7 v8 v9 w (fun x3 x7 x8 x9 y => I x3 x9 y ∧ μ x3 x9 y < μ v3 v9 w) X0 E
theorem T64_l3 (hs : a.tmps.size = 19) (X0 : K1) (E : Ev) (hX0 : ∀ a' w', Ag (wr (Code.loop C64_b3)) a a' → X0 (gt a' 3) w' → Q (.exit 0) a' w') (hE : HE Q E)
  (h : S64_l3 (gt a 3) (gt a 7) (gt a 8) (gt a 9) w X0 E) : (Code.loop C64_b3).wpIn (Fw r) 0 P (Qs (wr (Code.loop C64_b3)) a Q) a w := by
  obtain ⟨I, μ, h0, hr⟩ := h
  refine loop_piece (c := C64_b3) (fun a w => I (gt a 3) (gt a 9) w) (fun a w => μ (gt a 3) (gt a 9) w) h0 fun a' w' hag hI => ?_
  have h' := hr (gt a' 3) (gt a' 9) w' hI
  rw [← hag.get 7 (by decide +kernel)] at h'
  rw [← hag.get 8 (by decide +kernel)] at h'
  exact T64_b3 a' w' (hag.size.trans hs) (fun x3 x7 x8 x9 y => I x3 x9 y ∧ μ x3 x9 y < μ (gt a' 3) (gt a' 9) w') X0 E (fun _ _ _ h => h) (fun a1 w1 hag1 h => hX0 a1 w1 (hag.trans hag1) h) hE h'
def S64_0 (v0 : Value) (w : World) (R : K1) (E : Ev) : Prop :=
  X P (.callF 86 #[v0]) 182 w (fun t7 w1 =>
  X P (.callB .len #[182] #[false] #[t7]) 3 w1 (fun t8 w2 =>
  S64_l3 (.int .i64 0) t7 t8 (.int .i64 0) w2 (fun x3 y => S64_j8 x3 y R E) E) E) E
noncomputable def C64_0 : Code := bodyOf Tryz.f64
noncomputable def HJ64_0 (R : K1) (E : Ev) : Cut := fun i => match i with | some 8 => some (fun a w => S64_j8 (a 3) w R E) | _ => none
noncomputable def HL64_0 (R : K1) (E : Ev) : Cut := fun i => match i with | some 3 => some (fun a w => S64_l3 (a 3) (a 7) (a 8) (a 9) w (fun x3 y => S64_j8 x3 y R E) E) | _ => none
theorem K64_0 (g : Env) (w : World) (R : K1) (E : Ev) :
  vcF P (HJ64_0 R E) (HL64_0 R E) C64_0 (QC (fun _ _ => False) (fun a w => resQ P Tryz.f64.results a w R) Y0 E) g w = S64_0 (g 0) w R E := by kernel_rfl
theorem T64_0 (hs : a.tmps.size = 19) (R : K1) (E : Ev) (hR : ∀ a' w', Ag (wr C64_0) a a' → resQ P Tryz.f64.results (gt a') w' R → Q .ret a' w') (hE : HE Q E)
  (h : S64_0 (gt a 0) w R E) : C64_0.wpIn (Fw r) 0 P (Qs (wr C64_0) a Q) a w :=
  piece' (HJ := HJ64_0 R E) (HL := HL64_0 R E) hmix hs (by decide +kernel) (fun _ _ => False) (fun a w => resQ P Tryz.f64.results a w R) Y0 E (fun _ _ _ h => h.elim) hR
  (fun _ _ _ _ h => h.elim) hE
  ⟨pay (c := Code.loop C64_b3) (W := wr C64_0) (h := fun a w => S64_l3 (a 3) (a 7) (a 8) (a 9) w (fun x3 y => S64_j8 x3 y R E) E) (by decide +kernel) fun a w hsz h => T64_l3 a w (hsz.trans hs) (fun x3 y => S64_j8 x3 y R E) E (fun _ _ _ h => h) (fun _ _ _ h => h) h, pay (c := C64_j8) (W := wr C64_0) (h := fun a w => S64_j8 (a 3) w R E) (by decide +kernel) fun a w hsz h => T64_j8 a w (hsz.trans hs) R E (fun _ _ _ h => h) (fun _ _ _ h => h) h, trivial⟩ (Eq.mpr (K64_0 (gt a) w R E) h)
theorem F64 (a0 : Value) (w : World) (R : K1) (E : Ev) (h : S64_0 a0 w R E) : C P 64 #[a0] w R E := by
  have e : S64_0 (gt (A0 Tryz.f64.ntmps #[a0]) 0) w R E = S64_0 a0 w R E := by kernel_rfl
  have t := T64_0 (r := none) (Q := QF P Tryz.f64 R E) (A0 Tryz.f64.ntmps #[a0]) w (by kernel_rfl) R E (fun _ _ _ h => h) (fun _ _ _ h => h) (Eq.mpr e h)
  exact C_of (c := C64_0) Tryz.func64 (by kernel_rfl) t
def S65_0 (v0 v1 v2 v3 : Value) (w : World) (R : K1) (E : Ev) : Prop :=
  XQ P (.load 44 v1) 44 (drw w) (fun t6 =>
  XQ P (.nilCheck t6) 0 (drw w) (fun t7 =>
  XQ P (.fieldAddr 85 t7 0) 0 (drw w) (fun t8 =>
  XQ P (.load 41 t8) 41 (drw w) (fun t9 =>
  XQ P (.load 3 v2) 3 (drw w) (fun t11 =>
  (X P (.callF 66 #[t9, v0, t11]) 107 (drw w) (fun t12 w1 =>
  XQ P (.extract t12 0) 38 w1 (fun t13 =>
  XQ P (.extract t12 1) 53 w1 (fun t14 =>
  (X P (.store 38 v3 t13) 0 w1 (fun _ w2 =>
  (XQ P (.extract t12 1) 53 w2 (fun v => v = t14)) ∧
  R (Value.tuple #[]) w2) E)))) E))))))
noncomputable def C65_0 : Code := bodyOf Tryz.f65
theorem K65_0 (g : Env) (w : World) (R : K1) (E : Ev) :
  vcF P Z0 Z0 C65_0 (QC (fun a w => resQ P Tryz.f65.results a w R) (fun a w => resQ P Tryz.f65.results a w R) Y0 E) g w = S65_0 (g 0) (g 1) (g 2) (g 3) w R E := by kernel_rfl
theorem T65_0 (hs : a.tmps.size = 15) (R : K1) (E : Ev) (hN : ∀ a' w', Ag (wr C65_0) a a' → resQ P Tryz.f65.results (gt a') w' R → Q .normal a' w') (hR : ∀ a' w', Ag (wr C65_0) a a' → resQ P Tryz.f65.results (gt a') w' R → Q .ret a' w') (hE : HE Q E)
  (h : S65_0 (gt a 0) (gt a 1) (gt a 2) (gt a 3) w R E) : C65_0.wpIn (Fw r) 0 P (Qs (wr C65_0) a Q) a w :=
  piece' (HJ := Z0) (HL := Z0) hmix hs (by decide +kernel) (fun a w => resQ P Tryz.f65.results a w R) (fun a w => resQ P Tryz.f65.results a w R) Y0 E hN hR
  (fun _ _ _ _ h => h.elim) hE
  trivial (Eq.mpr (K65_0 (gt a) w R E) h)
theorem F65 (a0 a1 a2 a3 : Value) (w : World) (R : K1) (E : Ev) (h : S65_0 a0 a1 a2 a3 w R E) : C P 65 #[a0, a1, a2, a3] w R E := by
  have e : S65_0 (gt (A0 Tryz.f65.ntmps #[a0, a1, a2, a3]) 0) (gt (A0 Tryz.f65.ntmps #[a0, a1, a2, a3]) 1) (gt (A0 Tryz.f65.ntmps #[a0, a1, a2, a3]) 2) (gt (A0 Tryz.f65.ntmps #[a0, a1, a2, a3]) 3) w R E = S65_0 a0 a1 a2 a3 w R E := by kernel_rfl
  have t := T65_0 (r := none) (Q := QF P Tryz.f65 R E) (A0 Tryz.f65.ntmps #[a0, a1, a2, a3]) w (by kernel_rfl) R E (fun _ _ _ h => h) (fun _ _ _ h => h) (fun _ _ _ h => h) (Eq.mpr e h)
  exact C_of (c := C65_0) Tryz.func65 (by kernel_rfl) t
def S66_j10 (v9 : Value) (w : World) (R : K1) (E : Ev) : Prop :=
  R (Value.tuple #[v9, (.int .i64 0)]) w
noncomputable def C66_j10 : Code := cR (cR (cR (cR (bodyOf Tryz.f66))))
theorem K66_j10 (g : Env) (w : World) (R : K1) (E : Ev) :
  vcF P Z0 Z0 C66_j10 (QC (fun _ _ => False) (fun a w => resQ P Tryz.f66.results a w R) Y0 E) g w = S66_j10 (g 9) w R E := by kernel_rfl
theorem T66_j10 (hs : a.tmps.size = 38) (R : K1) (E : Ev) (hR : ∀ a' w', Ag (wr C66_j10) a a' → resQ P Tryz.f66.results (gt a') w' R → Q .ret a' w') (hE : HE Q E)
  (h : S66_j10 (gt a 9) w R E) : C66_j10.wpIn (Fw r) 0 P (Qs (wr C66_j10) a Q) a w :=
  piece' (HJ := Z0) (HL := Z0) hmix hs (by decide +kernel) (fun _ _ => False) (fun a w => resQ P Tryz.f66.results a w R) Y0 E (fun _ _ _ h => h.elim) hR
  (fun _ _ _ _ h => h.elim) hE
  trivial (Eq.mpr (K66_j10 (gt a) w R E) h)
def S66_b6 (v9 v22 v23 v24 : Value) (w : World) (N : K4) (X0 : K1) (E : Ev) : Prop :=
  X P (.bin .lss 3 false false v24 v23) 0 w (fun t25 w1 =>
  Cnd t25 (
  X P (.indexAddr 34 v22 v24) 0 w1 (fun t27 w2 =>
  X P (.load 5 t27) 5 w2 (fun t28 w3 =>
  X P (.conv 5 38 t28) 38 w3 (fun t31 w4 =>
  X P (.bin .mul 3 true false (.int .i64 8) v24) 3 w4 (fun t33 w5 =>
  X P (.bin .shl 38 false false t31 t33) 38 w5 (fun t34 w6 =>
  X P (.bin .or 38 false false v9 t34) 38 w6 (fun t35 w7 =>
  X P (.bin .add 3 false true v24 (.int .i64 1)) 3 w7 (fun t36 w8 =>
  N t35 v22 v23 t36 w8) E) E) E) E) E) E) E) (
  X0 v9 w1)) E
noncomputable def C66_b6 : Code := cB (cB (cR (cL (cR (cR (cR (bodyOf Tryz.f66)))))))
noncomputable def J66_b6 (N : K4) (X0 : K1) (E : Ev) : Nat → Env → World → Prop := fun i a w => match i with | 0 => X0 (a 9) w | _ => False
theorem K66_b6 (g : Env) (w : World) (N : K4) (X0 : K1) (E : Ev) :
  vcF P Z0 Z0 C66_b6 (QC (fun a w => N (a 9) (a 22) (a 23) (a 24) w) (fun _ _ => False) (J66_b6 N X0 E) E) g w = S66_b6 (g 9) (g 22) (g 23) (g 24) w N X0 E := by kernel_rfl
theorem T66_b6 (hs : a.tmps.size = 38) (N : K4) (X0 : K1) (E : Ev) (hN : ∀ a' w', Ag (wr C66_b6) a a' → N (gt a' 9) (gt a' 22) (gt a' 23) (gt a' 24) w' → Q .normal a' w') (hX0 : ∀ a' w', Ag (wr C66_b6) a a' → X0 (gt a' 9) w' → Q (.exit 0) a' w') (hE : HE Q E)
  (h : S66_b6 (gt a 9) (gt a 22) (gt a 23) (gt a 24) w N X0 E) : C66_b6.wpIn (Fw r) 0 P (Qs (wr C66_b6) a Q) a w :=
  piece' (HJ := Z0) (HL := Z0) hmix hs (by decide +kernel) (fun a w => N (a 9) (a 22) (a 23) (a 24) w) (fun _ _ => False) (J66_b6 N X0 E) E hN (fun _ _ _ h => h.elim)
  (fun i a' w' hag h => by
  unfold J66_b6 at h
  split at h <;> first | exact hX0 _ _ hag h | exact h.elim) hE
  trivial (Eq.mpr (K66_b6 (gt a) w N X0 E) h)
def S66_l6 (v9 v22 v23 v24 : Value) (w : World) (X0 : K1) (E : Ev) : Prop :=
  ∃ (I : K2) (μ : Value → Value → World → Nat), I v9 v24 w ∧ ∀ (v9 v24 : Value) (w : World), I v9 v24 w → S66_b6 v9 v22 v23 v24 w (fun x9 x22 x23 x24 y => I x9 x24 y ∧ μ x9 x24 y < μ v9 v24 w) X0 E
theorem T66_l6 (hs : a.tmps.size = 38) (X0 : K1) (E : Ev) (hX0 : ∀ a' w', Ag (wr (Code.loop C66_b6)) a a' → X0 (gt a' 9) w' → Q (.exit 0) a' w') (hE : HE Q E)
  (h : S66_l6 (gt a 9) (gt a 22) (gt a 23) (gt a 24) w X0 E) : (Code.loop C66_b6).wpIn (Fw r) 0 P (Qs (wr (Code.loop C66_b6)) a Q) a w := by
  obtain ⟨I, μ, h0, hr⟩ := h
  refine loop_piece (c := C66_b6) (fun a w => I (gt a 9) (gt a 24) w) (fun a w => μ (gt a 9) (gt a 24) w) h0 fun a' w' hag hI => ?_
  have h' := hr (gt a' 9) (gt a' 24) w' hI
  rw [← hag.get 22 (by decide +kernel)] at h'
  rw [← hag.get 23 (by decide +kernel)] at h'
  exact T66_b6 a' w' (hag.size.trans hs) (fun x9 x22 x23 x24 y => I x9 x24 y ∧ μ x9 x24 y < μ (gt a' 9) (gt a' 24) w') X0 E (fun _ _ _ h => h) (fun a1 w1 hag1 h => hX0 a1 w1 (hag.trans hag1) h) hE h'
def S66_0 (v0 v1 v2 : Value) (w : World) (R : K1) (E : Ev) : Prop :=
  X P (.callF 37 #[v0, v1, v2]) 53 w (fun t15 w1 =>
  X P (.bin .neq 53 false true t15 (.int .i64 0)) 4 w1 (fun t17 w2 =>
  Cnd t17 (
  R (Value.tuple #[(.int .u32 0), t15]) w2) (
  X P (.callF 36 #[v0, v1, v2]) 34 w2 (fun t22 w3 =>
  X P (.callB .len #[34] #[false] #[t22]) 3 w3 (fun t23 w4 =>
  S66_l6 (.int .u32 0) t22 t23 (.int .i64 0) w4 (fun x9 y => S66_j10 x9 y R E) E) E) E)) E) E
noncomputable def C66_0 : Code := bodyOf Tryz.f66
noncomputable def HJ66_0 (R : K1) (E : Ev) : Cut := fun i => match i with | some 10 => some (fun a w => S66_j10 (a 9) w R E) | _ => none
noncomputable def HL66_0 (R : K1) (E : Ev) : Cut := fun i => match i with | some 6 => some (fun a w => S66_l6 (a 9) (a 22) (a 23) (a 24) w (fun x9 y => S66_j10 x9 y R E) E) | _ => none
theorem K66_0 (g : Env) (w : World) (R : K1) (E : Ev) :
  vcF P (HJ66_0 R E) (HL66_0 R E) C66_0 (QC (fun _ _ => False) (fun a w => resQ P Tryz.f66.results a w R) Y0 E) g w = S66_0 (g 0) (g 1) (g 2) w R E := by kernel_rfl
theorem T66_0 (hs : a.tmps.size = 38) (R : K1) (E : Ev) (hR : ∀ a' w', Ag (wr C66_0) a a' → resQ P Tryz.f66.results (gt a') w' R → Q .ret a' w') (hE : HE Q E)
  (h : S66_0 (gt a 0) (gt a 1) (gt a 2) w R E) : C66_0.wpIn (Fw r) 0 P (Qs (wr C66_0) a Q) a w :=
  piece' (HJ := HJ66_0 R E) (HL := HL66_0 R E) hmix hs (by decide +kernel) (fun _ _ => False) (fun a w => resQ P Tryz.f66.results a w R) Y0 E (fun _ _ _ h => h.elim) hR
  (fun _ _ _ _ h => h.elim) hE
  ⟨pay (c := Code.loop C66_b6) (W := wr C66_0) (h := fun a w => S66_l6 (a 9) (a 22) (a 23) (a 24) w (fun x9 y => S66_j10 x9 y R E) E) (by decide +kernel) fun a w hsz h => T66_l6 a w (hsz.trans hs) (fun x9 y => S66_j10 x9 y R E) E (fun _ _ _ h => h) (fun _ _ _ h => h) h, pay (c := C66_j10) (W := wr C66_0) (h := fun a w => S66_j10 (a 9) w R E) (by decide +kernel) fun a w hsz h => T66_j10 a w (hsz.trans hs) R E (fun _ _ _ h => h) (fun _ _ _ h => h) h, trivial⟩ (Eq.mpr (K66_0 (gt a) w R E) h)
theorem F66 (a0 a1 a2 : Value) (w : World) (R : K1) (E : Ev) (h : S66_0 a0 a1 a2 w R E) : C P 66 #[a0, a1, a2] w R E := by
  have e : S66_0 (gt (A0 Tryz.f66.ntmps #[a0, a1, a2]) 0) (gt (A0 Tryz.f66.ntmps #[a0, a1, a2]) 1) (gt (A0 Tryz.f66.ntmps #[a0, a1, a2]) 2) w R E = S66_0 a0 a1 a2 w R E := by kernel_rfl
  have t := T66_0 (r := none) (Q := QF P Tryz.f66 R E) (A0 Tryz.f66.ntmps #[a0, a1, a2]) w (by kernel_rfl) R E (fun _ _ _ h => h) (fun _ _ _ h => h) (Eq.mpr e h)
  exact C_of (c := C66_0) Tryz.func66 (by kernel_rfl) t
def S67_b1 (v0 v1 v2 v6 : Value) (w : World) (N : K4) (R : K1) (E : Ev) : Prop :=
  X P (.bin .lss 3 false false v6 v1) 4 w (fun t12 w1 =>
  Cnd t12 (
  X P (.bin .quo 38 false true v0 (.int .u32 4096)) 38 w1 (fun t14 w2 =>
  X P (.bin .rem 38 false true v0 (.int .u32 4096)) 38 w2 (fun t16 w3 =>
  X P (.conv 38 3 t16) 3 w3 (fun t17 w4 =>
  X P (.bin .add 3 false false t17 v1) 3 w4 (fun t20 w5 =>
  X P (.bin .sub 3 false false t20 v6) 3 w5 (fun t22 w6 =>
  X P (.callB .min #[3, 3] #[true, false] #[(.int .i64 4096), t22]) 3 w6 (fun t23 w7 =>
  X P (.callV v2 #[t14, t17, t23, v6]) 0 w7 (fun t29 w8 =>
  X P (.bin .sub 3 false false t23 t17) 3 w8 (fun t33 w9 =>
  X P (.bin .add 3 false false v6 t33) 3 w9 (fun t34 w10 =>
  X P (.bin .sub 3 false false t23 t17) 3 w10 (fun t38 w11 =>
  X P (.conv 3 38 t38) 38 w11 (fun t39 w12 =>
  X P (.bin .add 38 false false v0 t39) 38 w12 (fun t40 w13 =>
  N t40 v1 v2 t34 w13) E) E) E) E) E) E) E) E) E) E) E) E) (
  R (Value.tuple #[]) w1)) E
noncomputable def C67_b1 : Code := cB (cB (cR (bodyOf Tryz.f67)))
noncomputable def J67_b1 (N : K4) (R : K1) (E : Ev) : Nat → Env → World → Prop := fun i a w => match i with | 0 => resQ P Tryz.f67.results a w R | _ => False
theorem K67_b1 (g : Env) (w : World) (N : K4) (R : K1) (E : Ev) :
  vcF P Z0 Z0 C67_b1 (QC (fun a w => N (a 0) (a 1) (a 2) (a 6) w) (fun a w => resQ P Tryz.f67.results a w R) (J67_b1 N R E) E) g w = S67_b1 (g 0) (g 1) (g 2) (g 6) w N R E := by kernel_rfl
theorem T67_b1 (hs : a.tmps.size = 41) (N : K4) (R : K1) (E : Ev) (hN : ∀ a' w', Ag (wr C67_b1) a a' → N (gt a' 0) (gt a' 1) (gt a' 2) (gt a' 6) w' → Q .normal a' w') (hX0 : ∀ a' w', Ag (wr C67_b1) a a' → resQ P Tryz.f67.results (gt a') w' R → Q (.exit 0) a' w') (hR : ∀ a' w', Ag (wr C67_b1) a a' → resQ P Tryz.f67.results (gt a') w' R → Q .ret a' w') (hE : HE Q E)
  (h : S67_b1 (gt a 0) (gt a 1) (gt a 2) (gt a 6) w N R E) : C67_b1.wpIn (Fw r) 0 P (Qs (wr C67_b1) a Q) a w :=
  piece' (HJ := Z0) (HL := Z0) hmix hs (by decide +kernel) (fun a w => N (a 0) (a 1) (a 2) (a 6) w) (fun a w => resQ P Tryz.f67.results a w R) (J67_b1 N R E) E hN hR
  (fun i a' w' hag h => by
  unfold J67_b1 at h
  split at h <;> first | exact hX0 _ _ hag h | exact h.elim) hE
  trivial (Eq.mpr (K67_b1 (gt a) w N R E) h)
def S67_l1 (v0 v1 v2 v6 : Value) (w : World) (R : K1) (E : Ev) : Prop :=
  ∃ (I : K2) (μ : Value → Value → World → Nat), I v0 v6 w ∧ ∀ (v0 v6 : Value) (w : World), I v0 v6 w → S67_b1 v0 v1 v2 v6 w (fun x0 x1 x2 x6 y => I x0 x6 y ∧ μ x0 x6 y < μ v0 v6 w) R E
theorem T67_l1 (hs : a.tmps.size = 41) (R : K1) (E : Ev) (hX0 : ∀ a' w', Ag (wr (Code.loop C67_b1)) a a' → resQ P Tryz.f67.results (gt a') w' R → Q (.exit 0) a' w') (hR : ∀ a' w', Ag (wr (Code.loop C67_b1)) a a' → resQ P Tryz.f67.results (gt a') w' R → Q .ret a' w') (hE : HE Q E)
  (h : S67_l1 (gt a 0) (gt a 1) (gt a 2) (gt a 6) w R E) : (Code.loop C67_b1).wpIn (Fw r) 0 P (Qs (wr (Code.loop C67_b1)) a Q) a w := by
  obtain ⟨I, μ, h0, hr⟩ := h
  refine loop_piece (c := C67_b1) (fun a w => I (gt a 0) (gt a 6) w) (fun a w => μ (gt a 0) (gt a 6) w) h0 fun a' w' hag hI => ?_
  have h' := hr (gt a' 0) (gt a' 6) w' hI
  rw [← hag.get 1 (by decide +kernel)] at h'
  rw [← hag.get 2 (by decide +kernel)] at h'
  exact T67_b1 a' w' (hag.size.trans hs) (fun x0 x1 x2 x6 y => I x0 x6 y ∧ μ x0 x6 y < μ (gt a' 0) (gt a' 6) w') R E (fun _ _ _ h => h) (fun a1 w1 hag1 h => hX0 a1 w1 (hag.trans hag1) h) (fun a1 w1 hag1 h => hR a1 w1 (hag.trans hag1) h) hE h'
def S67_0 (v0 v1 v2 : Value) (w : World) (R : K1) (E : Ev) : Prop :=
  S67_l1 v0 v1 v2 (.int .i64 0) w R E
noncomputable def C67_0 : Code := bodyOf Tryz.f67
noncomputable def HL67_0 (R : K1) (E : Ev) : Cut := fun i => match i with | some 1 => some (fun a w => S67_l1 (a 0) (a 1) (a 2) (a 6) w R E) | _ => none
theorem K67_0 (g : Env) (w : World) (R : K1) (E : Ev) :
  vcF P Z0 (HL67_0 R E) C67_0 (QC (fun a w => resQ P Tryz.f67.results a w R) (fun a w => resQ P Tryz.f67.results a w R) Y0 E) g w = S67_0 (g 0) (g 1) (g 2) w R E := by kernel_rfl
theorem T67_0 (hs : a.tmps.size = 41) (R : K1) (E : Ev) (hN : ∀ a' w', Ag (wr C67_0) a a' → resQ P Tryz.f67.results (gt a') w' R → Q .normal a' w') (hR : ∀ a' w', Ag (wr C67_0) a a' → resQ P Tryz.f67.results (gt a') w' R → Q .ret a' w') (hE : HE Q E)
  (h : S67_0 (gt a 0) (gt a 1) (gt a 2) w R E) : C67_0.wpIn (Fw r) 0 P (Qs (wr C67_0) a Q) a w :=
  piece' (HJ := Z0) (HL := HL67_0 R E) hmix hs (by decide +kernel) (fun a w => resQ P Tryz.f67.results a w R) (fun a w => resQ P Tryz.f67.results a w R) Y0 E hN hR
  (fun _ _ _ _ h => h.elim) hE
  ⟨pay (c := Code.loop C67_b1) (W := wr C67_0) (h := fun a w => S67_l1 (a 0) (a 1) (a 2) (a 6) w R E) (by decide +kernel) fun a w hsz h => T67_l1 a w (hsz.trans hs) R E (fun _ _ _ h => h) (fun _ _ _ h => h) (fun _ _ _ h => h) h, trivial⟩ (Eq.mpr (K67_0 (gt a) w R E) h)
theorem F67 (a0 a1 a2 : Value) (w : World) (R : K1) (E : Ev) (h : S67_0 a0 a1 a2 w R E) : C P 67 #[a0, a1, a2] w R E := by
  have e : S67_0 (gt (A0 Tryz.f67.ntmps #[a0, a1, a2]) 0) (gt (A0 Tryz.f67.ntmps #[a0, a1, a2]) 1) (gt (A0 Tryz.f67.ntmps #[a0, a1, a2]) 2) w R E = S67_0 a0 a1 a2 w R E := by kernel_rfl
  have t := T67_0 (r := none) (Q := QF P Tryz.f67 R E) (A0 Tryz.f67.ntmps #[a0, a1, a2]) w (by kernel_rfl) R E (fun _ _ _ h => h) (fun _ _ _ h => h) (fun _ _ _ h => h) (Eq.mpr e h)
  exact C_of (c := C67_0) Tryz.func67 (by kernel_rfl) t
def S68_0 (v0 v1 v2 v3 v4 v5 : Value) (w : World) (R : K1) (E : Ev) : Prop :=
  X P (.load 41 v4) 41 w (fun t11 w1 =>
  X P (.nilCheck t11) 0 w1 (fun t12 w2 =>
  X P (.fieldAddr 157 t12 1) 0 w2 (fun t13 w3 =>
  X P (.load 155 t13) 155 w3 (fun t14 w4 =>
  X P (.lookup 155 t14 v0 false) 159 w4 (fun t16 w5 =>
  X P (.bin .neq 159 false true t16 (.pointer none)) 4 w5 (fun t18 w6 =>
  Cnd t18 (
  XQ P (.load 34 v5) 34 (drw w6) (fun t19 =>
  XQ P (.slice 34 t19 (some v3) none none) 34 (drw w6) (fun t21 =>
  XQ P (.nilCheck t16) 159 (drw w6) (fun t23 =>
  XQ P (.slice 162 t23 (some v1) (some v2) none) 34 (drw w6) (fun t26 =>
  (X P (.callB .copy #[34, 34] #[false, false] #[t21, t26]) 3 (drw w6) (fun t27 w7 =>
  R (Value.tuple #[]) w7) E)))))) (
  R (Value.tuple #[]) w6)) E) E) E) E) E) E
noncomputable def C68_0 : Code := bodyOf Tryz.f68
theorem K68_0 (g : Env) (w : World) (R : K1) (E : Ev) :
  vcF P Z0 Z0 C68_0 (QC (fun a w => resQ P Tryz.f68.results a w R) (fun a w => resQ P Tryz.f68.results a w R) Y0 E) g w = S68_0 (g 0) (g 1) (g 2) (g 3) (g 4) (g 5) w R E := by kernel_rfl
theorem T68_0 (hs : a.tmps.size = 28) (R : K1) (E : Ev) (hN : ∀ a' w', Ag (wr C68_0) a a' → resQ P Tryz.f68.results (gt a') w' R → Q .normal a' w') (hR : ∀ a' w', Ag (wr C68_0) a a' → resQ P Tryz.f68.results (gt a') w' R → Q .ret a' w') (hE : HE Q E)
  (h : S68_0 (gt a 0) (gt a 1) (gt a 2) (gt a 3) (gt a 4) (gt a 5) w R E) : C68_0.wpIn (Fw r) 0 P (Qs (wr C68_0) a Q) a w :=
  piece' (HJ := Z0) (HL := Z0) hmix hs (by decide +kernel) (fun a w => resQ P Tryz.f68.results a w R) (fun a w => resQ P Tryz.f68.results a w R) Y0 E hN hR
  (fun _ _ _ _ h => h.elim) hE
  trivial (Eq.mpr (K68_0 (gt a) w R E) h)
theorem F68 (a0 a1 a2 a3 a4 a5 : Value) (w : World) (R : K1) (E : Ev) (h : S68_0 a0 a1 a2 a3 a4 a5 w R E) : C P 68 #[a0, a1, a2, a3, a4, a5] w R E := by
  have e : S68_0 (gt (A0 Tryz.f68.ntmps #[a0, a1, a2, a3, a4, a5]) 0) (gt (A0 Tryz.f68.ntmps #[a0, a1, a2, a3, a4, a5]) 1) (gt (A0 Tryz.f68.ntmps #[a0, a1, a2, a3, a4, a5]) 2) (gt (A0 Tryz.f68.ntmps #[a0, a1, a2, a3, a4, a5]) 3) (gt (A0 Tryz.f68.ntmps #[a0, a1, a2, a3, a4, a5]) 4) (gt (A0 Tryz.f68.ntmps #[a0, a1, a2, a3, a4, a5]) 5) w R E = S68_0 a0 a1 a2 a3 a4 a5 w R E := by kernel_rfl
  have t := T68_0 (r := none) (Q := QF P Tryz.f68 R E) (A0 Tryz.f68.ntmps #[a0, a1, a2, a3, a4, a5]) w (by kernel_rfl) R E (fun _ _ _ h => h) (fun _ _ _ h => h) (fun _ _ _ h => h) (Eq.mpr e h)
  exact C_of (c := C68_0) Tryz.func68 (by kernel_rfl) t
def S69_j4 (v1 v2 v3 v5 v10 : Value) (w : World) (R : K1) (E : Ev) : Prop :=
  XQ P (.nilCheck v10) 159 (drw w) (fun t28 =>
  XQ P (.slice 162 t28 (some v1) (some v2) none) 34 (drw w) (fun t31 =>
  XQ P (.load 34 v5) 34 (drw w) (fun t32 =>
  XQ P (.slice 34 t32 (some v3) none none) 34 (drw w) (fun t34 =>
  (X P (.callB .copy #[34, 34] #[false, false] #[t31, t34]) 3 (drw w) (fun t35 w1 =>
  R (Value.tuple #[]) w1) E)))))
noncomputable def C69_j4 : Code := cR (cR (bodyOf Tryz.f69))
theorem K69_j4 (g : Env) (w : World) (R : K1) (E : Ev) :
  vcF P Z0 Z0 C69_j4 (QC (fun a w => resQ P Tryz.f69.results a w R) (fun a w => resQ P Tryz.f69.results a w R) Y0 E) g w = S69_j4 (g 1) (g 2) (g 3) (g 5) (g 10) w R E := by kernel_rfl
theorem T69_j4 (hs : a.tmps.size = 36) (R : K1) (E : Ev) (hN : ∀ a' w', Ag (wr C69_j4) a a' → resQ P Tryz.f69.results (gt a') w' R → Q .normal a' w') (hR : ∀ a' w', Ag (wr C69_j4) a a' → resQ P Tryz.f69.results (gt a') w' R → Q .ret a' w') (hE : HE Q E)
  (h : S69_j4 (gt a 1) (gt a 2) (gt a 3) (gt a 5) (gt a 10) w R E) : C69_j4.wpIn (Fw r) 0 P (Qs (wr C69_j4) a Q) a w :=
  piece' (HJ := Z0) (HL := Z0) hmix hs (by decide +kernel) (fun a w => resQ P Tryz.f69.results a w R) (fun a w => resQ P Tryz.f69.results a w R) Y0 E hN hR
  (fun _ _ _ _ h => h.elim) hE
  trivial (Eq.mpr (K69_j4 (gt a) w R E) h)
def S69_0 (v0 v1 v2 v3 v4 v5 : Value) (w : World) (R : K1) (E : Ev) : Prop :=
  X P (.load 41 v4) 41 w (fun t11 w1 =>
  X P (.nilCheck t11) 0 w1 (fun t12 w2 =>
  X P (.fieldAddr 157 t12 1) 0 w2 (fun t13 w3 =>
  X P (.load 155 t13) 155 w3 (fun t14 w4 =>
  X P (.lookup 155 t14 v0 false) 159 w4 (fun t16 w5 =>
  X P (.bin .eql 159 false true t16 (.pointer none)) 4 w5 (fun t18 w6 =>
  Cnd t18 (
  X P (.build 162 #[]) 162 w6 (fun t19 w7 =>
  X P (.box 162 t19) 159 w7 (fun t20 w8 =>
  X P (.load 41 v4) 41 w8 (fun t21 w9 =>
  X P (.nilCheck t21) 0 w9 (fun t22 w10 =>
  X P (.fieldAddr 157 t22 1) 0 w10 (fun t23 w11 =>
  X P (.load 155 t23) 155 w11 (fun t24 w12 =>
  X P (.mapUpdate 155 t24 v0 t20) 0 w12 (fun _ w13 =>
  S69_j4 v1 v2 v3 v5 t20 w13 R E) E) E) E) E) E) E) E) (
  S69_j4 v1 v2 v3 v5 t16 w6 R E)) E) E) E) E) E) E
noncomputable def C69_0 : Code := bodyOf Tryz.f69
noncomputable def HJ69_0 (R : K1) (E : Ev) : Cut := fun i => match i with | some 4 => some (fun a w => S69_j4 (a 1) (a 2) (a 3) (a 5) (a 10) w R E) | _ => none
theorem K69_0 (g : Env) (w : World) (R : K1) (E : Ev) :
  vcF P (HJ69_0 R E) Z0 C69_0 (QC (fun a w => resQ P Tryz.f69.results a w R) (fun a w => resQ P Tryz.f69.results a w R) Y0 E) g w = S69_0 (g 0) (g 1) (g 2) (g 3) (g 4) (g 5) w R E := by kernel_rfl
theorem T69_0 (hs : a.tmps.size = 36) (R : K1) (E : Ev) (hN : ∀ a' w', Ag (wr C69_0) a a' → resQ P Tryz.f69.results (gt a') w' R → Q .normal a' w') (hR : ∀ a' w', Ag (wr C69_0) a a' → resQ P Tryz.f69.results (gt a') w' R → Q .ret a' w') (hE : HE Q E)
  (h : S69_0 (gt a 0) (gt a 1) (gt a 2) (gt a 3) (gt a 4) (gt a 5) w R E) : C69_0.wpIn (Fw r) 0 P (Qs (wr C69_0) a Q) a w :=
  piece' (HJ := HJ69_0 R E) (HL := Z0) hmix hs (by decide +kernel) (fun a w => resQ P Tryz.f69.results a w R) (fun a w => resQ P Tryz.f69.results a w R) Y0 E hN hR
  (fun _ _ _ _ h => h.elim) hE
  ⟨pay (c := C69_j4) (W := wr C69_0) (h := fun a w => S69_j4 (a 1) (a 2) (a 3) (a 5) (a 10) w R E) (by decide +kernel) fun a w hsz h => T69_j4 a w (hsz.trans hs) R E (fun _ _ _ h => h) (fun _ _ _ h => h) (fun _ _ _ h => h) h, trivial⟩ (Eq.mpr (K69_0 (gt a) w R E) h)
theorem F69 (a0 a1 a2 a3 a4 a5 : Value) (w : World) (R : K1) (E : Ev) (h : S69_0 a0 a1 a2 a3 a4 a5 w R E) : C P 69 #[a0, a1, a2, a3, a4, a5] w R E := by
  have e : S69_0 (gt (A0 Tryz.f69.ntmps #[a0, a1, a2, a3, a4, a5]) 0) (gt (A0 Tryz.f69.ntmps #[a0, a1, a2, a3, a4, a5]) 1) (gt (A0 Tryz.f69.ntmps #[a0, a1, a2, a3, a4, a5]) 2) (gt (A0 Tryz.f69.ntmps #[a0, a1, a2, a3, a4, a5]) 3) (gt (A0 Tryz.f69.ntmps #[a0, a1, a2, a3, a4, a5]) 4) (gt (A0 Tryz.f69.ntmps #[a0, a1, a2, a3, a4, a5]) 5) w R E = S69_0 a0 a1 a2 a3 a4 a5 w R E := by kernel_rfl
  have t := T69_0 (r := none) (Q := QF P Tryz.f69 R E) (A0 Tryz.f69.ntmps #[a0, a1, a2, a3, a4, a5]) w (by kernel_rfl) R E (fun _ _ _ h => h) (fun _ _ _ h => h) (fun _ _ _ h => h) (Eq.mpr e h)
  exact C_of (c := C69_0) Tryz.func69 (by kernel_rfl) t
def S70_0 (v0 v1 : Value) (w : World) (R : K1) (E : Ev) : Prop :=
  X P (.bin .eql 3 false true v1 (.int .i64 1)) 4 w (fun t6 w1 =>
  XG (some t6) false P (.val v1) 3 w1 (fun t8 w2 =>
  XG (some t6) false P (.bin .eql 3 false true t8 (.int .i64 2)) 4 w2 (fun t9 w3 =>
  X P (.pick t6 (.bool true) t9) 4 w3 (fun t10 w4 =>
  XG (some t10) false P (.val v1) 3 w4 (fun t12 w5 =>
  XG (some t10) false P (.bin .eql 3 false true t12 (.int .i64 4)) 4 w5 (fun t13 w6 =>
  X P (.pick t10 (.bool true) t13) 4 w6 (fun t14 w7 =>
  XG (some t14) true P (.val v0) 38 w7 (fun t16 w8 =>
  XG (some t14) true P (.val v1) 3 w8 (fun t17 w9 =>
  XG (some t14) true P (.conv 3 38 t17) 38 w9 (fun t18 w10 =>
  XG (some t14) true P (.bin .rem 38 false false t16 t18) 38 w10 (fun t19 w11 =>
  XG (some t14) true P (.bin .eql 38 false true t19 (.int .u32 0)) 4 w11 (fun t20 w12 =>
  X P (.pick t14 t20 (.bool false)) 4 w12 (fun t21 w13 =>
  R t21 w13) E) E) E) E) E) E) E) E) E) E) E) E) E
noncomputable def C70_0 : Code := bodyOf Tryz.f70
theorem K70_0 (g : Env) (w : World) (R : K1) (E : Ev) :
  vcF P Z0 Z0 C70_0 (QC (fun _ _ => False) (fun a w => resQ P Tryz.f70.results a w R) Y0 E) g w = S70_0 (g 0) (g 1) w R E := by kernel_rfl
theorem T70_0 (hs : a.tmps.size = 22) (R : K1) (E : Ev) (hR : ∀ a' w', Ag (wr C70_0) a a' → resQ P Tryz.f70.results (gt a') w' R → Q .ret a' w') (hE : HE Q E)
  (h : S70_0 (gt a 0) (gt a 1) w R E) : C70_0.wpIn (Fw r) 0 P (Qs (wr C70_0) a Q) a w :=
  piece' (HJ := Z0) (HL := Z0) hmix hs (by decide +kernel) (fun _ _ => False) (fun a w => resQ P Tryz.f70.results a w R) Y0 E (fun _ _ _ h => h.elim) hR
  (fun _ _ _ _ h => h.elim) hE
  trivial (Eq.mpr (K70_0 (gt a) w R E) h)
theorem F70 (a0 a1 : Value) (w : World) (R : K1) (E : Ev) (h : S70_0 a0 a1 w R E) : C P 70 #[a0, a1] w R E := by
  have e : S70_0 (gt (A0 Tryz.f70.ntmps #[a0, a1]) 0) (gt (A0 Tryz.f70.ntmps #[a0, a1]) 1) w R E = S70_0 a0 a1 w R E := by kernel_rfl
  have t := T70_0 (r := none) (Q := QF P Tryz.f70 R E) (A0 Tryz.f70.ntmps #[a0, a1]) w (by kernel_rfl) R E (fun _ _ _ h => h) (fun _ _ _ h => h) (Eq.mpr e h)
  exact C_of (c := C70_0) Tryz.func70 (by kernel_rfl) t
def S71_j17 (v0 v13 v16 v18 v19 v20 : Value) (w : World) (R : K1) (E : Ev) : Prop :=
  X P (.bin .neq 49 false true v18 (.int .i64 0)) 4 w (fun t92 w1 =>
  Cnd t92 (
  R (Value.tuple #[(.int .u32 0), v19, v18]) w1) (
  XQ P (.nilCheck v0) 0 (drw w1) (fun t96 =>
  XQ P (.fieldAddr 85 t96 2) 0 (drw w1) (fun t97 =>
  XQ P (.load 43 t97) 43 (drw w1) (fun t98 =>
  XQ P (.load 177 v13) 177 (drw w1) (fun t99 =>
  XQ P (.fieldAddr 129 v20 2) 0 (drw w1) (fun t100 =>
  XQ P (.load 38 t100) 38 (drw w1) (fun t101 =>
  XQ P (.fieldAddr 129 v20 1) 0 (drw w1) (fun t102 =>
  XQ P (.load 58 t102) 58 (drw w1) (fun t103 =>
  XQ P (.build 188 #[(0, t101), (1, t103)]) 188 (drw w1) (fun t104 =>
  (X P (.callF 90 #[t98, t99, t104]) 197 (drw w1) (fun t105 w2 =>
  R (Value.tuple #[v16, v19, (.int .i64 0)]) w2) E)))))))))))) E
noncomputable def C71_j17 : Code := cR (cR (cR (cR (cR (cR (cR (cR (cR (bodyOf Tryz.f71)))))))))
theorem K71_j17 (g : Env) (w : World) (R : K1) (E : Ev) :
  vcF P Z0 Z0 C71_j17 (QC (fun _ _ => False) (fun a w => resQ P Tryz.f71.results a w R) Y0 E) g w = S71_j17 (g 0) (g 13) (g 16) (g 18) (g 19) (g 20) w R E := by kernel_rfl
theorem T71_j17 (hs : a.tmps.size = 108) (R : K1) (E : Ev) (hR : ∀ a' w', Ag (wr C71_j17) a a' → resQ P Tryz.f71.results (gt a') w' R → Q .ret a' w') (hE : HE Q E)
  (h : S71_j17 (gt a 0) (gt a 13) (gt a 16) (gt a 18) (gt a 19) (gt a 20) w R E) : C71_j17.wpIn (Fw r) 0 P (Qs (wr C71_j17) a Q) a w :=
  piece' (HJ := Z0) (HL := Z0) hmix hs (by decide +kernel) (fun _ _ => False) (fun a w => resQ P Tryz.f71.results a w R) Y0 E (fun _ _ _ h => h.elim) hR
  (fun _ _ _ _ h => h.elim) hE
  trivial (Eq.mpr (K71_j17 (gt a) w R E) h)
def S71_b12 (v0 v13 v16 v18 v19 v20 v68 v69 v70 : Value) (w : World) (N : K9) (X0 : K6) (E : Ev) : Prop :=
  X P (.bin .lss 3 false false v70 v69) 0 w (fun t71 w1 =>
  Cnd t71 (
  X P (.indexAddr 192 v68 v70) 0 w1 (fun t72 w2 =>
  X P (.load 196 t72) 196 w2 (fun t73 w3 =>
  X P (.alloc 196) 0 w3 (fun t22 w4 =>
  X P (.store 196 t22 t73) 0 w4 (fun _ w5 =>
  XQ P (.nilCheck v0) 0 (drw w5) (fun t76 =>
  XQ P (.fieldAddr 85 t76 1) 0 (drw w5) (fun t77 =>
  XQ P (.load 42 t77) 42 (drw w5) (fun t78 =>
  XQ P (.fieldAddr 196 t22 0) 0 (drw w5) (fun t79 =>
  XQ P (.load 38 t79) 38 (drw w5) (fun t80 =>
  (X P (.callF 72 #[t78, t80, (.bool false)]) 166 (drw w5) (fun t81 w6 =>
  XQ P (.field 166 t81 2) 3 w6 (fun t82 =>
  XQ P (.bin .add 3 false false v19 t82) 3 w6 (fun t83 =>
  X P (.fieldAddr 196 t22 1) 0 w6 (fun t85 w7 =>
  X P (.load 38 t85) 38 w7 (fun t86 w8 =>
  X P (.callF 54 #[t86]) 130 w8 (fun t87 w9 =>
  X P (.extract t87 0) 129 w9 (fun t88 w10 =>
  X P (.extract t87 1) 53 w10 (fun t89 w11 =>
  X P (.store 129 v20 t88) 0 w11 (fun _ w12 =>
  X P (.bin .add 3 false true v70 (.int .i64 1)) 3 w12 (fun t90 w13 =>
  N v0 v13 v16 v18 t83 v20 v68 v69 t90 w13) E) E) E) E) E) E) E))) E))))))) E) E) E) E) (
  X0 v0 v13 v16 v18 v19 v20 w1)) E
noncomputable def C71_b12 : Code := cB (cB (cR (cL (cR (cR (cR (cR (cR (cR (cR (cR (bodyOf Tryz.f71))))))))))))
noncomputable def J71_b12 (N : K9) (X0 : K6) (E : Ev) : Nat → Env → World → Prop := fun i a w => match i with | 0 => X0 (a 0) (a 13) (a 16) (a 18) (a 19) (a 20) w | _ => False
theorem K71_b12 (g : Env) (w : World) (N : K9) (X0 : K6) (E : Ev) :
  vcF P Z0 Z0 C71_b12 (QC (fun a w => N (a 0) (a 13) (a 16) (a 18) (a 19) (a 20) (a 68) (a 69) (a 70) w) (fun _ _ => False) (J71_b12 N X0 E) E) g w = S71_b12 (g 0) (g 13) (g 16) (g 18) (g 19) (g 20) (g 68) (g 69) (g 70) w N X0 E := by kernel_rfl
theorem T71_b12 (hs : a.tmps.size = 108) (N : K9) (X0 : K6) (E : Ev) (hN : ∀ a' w', Ag (wr C71_b12) a a' → N (gt a' 0) (gt a' 13) (gt a' 16) (gt a' 18) (gt a' 19) (gt a' 20) (gt a' 68) (gt a' 69) (gt a' 70) w' → Q .normal a' w') (hX0 : ∀ a' w', Ag (wr C71_b12) a a' → X0 (gt a' 0) (gt a' 13) (gt a' 16) (gt a' 18) (gt a' 19) (gt a' 20) w' → Q (.exit 0) a' w') (hE : HE Q E)
  (h : S71_b12 (gt a 0) (gt a 13) (gt a 16) (gt a 18) (gt a 19) (gt a 20) (gt a 68) (gt a 69) (gt a 70) w N X0 E) : C71_b12.wpIn (Fw r) 0 P (Qs (wr C71_b12) a Q) a w :=
  piece' (HJ := Z0) (HL := Z0) hmix hs (by decide +kernel) (fun a w => N (a 0) (a 13) (a 16) (a 18) (a 19) (a 20) (a 68) (a 69) (a 70) w) (fun _ _ => False) (J71_b12 N X0 E) E hN (fun _ _ _ h => h.elim)
  (fun i a' w' hag h => by
  unfold J71_b12 at h
  split at h <;> first | exact hX0 _ _ hag h | exact h.elim) hE
  trivial (Eq.mpr (K71_b12 (gt a) w N X0 E) h)
def S71_l12 (v0 v13 v16 v18 v19 v20 v68 v69 v70 : Value) (w : World) (X0 : K6) (E : Ev) : Prop :=
  ∃ (I : K2) (μ : Value → Value → World → Nat), I v19 v70 w ∧ ∀ (v19 v70 : Value) (w : World), I v19 v70 w → S71_b12 v0 v13 v16 v18 v19 v20 v68 v69 v70 w (fun x0 x13 x16 x18 x19 x20 x68 x69 x70 y => I x19 x70 y ∧ μ x19 x70 y < μ v19 v70 w) X0 E
theorem T71_l12 (hs : a.tmps.size = 108) (X0 : K6) (E : Ev) (hX0 : ∀ a' w', Ag (wr (Code.loop C71_b12)) a a' → X0 (gt a' 0) (gt a' 13) (gt a' 16) (gt a' 18) (gt a' 19) (gt a' 20) w' → Q (.exit 0) a' w') (hE : HE Q E)
  (h : S71_l12 (gt a 0) (gt a 13) (gt a 16) (gt a 18) (gt a 19) (gt a 20) (gt a 68) (gt a 69) (gt a 70) w X0 E) : (Code.loop C71_b12).wpIn (Fw r) 0 P (Qs (wr (Code.loop C71_b12)) a Q) a w := by
  obtain ⟨I, μ, h0, hr⟩ := h
  refine loop_piece (c := C71_b12) (fun a w => I (gt a 19) (gt a 70) w) (fun a w => μ (gt a 19) (gt a 70) w) h0 fun a' w' hag hI => ?_
  have h' := hr (gt a' 19) (gt a' 70) w' hI
  rw [← hag.get 0 (by decide +kernel)] at h'
  rw [← hag.get 13 (by decide +kernel)] at h'
  rw [← hag.get 16 (by decide +kernel)] at h'
  rw [← hag.get 18 (by decide +kernel)] at h'
  rw [← hag.get 20 (by decide +kernel)] at h'
  rw [← hag.get 68 (by decide +kernel)] at h'
  rw [← hag.get 69 (by decide +kernel)] at h'
  exact T71_b12 a' w' (hag.size.trans hs) (fun x0 x13 x16 x18 x19 x20 x68 x69 x70 y => I x19 x70 y ∧ μ x19 x70 y < μ (gt a' 19) (gt a' 70) w') X0 E (fun _ _ _ h => h) (fun a1 w1 hag1 h => hX0 a1 w1 (hag.trans hag1) h) hE h'
def S71_j8 (v0 v2 v3 v11 v13 : Value) (w : World) (R : K1) (E : Ev) : Prop :=
  X P (.nilCheck v0) 0 w (fun t58 w1 =>
  X P (.fieldAddr 85 t58 0) 0 w1 (fun t59 w2 =>
  X P (.load 41 t59) 41 w2 (fun t60 w3 =>
  X P (.callF 89 #[t60, v11, v2, v3]) 193 w3 (fun t64 w4 =>
  X P (.extract t64 0) 38 w4 (fun t65 w5 =>
  X P (.extract t64 1) 192 w5 (fun t66 w6 =>
  X P (.extract t64 2) 49 w6 (fun t67 w7 =>
  X P (.alloc 129) 0 w7 (fun t20 w8 =>
  X P (.callB .len #[192] #[false] #[t66]) 3 w8 (fun t69 w9 =>
  S71_l12 v0 v13 t65 t67 (.int .i64 0) t20 t66 t69 (.int .i64 0) w9 (fun x0 x13 x16 x18 x19 x20 y => S71_j17 x0 x13 x16 x18 x19 x20 y R E) E) E) E) E) E) E) E) E) E) E
noncomputable def C71_j8 : Code := cR (cR (cR (cR (cR (bodyOf Tryz.f71)))))
noncomputable def HJ71_j8 (R : K1) (E : Ev) : Cut := fun i => match i with | some 17 => some (fun a w => S71_j17 (a 0) (a 13) (a 16) (a 18) (a 19) (a 20) w R E) | _ => none
noncomputable def HL71_j8 (R : K1) (E : Ev) : Cut := fun i => match i with | some 12 => some (fun a w => S71_l12 (a 0) (a 13) (a 16) (a 18) (a 19) (a 20) (a 68) (a 69) (a 70) w (fun x0 x13 x16 x18 x19 x20 y => S71_j17 x0 x13 x16 x18 x19 x20 y R E) E) | _ => none
theorem K71_j8 (g : Env) (w : World) (R : K1) (E : Ev) :
  vcF P (HJ71_j8 R E) (HL71_j8 R E) C71_j8 (QC (fun _ _ => False) (fun a w => resQ P Tryz.f71.results a w R) Y0 E) g w = S71_j8 (g 0) (g 2) (g 3) (g 11) (g 13) w R E := by kernel_rfl
theorem T71_j8 (hs : a.tmps.size = 108) (R : K1) (E : Ev) (hR : ∀ a' w', Ag (wr C71_j8) a a' → resQ P Tryz.f71.results (gt a') w' R → Q .ret a' w') (hE : HE Q E)
  (h : S71_j8 (gt a 0) (gt a 2) (gt a 3) (gt a 11) (gt a 13) w R E) : C71_j8.wpIn (Fw r) 0 P (Qs (wr C71_j8) a Q) a w :=
  piece' (HJ := HJ71_j8 R E) (HL := HL71_j8 R E) hmix hs (by decide +kernel) (fun _ _ => False) (fun a w => resQ P Tryz.f71.results a w R) Y0 E (fun _ _ _ h => h.elim) hR
  (fun _ _ _ _ h => h.elim) hE
  ⟨pay (c := Code.loop C71_b12) (W := wr C71_j8) (h := fun a w => S71_l12 (a 0) (a 13) (a 16) (a 18) (a 19) (a 20) (a 68) (a 69) (a 70) w (fun x0 x13 x16 x18 x19 x20 y => S71_j17 x0 x13 x16 x18 x19 x20 y R E) E) (by decide +kernel) fun a w hsz h => T71_l12 a w (hsz.trans hs) (fun x0 x13 x16 x18 x19 x20 y => S71_j17 x0 x13 x16 x18 x19 x20 y R E) E (fun _ _ _ h => h) (fun _ _ _ h => h) h, pay (c := C71_j17) (W := wr C71_j8) (h := fun a w => S71_j17 (a 0) (a 13) (a 16) (a 18) (a 19) (a 20) w R E) (by decide +kernel) fun a w hsz h => T71_j17 a w (hsz.trans hs) R E (fun _ _ _ h => h) (fun _ _ _ h => h) h, trivial⟩ (Eq.mpr (K71_j8 (gt a) w R E) h)
def S71_j6 (v0 v2 v3 v11 v13 v14 v15 : Value) (w : World) (N : K5) (R : K1) (E : Ev) : Prop :=
  Cnd v15 (
  X P (.load 188 v14) 188 w (fun t49 w1 =>
  X P (.callF 88 #[v0, t49, v2, v3]) 50 w1 (fun t52 w2 =>
  X P (.extract t52 0) 38 w2 (fun t53 w3 =>
  X P (.extract t52 1) 3 w3 (fun t54 w4 =>
  X P (.extract t52 2) 49 w4 (fun t55 w5 =>
  R (Value.tuple #[t53, t54, t55]) w5) E) E) E) E) E) (
  N v0 v2 v3 v11 v13 w)
noncomputable def C71_j6 : Code := cR (cL (cR (cR (cR (cR (bodyOf Tryz.f71))))))
theorem K71_j6 (g : Env) (w : World) (N : K5) (R : K1) (E : Ev) :
  vcF P Z0 Z0 C71_j6 (QC (fun a w => N (a 0) (a 2) (a 3) (a 11) (a 13) w) (fun a w => resQ P Tryz.f71.results a w R) Y0 E) g w = S71_j6 (g 0) (g 2) (g 3) (g 11) (g 13) (g 14) (g 15) w N R E := by kernel_rfl
theorem T71_j6 (hs : a.tmps.size = 108) (N : K5) (R : K1) (E : Ev) (hN : ∀ a' w', Ag (wr C71_j6) a a' → N (gt a' 0) (gt a' 2) (gt a' 3) (gt a' 11) (gt a' 13) w' → Q .normal a' w') (hR : ∀ a' w', Ag (wr C71_j6) a a' → resQ P Tryz.f71.results (gt a') w' R → Q .ret a' w') (hE : HE Q E)
  (h : S71_j6 (gt a 0) (gt a 2) (gt a 3) (gt a 11) (gt a 13) (gt a 14) (gt a 15) w N R E) : C71_j6.wpIn (Fw r) 0 P (Qs (wr C71_j6) a Q) a w :=
  piece' (HJ := Z0) (HL := Z0) hmix hs (by decide +kernel) (fun a w => N (a 0) (a 2) (a 3) (a 11) (a 13) w) (fun a w => resQ P Tryz.f71.results a w R) Y0 E hN hR
  (fun _ _ _ _ h => h.elim) hE
  trivial (Eq.mpr (K71_j6 (gt a) w N R E) h)
def S71_0 (v0 v1 v2 v3 : Value) (w : World) (R : K1) (E : Ev) : Prop :=
  X P (.nilCheck v0) 0 w (fun t25 w1 =>
  X P (.fieldAddr 85 t25 3) 0 w1 (fun t26 w2 =>
  X P (.load 83 t26) 83 w2 (fun t27 w3 =>
  X P (.lookup 83 t27 v1 true) 186 w3 (fun t29 w4 =>
  X P (.extract t29 0) 38 w4 (fun t30 w5 =>
  X P (.extract t29 1) 4 w5 (fun t31 w6 =>
  X P (.un .not t31) 4 w6 (fun t33 w7 =>
  Cnd t33 (
  R (Value.tuple #[(.int .u32 0), (.int .i64 0), (.int .i64 3)]) w7) (
  X P (.bin .quo 38 false true v2 (.int .u32 4096)) 38 w7 (fun t36 w8 =>
  X P (.build 177 #[(0, v1), (1, t36)]) 177 w8 (fun t37 w9 =>
  X P (.alloc 177) 0 w9 (fun t13 w10 =>
  X P (.store 177 t13 t37) 0 w10 (fun _ w11 =>
  XQ P (.nilCheck v0) 0 (drw w11) (fun t40 =>
  XQ P (.fieldAddr 85 t40 2) 0 (drw w11) (fun t41 =>
  XQ P (.load 43 t41) 43 (drw w11) (fun t42 =>
  XQ P (.load 177 t13) 177 (drw w11) (fun t43 =>
  (X P (.callF 87 #[t42, t43]) 189 (drw w11) (fun t44 w12 =>
  XQ P (.extract t44 0) 188 w12 (fun t45 =>
  XQ P (.extract t44 1) 4 w12 (fun t46 =>
  (X P (.alloc 188) 0 w12 (fun t14 w13 =>
  (XQ P (.extract t44 1) 4 w13 (fun v => v = t46)) ∧
  (XQ P (.extract t44 0) 188 w13 (fun v => v = t45)) ∧
  (XQ P (.load 177 t13) 177 w13 (fun v => v = t43)) ∧
  (XQ P (.load 43 t41) 43 w13 (fun v => v = t42)) ∧
  (XQ P (.fieldAddr 85 t40 2) 0 w13 (fun v => v = t41)) ∧
  (XQ P (.nilCheck v0) 0 w13 (fun v => v = t40)) ∧
  (X P (.store 188 t14 t45) 0 w13 (fun _ w14 =>
  (XQ P (.extract t44 1) 4 w14 (fun v => v = t46)) ∧
  S71_j6 v0 v2 v3 t30 t13 t14 t46 w14 (fun x0 x2 x3 x11 x13 y => S71_j8 x0 x2 x3 x11 x13 y R E) R E) E)) E)))) E) ∧
  (X P (.alloc 188) 0 (drw w11) (fun t14_1 w15 =>
  (XQ P (.load 177 t13) 177 w15 (fun v => v = t43)) ∧
  (XQ P (.load 43 t41) 43 w15 (fun v => v = t42)) ∧
  (XQ P (.fieldAddr 85 t40 2) 0 w15 (fun v => v = t41)) ∧
  (XQ P (.nilCheck v0) 0 w15 (fun v => v = t40)) ∧
  (X P (.callF 87 #[t42, t43]) 189 w15 (fun t44_1 w16 =>
  XQ P (.extract t44_1 0) 188 w16 (fun t45_1 =>
  XQ P (.extract t44_1 1) 4 w16 (fun t46_1 =>
  (X P (.store 188 t14_1 t45_1) 0 w16 (fun _ w17 =>
  (XQ P (.extract t44_1 1) 4 w17 (fun v => v = t46_1)) ∧
  S71_j6 v0 v2 v3 t30 t13 t14_1 t46_1 w17 (fun x0 x2 x3 x11 x13 y => S71_j8 x0 x2 x3 x11 x13 y R E) R E) E)))) E)) E)))))) E) E) E) E)) E) E) E) E) E) E) E
noncomputable def C71_0 : Code := bodyOf Tryz.f71
noncomputable def HJ71_0 (R : K1) (E : Ev) : Cut := fun i => match i with | some 8 => some (fun a w => S71_j8 (a 0) (a 2) (a 3) (a 11) (a 13) w R E) | some 6 => some (fun a w => S71_j6 (a 0) (a 2) (a 3) (a 11) (a 13) (a 14) (a 15) w (fun x0 x2 x3 x11 x13 y => S71_j8 x0 x2 x3 x11 x13 y R E) R E) | _ => none
theorem K71_0 (g : Env) (w : World) (R : K1) (E : Ev) :
  vcF P (HJ71_0 R E) Z0 C71_0 (QC (fun _ _ => False) (fun a w => resQ P Tryz.f71.results a w R) Y0 E) g w = S71_0 (g 0) (g 1) (g 2) (g 3) w R E := by kernel_rfl
theorem T71_0 (hs : a.tmps.size = 108) (R : K1) (E : Ev) (hR : ∀ a' w', Ag (wr C71_0) a a' → resQ P Tryz.f71.results (gt a') w' R → Q .ret a' w') (hE : HE Q E)
  (h : S71_0 (gt a 0) (gt a 1) (gt a 2) (gt a 3) w R E) : C71_0.wpIn (Fw r) 0 P (Qs (wr C71_0) a Q) a w :=
  piece' (HJ := HJ71_0 R E) (HL := Z0) hmix hs (by decide +kernel) (fun _ _ => False) (fun a w => resQ P Tryz.f71.results a w R) Y0 E (fun _ _ _ h => h.elim) hR
  (fun _ _ _ _ h => h.elim) hE
  ⟨pay (c := C71_j6) (W := wr C71_0) (h := fun a w => S71_j6 (a 0) (a 2) (a 3) (a 11) (a 13) (a 14) (a 15) w (fun x0 x2 x3 x11 x13 y => S71_j8 x0 x2 x3 x11 x13 y R E) R E) (by decide +kernel) fun a w hsz h => T71_j6 a w (hsz.trans hs) (fun x0 x2 x3 x11 x13 y => S71_j8 x0 x2 x3 x11 x13 y R E) R E (fun _ _ _ h => h) (fun _ _ _ h => h) (fun _ _ _ h => h) h, pay (c := C71_j8) (W := wr C71_0) (h := fun a w => S71_j8 (a 0) (a 2) (a 3) (a 11) (a 13) w R E) (by decide +kernel) fun a w hsz h => T71_j8 a w (hsz.trans hs) R E (fun _ _ _ h => h) (fun _ _ _ h => h) h, trivial⟩ (Eq.mpr (K71_0 (gt a) w R E) h)
theorem F71 (a0 a1 a2 a3 : Value) (w : World) (R : K1) (E : Ev) (h : S71_0 a0 a1 a2 a3 w R E) : C P 71 #[a0, a1, a2, a3] w R E := by
  have e : S71_0 (gt (A0 Tryz.f71.ntmps #[a0, a1, a2, a3]) 0) (gt (A0 Tryz.f71.ntmps #[a0, a1, a2, a3]) 1) (gt (A0 Tryz.f71.ntmps #[a0, a1, a2, a3]) 2) (gt (A0 Tryz.f71.ntmps #[a0, a1, a2, a3]) 3) w R E = S71_0 a0 a1 a2 a3 w R E := by kernel_rfl
  have t := T71_0 (r := none) (Q := QF P Tryz.f71 R E) (A0 Tryz.f71.ntmps #[a0, a1, a2, a3]) w (by kernel_rfl) R E (fun _ _ _ h => h) (fun _ _ _ h => h) (Eq.mpr e h)
  exact C_of (c := C71_0) Tryz.func71 (by kernel_rfl) t
def S72_j13 (v2 v6 v8 v9 v11 : Value) (w : World) (R : K1) (E : Ev) : Prop :=
  X P (.nilCheck v9) 0 w (fun t82 w1 =>
  X P (.fieldAddr 150 t82 1) 0 w1 (fun t83 w2 =>
  X P (.load 3 t83) 3 w2 (fun t84 w3 =>
  X P (.build 147 #[(0, v8), (1, v2)]) 147 w3 (fun t87 w4 =>
  X P (.callF 93 #[v9, t84, t87]) 0 w4 (fun t88 w5 =>
  X P (.nilCheck v9) 0 w5 (fun t90 w6 =>
  X P (.fieldAddr 150 t90 1) 0 w6 (fun t91 w7 =>
  X P (.load 3 t91) 3 w7 (fun t92 w8 =>
  X P (.bin .add 3 false true t92 (.int .i64 1)) 3 w8 (fun t93 w9 =>
  X P (.nilCheck v9) 0 w9 (fun t94 w10 =>
  X P (.fieldAddr 150 t94 1) 0 w10 (fun t95 w11 =>
  X P (.store 3 t95 t93) 0 w11 (fun _ w12 =>
  X P (.load 166 v11) 166 w12 (fun t96 w13 =>
  X P (.store 166 v6 t96) 0 w13 (fun _ w14 =>
  XRes P [(v6, some 166)] w14 R) E) E) E) E) E) E) E) E) E) E) E) E) E) E
noncomputable def C72_j13 : Code := cR (cR (cR (cR (cR (cR (bodyOf Tryz.f72))))))
theorem K72_j13 (g : Env) (w : World) (R : K1) (E : Ev) :
  vcF P Z0 Z0 C72_j13 (QC (fun _ _ => False) (fun a w => resQ P Tryz.f72.results a w R) Y0 E) g w = S72_j13 (g 2) (g 6) (g 8) (g 9) (g 11) w R E := by kernel_rfl
theorem T72_j13 (hs : a.tmps.size = 97) (R : K1) (E : Ev) (hR : ∀ a' w', Ag (wr C72_j13) a a' → resQ P Tryz.f72.results (gt a') w' R → Q .ret a' w') (hE : HE Q E)
  (h : S72_j13 (gt a 2) (gt a 6) (gt a 8) (gt a 9) (gt a 11) w R E) : C72_j13.wpIn (Fw r) 0 P (Qs (wr C72_j13) a Q) a w :=
  piece' (HJ := Z0) (HL := Z0) hmix hs (by decide +kernel) (fun _ _ => False) (fun a w => resQ P Tryz.f72.results a w R) Y0 E (fun _ _ _ h => h.elim) hR
  (fun _ _ _ _ h => h.elim) hE
  trivial (Eq.mpr (K72_j13 (gt a) w R E) h)
def S72_0 (v0 v1 v2 : Value) (w : World) (R : K1) (E : Ev) : Prop :=
  X P (.alloc 166) 0 w (fun t6 w1 =>
  X P (.nilCheck v0) 0 w1 (fun t14 w2 =>
  X P (.fieldAddr 153 t14 0) 0 w2 (fun t15 w3 =>
  X P (.load 28 t15) 28 w3 (fun t16 w4 =>
  X P (.callF 91 #[t16, v1]) 199 w4 (fun t18 w5 =>
  X P (.extract t18 0) 3 w5 (fun t19 w6 =>
  X P (.extract t18 1) 38 w6 (fun t20 w7 =>
  X P (.nilCheck v0) 0 w7 (fun t23 w8 =>
  X P (.fieldAddr 153 t23 1) 0 w8 (fun t24 w9 =>
  X P (.indexAddr 151 t24 t19) 0 w9 (fun t25 w10 =>
  X P (.callF 92 #[t25, t20]) 3 w10 (fun t28 w11 =>
  X P (.bin .geq 3 false true t28 (.int .i64 0)) 4 w11 (fun t30 w12 =>
  Cnd t30 (
  X P (.nilCheck t25) 0 w12 (fun t36 w13 =>
  X P (.fieldAddr 150 t36 0) 0 w13 (fun t37 w14 =>
  X P (.indexAddr 148 t37 t28) 0 w14 (fun t38 w15 =>
  X P (.fieldAddr 147 t38 1) 0 w15 (fun t39 w16 =>
  X P (.load 4 t39) 4 w16 (fun t40 w17 =>
  XG (some t40) false P (.val v2) 4 w17 (fun t42 w18 =>
  X P (.pick t40 (.bool true) t42) 4 w18 (fun t43 w19 =>
  X P (.build 147 #[(0, t20), (1, t43)]) 147 w19 (fun t44 w20 =>
  X P (.callF 93 #[t25, t28, t44]) 0 w20 (fun t45 w21 =>
  X P (.build 166 #[(0, (.bool true)), (2, (.int .i64 1))]) 166 w21 (fun t46 w22 =>
  X P (.store 166 t6 t46) 0 w22 (fun _ w23 =>
  XRes P [(t6, some 166)] w23 R) E) E) E) E) E) E) E) E) E) E) E) (
  X P (.build 166 #[(2, (.int .i64 12))]) 166 w12 (fun t47 w13 =>
  X P (.alloc 166) 0 w13 (fun t11 w14 =>
  X P (.store 166 t11 t47) 0 w14 (fun _ w15 =>
  XQ P (.nilCheck t25) 0 (drw w15) (fun t49 =>
  XQ P (.fieldAddr 150 t49 1) 0 (drw w15) (fun t50 =>
  XQ P (.load 3 t50) 3 (drw w15) (fun t51 =>
  XQ P (.nilCheck v0) 0 (drw w15) (fun t53 =>
  XQ P (.fieldAddr 153 t53 0) 0 (drw w15) (fun t54 =>
  XQ P (.fieldAddr 28 t54 1) 0 (drw w15) (fun t55 =>
  XQ P (.load 3 t55) 3 (drw w15) (fun t56 =>
  XQ P (.bin .eql 3 false false t51 t56) 4 (drw w15) (fun t57 =>
  Cnd t57 (
  X P (.nilCheck t25) 0 (drw w15) (fun t59 w16 =>
  X P (.fieldAddr 150 t59 1) 0 w16 (fun t60 w17 =>
  X P (.load 3 t60) 3 w17 (fun t61 w18 =>
  X P (.bin .sub 3 false true t61 (.int .i64 1)) 3 w18 (fun t62 w19 =>
  X P (.nilCheck t25) 0 w19 (fun t63 w20 =>
  X P (.fieldAddr 150 t63 1) 0 w20 (fun t64 w21 =>
  X P (.store 3 t64 t62) 0 w21 (fun _ w22 =>
  XQ P (.nilCheck t25) 0 (drw w22) (fun t67 =>
  XQ P (.fieldAddr 150 t67 1) 0 (drw w22) (fun t68 =>
  XQ P (.load 3 t68) 3 (drw w22) (fun t69 =>
  XQ P (.nilCheck t25) 0 (drw w22) (fun t70 =>
  XQ P (.fieldAddr 150 t70 0) 0 (drw w22) (fun t71 =>
  XQ P (.indexAddr 148 t71 t69) 0 (drw w22) (fun t72 =>
  XQ P (.fieldAddr 147 t72 1) 0 (drw w22) (fun t73 =>
  XQ P (.load 4 t73) 4 (drw w22) (fun t74 =>
  Cnd t74 (
  X P (.fieldAddr 166 t11 1) 0 (drw w22) (fun t75 w23 =>
  X P (.store 4 t75 (.bool true)) 0 w23 (fun _ w24 =>
  X P (.fieldAddr 166 t11 2) 0 w24 (fun t76 w25 =>
  X P (.load 3 t76) 3 w25 (fun t77 w26 =>
  X P (.bin .add 3 false true t77 (.int .i64 8)) 3 w26 (fun t78 w27 =>
  X P (.fieldAddr 166 t11 2) 0 w27 (fun t79 w28 =>
  X P (.store 3 t79 t78) 0 w28 (fun _ w29 =>
  S72_j13 v2 t6 t20 t25 t11 w29 R E) E) E) E) E) E) E) E) (
  S72_j13 v2 t6 t20 t25 t11 (drw w22) R E)))))))))) E) E) E) E) E) E) E) (
  S72_j13 v2 t6 t20 t25 t11 (drw w15) R E)))))))))) E) E) E)) E) E) E) E) E) E) E) E) E) E) E) E
noncomputable def C72_0 : Code := bodyOf Tryz.f72
noncomputable def HJ72_0 (R : K1) (E : Ev) : Cut := fun i => match i with | some 13 => some (fun a w => S72_j13 (a 2) (a 6) (a 8) (a 9) (a 11) w R E) | _ => none
theorem K72_0 (g : Env) (w : World) (R : K1) (E : Ev) :
  vcF P (HJ72_0 R E) Z0 C72_0 (QC (fun _ _ => False) (fun a w => resQ P Tryz.f72.results a w R) Y0 E) g w = S72_0 (g 0) (g 1) (g 2) w R E := by kernel_rfl
theorem T72_0 (hs : a.tmps.size = 97) (R : K1) (E : Ev) (hR : ∀ a' w', Ag (wr C72_0) a a' → resQ P Tryz.f72.results (gt a') w' R → Q .ret a' w') (hE : HE Q E)
  (h : S72_0 (gt a 0) (gt a 1) (gt a 2) w R E) : C72_0.wpIn (Fw r) 0 P (Qs (wr C72_0) a Q) a w :=
  piece' (HJ := HJ72_0 R E) (HL := Z0) hmix hs (by decide +kernel) (fun _ _ => False) (fun a w => resQ P Tryz.f72.results a w R) Y0 E (fun _ _ _ h => h.elim) hR
  (fun _ _ _ _ h => h.elim) hE
  ⟨pay (c := C72_j13) (W := wr C72_0) (h := fun a w => S72_j13 (a 2) (a 6) (a 8) (a 9) (a 11) w R E) (by decide +kernel) fun a w hsz h => T72_j13 a w (hsz.trans hs) R E (fun _ _ _ h => h) (fun _ _ _ h => h) h, trivial⟩ (Eq.mpr (K72_0 (gt a) w R E) h)
theorem F72 (a0 a1 a2 : Value) (w : World) (R : K1) (E : Ev) (h : S72_0 a0 a1 a2 w R E) : C P 72 #[a0, a1, a2] w R E := by
  have e : S72_0 (gt (A0 Tryz.f72.ntmps #[a0, a1, a2]) 0) (gt (A0 Tryz.f72.ntmps #[a0, a1, a2]) 1) (gt (A0 Tryz.f72.ntmps #[a0, a1, a2]) 2) w R E = S72_0 a0 a1 a2 w R E := by kernel_rfl
  have t := T72_0 (r := none) (Q := QF P Tryz.f72 R E) (A0 Tryz.f72.ntmps #[a0, a1, a2]) w (by kernel_rfl) R E (fun _ _ _ h => h) (fun _ _ _ h => h) (Eq.mpr e h)
  exact C_of (c := C72_0) Tryz.func72 (by kernel_rfl) t
def S73_0 (v0 : Value) (w : World) (R : K1) (E : Ev) : Prop :=
  X P (.box 28 v0) 0 w (fun t1 w1 =>
  X P (.fieldAddr 28 t1 0) 0 w1 (fun t3 w2 =>
  X P (.load 3 t3) 3 w2 (fun t4 w3 =>
  X P (.callF 94 #[t4, (.int .i64 1), (.int .i64 256)]) 4 w3 (fun t5 w4 =>
  XG (some t5) true P (.fieldAddr 28 t1 1) 0 w4 (fun t7 w5 =>
  XG (some t5) true P (.load 3 t7) 3 w5 (fun t8 w6 =>
  XG (some t5) true P (.bin .geq 3 false true t8 (.int .i64 1)) 4 w6 (fun t9 w7 =>
  X P (.pick t5 t9 (.bool false)) 4 w7 (fun t10 w8 =>
  XG (some t10) true P (.fieldAddr 28 t1 1) 0 w8 (fun t12 w9 =>
  XG (some t10) true P (.load 3 t12) 3 w9 (fun t13 w10 =>
  XG (some t10) true P (.bin .leq 3 false true t13 (.int .i64 8)) 4 w10 (fun t14 w11 =>
  X P (.pick t10 t14 (.bool false)) 4 w11 (fun t15 w12 =>
  XG (some t15) true P (.fieldAddr 28 t1 2) 0 w12 (fun t17 w13 =>
  XG (some t15) true P (.load 3 t17) 3 w13 (fun t18 w14 =>
  XG (some t15) true P (.callF 94 #[t18, (.int .i64 16), (.int .i64 256)]) 4 w14 (fun t19 w15 =>
  X P (.pick t15 t19 (.bool false)) 4 w15 (fun t20 w16 =>
  R t20 w16) E) E) E) E) E) E) E) E) E) E) E) E) E) E) E) E
noncomputable def C73_0 : Code := bodyOf Tryz.f73
theorem K73_0 (g : Env) (w : World) (R : K1) (E : Ev) :
  vcF P Z0 Z0 C73_0 (QC (fun _ _ => False) (fun a w => resQ P Tryz.f73.results a w R) Y0 E) g w = S73_0 (g 0) w R E := by kernel_rfl
theorem T73_0 (hs : a.tmps.size = 21) (R : K1) (E : Ev) (hR : ∀ a' w', Ag (wr C73_0) a a' → resQ P Tryz.f73.results (gt a') w' R → Q .ret a' w') (hE : HE Q E)
  (h : S73_0 (gt a 0) w R E) : C73_0.wpIn (Fw r) 0 P (Qs (wr C73_0) a Q) a w :=
  piece' (HJ := Z0) (HL := Z0) hmix hs (by decide +kernel) (fun _ _ => False) (fun a w => resQ P Tryz.f73.results a w R) Y0 E (fun _ _ _ h => h.elim) hR
  (fun _ _ _ _ h => h.elim) hE
  trivial (Eq.mpr (K73_0 (gt a) w R E) h)
theorem F73 (a0 : Value) (w : World) (R : K1) (E : Ev) (h : S73_0 a0 w R E) : C P 73 #[a0] w R E := by
  have e : S73_0 (gt (A0 Tryz.f73.ntmps #[a0]) 0) w R E = S73_0 a0 w R E := by kernel_rfl
  have t := T73_0 (r := none) (Q := QF P Tryz.f73 R E) (A0 Tryz.f73.ntmps #[a0]) w (by kernel_rfl) R E (fun _ _ _ h => h) (fun _ _ _ h => h) (Eq.mpr e h)
  exact C_of (c := C73_0) Tryz.func73 (by kernel_rfl) t
def S74_0 (v0 v1 v2 v3 : Value) (w : World) (R : K1) (E : Ev) : Prop :=
  X P (.callF 35 #[v0, v1, v2]) 53 w (fun t13 w1 =>
  X P (.bin .neq 53 false true t13 (.int .i64 0)) 4 w1 (fun t15 w2 =>
  Cnd t15 (
  R t13 w2) (
  X P (.buildSlice 34 1 #[(0, v3)]) 34 w2 (fun t20 w3 =>
  X P (.callF 95 #[t20, v2]) 34 w3 (fun t22 w4 =>
  X P (.callF 38 #[v0, v1, t22]) 0 w4 (fun t23 w5 =>
  R (.int .i64 0) w5) E) E) E)) E) E
noncomputable def C74_0 : Code := bodyOf Tryz.f74
theorem K74_0 (g : Env) (w : World) (R : K1) (E : Ev) :
  vcF P Z0 Z0 C74_0 (QC (fun _ _ => False) (fun a w => resQ P Tryz.f74.results a w R) Y0 E) g w = S74_0 (g 0) (g 1) (g 2) (g 3) w R E := by kernel_rfl
theorem T74_0 (hs : a.tmps.size = 24) (R : K1) (E : Ev) (hR : ∀ a' w', Ag (wr C74_0) a a' → resQ P Tryz.f74.results (gt a') w' R → Q .ret a' w') (hE : HE Q E)
  (h : S74_0 (gt a 0) (gt a 1) (gt a 2) (gt a 3) w R E) : C74_0.wpIn (Fw r) 0 P (Qs (wr C74_0) a Q) a w :=
  piece' (HJ := Z0) (HL := Z0) hmix hs (by decide +kernel) (fun _ _ => False) (fun a w => resQ P Tryz.f74.results a w R) Y0 E (fun _ _ _ h => h.elim) hR
  (fun _ _ _ _ h => h.elim) hE
  trivial (Eq.mpr (K74_0 (gt a) w R E) h)
theorem F74 (a0 a1 a2 a3 : Value) (w : World) (R : K1) (E : Ev) (h : S74_0 a0 a1 a2 a3 w R E) : C P 74 #[a0, a1, a2, a3] w R E := by
  have e : S74_0 (gt (A0 Tryz.f74.ntmps #[a0, a1, a2, a3]) 0) (gt (A0 Tryz.f74.ntmps #[a0, a1, a2, a3]) 1) (gt (A0 Tryz.f74.ntmps #[a0, a1, a2, a3]) 2) (gt (A0 Tryz.f74.ntmps #[a0, a1, a2, a3]) 3) w R E = S74_0 a0 a1 a2 a3 w R E := by kernel_rfl
  have t := T74_0 (r := none) (Q := QF P Tryz.f74 R E) (A0 Tryz.f74.ntmps #[a0, a1, a2, a3]) w (by kernel_rfl) R E (fun _ _ _ h => h) (fun _ _ _ h => h) (Eq.mpr e h)
  exact C_of (c := C74_0) Tryz.func74 (by kernel_rfl) t
def S75_j7 (w : World) (R : K1) (E : Ev) : Prop :=
  R (.int .i64 (-1)) w
noncomputable def C75_j7 : Code := cR (cR (bodyOf Tryz.f75))
theorem K75_j7 (g : Env) (w : World) (R : K1) (E : Ev) :
  vcF P Z0 Z0 C75_j7 (QC (fun _ _ => False) (fun a w => resQ P Tryz.f75.results a w R) Y0 E) g w = S75_j7 w R E := by kernel_rfl
theorem T75_j7 (hs : a.tmps.size = 19) (R : K1) (E : Ev) (hR : ∀ a' w', Ag (wr C75_j7) a a' → resQ P Tryz.f75.results (gt a') w' R → Q .ret a' w') (hE : HE Q E)
  (h : S75_j7 w R E) : C75_j7.wpIn (Fw r) 0 P (Qs (wr C75_j7) a Q) a w :=
  piece' (HJ := Z0) (HL := Z0) hmix hs (by decide +kernel) (fun _ _ => False) (fun a w => resQ P Tryz.f75.results a w R) Y0 E (fun _ _ _ h => h.elim) hR
  (fun _ _ _ _ h => h.elim) hE
  trivial (Eq.mpr (K75_j7 (gt a) w R E) h)
def S75_b2 (v0 v1 v7 v8 : Value) (w : World) (N : K4) (X0 : K0) (R : K1) (E : Ev) : Prop :=
  X P (.bin .lss 3 false false v8 v7) 0 w (fun t9 w1 =>
  Cnd t9 (
  X P (.indexAddr 57 v0 v8) 0 w1 (fun t14 w2 =>
  X P (.load 60 t14) 60 w2 (fun t15 w3 =>
  X P (.callV v1 #[t15]) 4 w3 (fun t16 w4 =>
  Cnd t16 (
  R v8 w4) (
  X P (.bin .add 3 false true v8 (.int .i64 1)) 3 w4 (fun t18 w5 =>
  N v0 v1 v7 t18 w5) E)) E) E) E) (
  X0 w1)) E
noncomputable def C75_b2 : Code := cB (cB (cR (cL (cR (bodyOf Tryz.f75)))))
noncomputable def J75_b2 (N : K4) (X0 : K0) (R : K1) (E : Ev) : Nat → Env → World → Prop := fun i a w => match i with | 0 => X0 w | _ => False
theorem K75_b2 (g : Env) (w : World) (N : K4) (X0 : K0) (R : K1) (E : Ev) :
  vcF P Z0 Z0 C75_b2 (QC (fun a w => N (a 0) (a 1) (a 7) (a 8) w) (fun a w => resQ P Tryz.f75.results a w R) (J75_b2 N X0 R E) E) g w = S75_b2 (g 0) (g 1) (g 7) (g 8) w N X0 R E := by kernel_rfl
theorem T75_b2 (hs : a.tmps.size = 19) (N : K4) (X0 : K0) (R : K1) (E : Ev) (hN : ∀ a' w', Ag (wr C75_b2) a a' → N (gt a' 0) (gt a' 1) (gt a' 7) (gt a' 8) w' → Q .normal a' w') (hX0 : ∀ a' w', Ag (wr C75_b2) a a' → X0 w' → Q (.exit 0) a' w') (hR : ∀ a' w', Ag (wr C75_b2) a a' → resQ P Tryz.f75.results (gt a') w' R → Q .ret a' w') (hE : HE Q E)
  (h : S75_b2 (gt a 0) (gt a 1) (gt a 7) (gt a 8) w N X0 R E) : C75_b2.wpIn (Fw r) 0 P (Qs (wr C75_b2) a Q) a w :=
  piece' (HJ := Z0) (HL := Z0) hmix hs (by decide +kernel) (fun a w => N (a 0) (a 1) (a 7) (a 8) w) (fun a w => resQ P Tryz.f75.results a w R) (J75_b2 N X0 R E) E hN hR
  (fun i a' w' hag h => by
  unfold J75_b2 at h
  split at h <;> first | exact hX0 _ _ hag h | exact h.elim) hE
  trivial (Eq.mpr (K75_b2 (gt a) w N X0 R E) h)
def S75_l2 (v0 v1 v7 v8 : Value) (w : World) (X0 : K0) (R : K1) (E : Ev) : Prop :=
  ∃ (I : K1) (μ : Value → World → Nat), I v8 w ∧ ∀ (v8 : Value) (w : World), I v8 w → S75_b2 v0 v1 v7 v8 w (fun x0 x1 x7 x8 y => I x8 y ∧ μ x8 y < μ v8 w) X0 R E
theorem T75_l2 (hs : a.tmps.size = 19) (X0 : K0) (R : K1) (E : Ev) (hX0 : ∀ a' w', Ag (wr (Code.loop C75_b2)) a a' → X0 w' → Q (.exit 0) a' w') (hR : ∀ a' w', Ag (wr (Code.loop C75_b2)) a a' → resQ P Tryz.f75.results (gt a') w' R → Q .ret a' w') (hE : HE Q E)
  (h : S75_l2 (gt a 0) (gt a 1) (gt a 7) (gt a 8) w X0 R E) : (Code.loop C75_b2).wpIn (Fw r) 0 P (Qs (wr (Code.loop C75_b2)) a Q) a w := by
  obtain ⟨I, μ, h0, hr⟩ := h
  refine loop_piece (c := C75_b2) (fun a w => I (gt a 8) w) (fun a w => μ (gt a 8) w) h0 fun a' w' hag hI => ?_
  have h' := hr (gt a' 8) w' hI
  rw [← hag.get 0 (by decide +kernel)] at h'
  rw [← hag.get 1 (by decide +kernel)] at h'
  rw [← hag.get 7 (by decide +kernel)] at h'
  exact T75_b2 a' w' (hag.size.trans hs) (fun x0 x1 x7 x8 y => I x8 y ∧ μ x8 y < μ (gt a' 8) w') X0 R E (fun _ _ _ h => h) (fun a1 w1 hag1 h => hX0 a1 w1 (hag.trans hag1) h) (fun a1 w1 hag1 h => hR a1 w1 (hag.trans hag1) h) hE h'
def S75_0 (v0 v1 : Value) (w : World) (R : K1) (E : Ev) : Prop :=
  X P (.callB .len #[57] #[false] #[v0]) 3 w (fun t7 w1 =>
  S75_l2 v0 v1 t7 (.int .i64 0) w1 (fun y => S75_j7 y R E) R E) E
noncomputable def C75_0 : Code := bodyOf Tryz.f75
noncomputable def HJ75_0 (R : K1) (E : Ev) : Cut := fun i => match i with | some 7 => some (fun a w => S75_j7 w R E) | _ => none
noncomputable def HL75_0 (R : K1) (E : Ev) : Cut := fun i => match i with | some 2 => some (fun a w => S75_l2 (a 0) (a 1) (a 7) (a 8) w (fun y => S75_j7 y R E) R E) | _ => none
theorem K75_0 (g : Env) (w : World) (R : K1) (E : Ev) :
  vcF P (HJ75_0 R E) (HL75_0 R E) C75_0 (QC (fun _ _ => False) (fun a w => resQ P Tryz.f75.results a w R) Y0 E) g w = S75_0 (g 0) (g 1) w R E := by kernel_rfl
theorem T75_0 (hs : a.tmps.size = 19) (R : K1) (E : Ev) (hR : ∀ a' w', Ag (wr C75_0) a a' → resQ P Tryz.f75.results (gt a') w' R → Q .ret a' w') (hE : HE Q E)
  (h : S75_0 (gt a 0) (gt a 1) w R E) : C75_0.wpIn (Fw r) 0 P (Qs (wr C75_0) a Q) a w :=
  piece' (HJ := HJ75_0 R E) (HL := HL75_0 R E) hmix hs (by decide +kernel) (fun _ _ => False) (fun a w => resQ P Tryz.f75.results a w R) Y0 E (fun _ _ _ h => h.elim) hR
  (fun _ _ _ _ h => h.elim) hE
  ⟨pay (c := Code.loop C75_b2) (W := wr C75_0) (h := fun a w => S75_l2 (a 0) (a 1) (a 7) (a 8) w (fun y => S75_j7 y R E) R E) (by decide +kernel) fun a w hsz h => T75_l2 a w (hsz.trans hs) (fun y => S75_j7 y R E) R E (fun _ _ _ h => h) (fun _ _ _ h => h) (fun _ _ _ h => h) h, pay (c := C75_j7) (W := wr C75_0) (h := fun a w => S75_j7 w R E) (by decide +kernel) fun a w hsz h => T75_j7 a w (hsz.trans hs) R E (fun _ _ _ h => h) (fun _ _ _ h => h) h, trivial⟩ (Eq.mpr (K75_0 (gt a) w R E) h)
theorem F75 (a0 a1 : Value) (w : World) (R : K1) (E : Ev) (h : S75_0 a0 a1 w R E) : C P 75 #[a0, a1] w R E := by
  have e : S75_0 (gt (A0 Tryz.f75.ntmps #[a0, a1]) 0) (gt (A0 Tryz.f75.ntmps #[a0, a1]) 1) w R E = S75_0 a0 a1 w R E := by kernel_rfl
  have t := T75_0 (r := none) (Q := QF P Tryz.f75 R E) (A0 Tryz.f75.ntmps #[a0, a1]) w (by kernel_rfl) R E (fun _ _ _ h => h) (fun _ _ _ h => h) (Eq.mpr e h)
  exact C_of (c := C75_0) Tryz.func75 (by kernel_rfl) t
def S76_j12 (v1 v4 v5 v6 : Value) (w : World) (R : K1) (E : Ev) : Prop :=
  X P (.un .not v6) 4 w (fun t28 w1 =>
  Cnd t28 (
  R (Value.tuple #[(.int .u32 0), (.int .i64 41)]) w1) (
  X P (.fieldAddr 129 v1 2) 0 w1 (fun t30 w2 =>
  X P (.load 38 t30) 38 w2 (fun t31 w3 =>
  X P (.bin .gtr 38 false false t31 v5) 4 w3 (fun t33 w4 =>
  Cnd t33 (
  R (Value.tuple #[(.int .u32 0), (.int .i64 42)]) w4) (
  X P (.fieldAddr 129 v1 2) 0 w4 (fun t34 w5 =>
  X P (.load 38 t34) 38 w5 (fun t35 w6 =>
  X P (.bin .shl 38 false true t35 (.int .u64 12)) 38 w6 (fun t36 w7 =>
  X P (.bin .or 38 false false t36 v4) 38 w7 (fun t38 w8 =>
  R (Value.tuple #[t38, (.int .i64 0)]) w8) E) E) E) E)) E) E) E)) E
noncomputable def C76_j12 : Code := cR (cR (cR (cR (cR (bodyOf Tryz.f76)))))
theorem K76_j12 (g : Env) (w : World) (R : K1) (E : Ev) :
  vcF P Z0 Z0 C76_j12 (QC (fun _ _ => False) (fun a w => resQ P Tryz.f76.results a w R) Y0 E) g w = S76_j12 (g 1) (g 4) (g 5) (g 6) w R E := by kernel_rfl
theorem T76_j12 (hs : a.tmps.size = 39) (R : K1) (E : Ev) (hR : ∀ a' w', Ag (wr C76_j12) a a' → resQ P Tryz.f76.results (gt a') w' R → Q .ret a' w') (hE : HE Q E)
  (h : S76_j12 (gt a 1) (gt a 4) (gt a 5) (gt a 6) w R E) : C76_j12.wpIn (Fw r) 0 P (Qs (wr C76_j12) a Q) a w :=
  piece' (HJ := Z0) (HL := Z0) hmix hs (by decide +kernel) (fun _ _ => False) (fun a w => resQ P Tryz.f76.results a w R) Y0 E (fun _ _ _ h => h.elim) hR
  (fun _ _ _ _ h => h.elim) hE
  trivial (Eq.mpr (K76_j12 (gt a) w R E) h)
def S76_0 (v0 : Value) (w : World) (R : K1) (E : Ev) : Prop :=
  X P (.box 129 v0) 0 w (fun t1 w1 =>
  X P (.fieldAddr 129 t1 1) 0 w1 (fun t7 w2 =>
  X P (.load 58 t7) 58 w2 (fun t8 w3 =>
  X P (.bin .eql 58 false true t8 (.int .u8 0)) 4 w3 (fun t9 w4 =>
  X P (.fieldAddr 129 t1 0) 0 w4 (fun t10 w5 =>
  X P (.load 127 t10) 127 w5 (fun t11 w6 =>
  X P (.bin .eql 127 false true t11 (.int .i64 0)) 4 w6 (fun t13 w7 =>
  Cnd t13 (
  S76_j12 t1 (.int .u32 0) (.int .u32 0) t9 w7 R E) (
  X P (.bin .eql 127 false true t11 (.int .i64 1)) 4 w7 (fun t15 w8 =>
  Cnd t15 (
  XQ P (.fieldAddr 129 t1 1) 0 (drw w8) (fun t16 =>
  XQ P (.load 58 t16) 58 (drw w8) (fun t17 =>
  XQ P (.conv 58 38 t17) 38 (drw w8) (fun t18 =>
  XQ P (.bin .shl 38 false true t18 (.int .u64 1)) 38 (drw w8) (fun t19 =>
  XQ P (.bin .or 38 true false (.int .u32 1) t19) 38 (drw w8) (fun t20 =>
  XQ P (.fieldAddr 129 t1 1) 0 (drw w8) (fun t21 =>
  XQ P (.load 58 t21) 58 (drw w8) (fun t22 =>
  (X P (.callF 96 #[t22]) 4 (drw w8) (fun t23 w9 =>
  (XQ P (.bin .or 38 true false (.int .u32 1) t19) 38 w9 (fun v => v = t20)) ∧
  (XQ P (.bin .shl 38 false true t18 (.int .u64 1)) 38 w9 (fun v => v = t19)) ∧
  (XQ P (.conv 58 38 t17) 38 w9 (fun v => v = t18)) ∧
  (XQ P (.load 58 t16) 58 w9 (fun v => v = t17)) ∧
  (XQ P (.fieldAddr 129 t1 1) 0 w9 (fun v => v = t16)) ∧
  S76_j12 t1 t20 (.int .u32 4095) t23 w9 R E) E))))))))) (
  X P (.bin .eql 127 false true t11 (.int .i64 2)) 4 w8 (fun t25 w9 =>
  Cnd t25 (
  S76_j12 t1 (.int .u32 17) (.int .u32 4095) t9 w9 R E) (
  R (Value.tuple #[(.int .u32 0), (.int .i64 40)]) w9)) E)) E)) E) E) E) E) E) E) E
noncomputable def C76_0 : Code := bodyOf Tryz.f76
noncomputable def HJ76_0 (R : K1) (E : Ev) : Cut := fun i => match i with | some 12 => some (fun a w => S76_j12 (a 1) (a 4) (a 5) (a 6) w R E) | _ => none
theorem K76_0 (g : Env) (w : World) (R : K1) (E : Ev) :
  vcF P (HJ76_0 R E) Z0 C76_0 (QC (fun _ _ => False) (fun a w => resQ P Tryz.f76.results a w R) Y0 E) g w = S76_0 (g 0) w R E := by kernel_rfl
theorem T76_0 (hs : a.tmps.size = 39) (R : K1) (E : Ev) (hR : ∀ a' w', Ag (wr C76_0) a a' → resQ P Tryz.f76.results (gt a') w' R → Q .ret a' w') (hE : HE Q E)
  (h : S76_0 (gt a 0) w R E) : C76_0.wpIn (Fw r) 0 P (Qs (wr C76_0) a Q) a w :=
  piece' (HJ := HJ76_0 R E) (HL := Z0) hmix hs (by decide +kernel) (fun _ _ => False) (fun a w => resQ P Tryz.f76.results a w R) Y0 E (fun _ _ _ h => h.elim) hR
  (fun _ _ _ _ h => h.elim) hE
  ⟨pay (c := C76_j12) (W := wr C76_0) (h := fun a w => S76_j12 (a 1) (a 4) (a 5) (a 6) w R E) (by decide +kernel) fun a w hsz h => T76_j12 a w (hsz.trans hs) R E (fun _ _ _ h => h) (fun _ _ _ h => h) h, trivial⟩ (Eq.mpr (K76_0 (gt a) w R E) h)
theorem F76 (a0 : Value) (w : World) (R : K1) (E : Ev) (h : S76_0 a0 w R E) : C P 76 #[a0] w R E := by
  have e : S76_0 (gt (A0 Tryz.f76.ntmps #[a0]) 0) w R E = S76_0 a0 w R E := by kernel_rfl
  have t := T76_0 (r := none) (Q := QF P Tryz.f76 R E) (A0 Tryz.f76.ntmps #[a0]) w (by kernel_rfl) R E (fun _ _ _ h => h) (fun _ _ _ h => h) (Eq.mpr e h)
  exact C_of (c := C76_0) Tryz.func76 (by kernel_rfl) t
def S77_0 (v0 v1 : Value) (w : World) (R : K1) (E : Ev) : Prop :=
  X P (.box 60 v0) 0 w (fun t2 w1 =>
  X P (.alloc 129) 0 w1 (fun t4 w2 =>
  X P (.fieldAddr 60 t2 3) 0 w2 (fun t5 w3 =>
  X P (.load 58 t5) 58 w3 (fun t6 w4 =>
  X P (.fieldAddr 60 t2 1) 0 w4 (fun t7 w5 =>
  X P (.load 38 t7) 38 w5 (fun t8 w6 =>
  X P (.bin .shr 38 false true t8 (.int .u64 12)) 38 w6 (fun t9 w7 =>
  X P (.bin .add 38 false false t9 v1) 38 w7 (fun t11 w8 =>
  X P (.build 129 #[(0, (.int .i64 1)), (1, t6), (2, t11)]) 129 w8 (fun t12 w9 =>
  X P (.store 129 t4 t12) 0 w9 (fun _ w10 =>
  XRes P [(t4, some 129)] w10 R) E) E) E) E) E) E) E) E) E) E
noncomputable def C77_0 : Code := bodyOf Tryz.f77
theorem K77_0 (g : Env) (w : World) (R : K1) (E : Ev) :
  vcF P Z0 Z0 C77_0 (QC (fun _ _ => False) (fun a w => resQ P Tryz.f77.results a w R) Y0 E) g w = S77_0 (g 0) (g 1) w R E := by kernel_rfl
theorem T77_0 (hs : a.tmps.size = 13) (R : K1) (E : Ev) (hR : ∀ a' w', Ag (wr C77_0) a a' → resQ P Tryz.f77.results (gt a') w' R → Q .ret a' w') (hE : HE Q E)
  (h : S77_0 (gt a 0) (gt a 1) w R E) : C77_0.wpIn (Fw r) 0 P (Qs (wr C77_0) a Q) a w :=
  piece' (HJ := Z0) (HL := Z0) hmix hs (by decide +kernel) (fun _ _ => False) (fun a w => resQ P Tryz.f77.results a w R) Y0 E (fun _ _ _ h => h.elim) hR
  (fun _ _ _ _ h => h.elim) hE
  trivial (Eq.mpr (K77_0 (gt a) w R E) h)
theorem F77 (a0 a1 : Value) (w : World) (R : K1) (E : Ev) (h : S77_0 a0 a1 w R E) : C P 77 #[a0, a1] w R E := by
  have e : S77_0 (gt (A0 Tryz.f77.ntmps #[a0, a1]) 0) (gt (A0 Tryz.f77.ntmps #[a0, a1]) 1) w R E = S77_0 a0 a1 w R E := by kernel_rfl
  have t := T77_0 (r := none) (Q := QF P Tryz.f77 R E) (A0 Tryz.f77.ntmps #[a0, a1]) w (by kernel_rfl) R E (fun _ _ _ h => h) (fun _ _ _ h => h) (Eq.mpr e h)
  exact C_of (c := C77_0) Tryz.func77 (by kernel_rfl) t
def S78_j8 (v0 v6 v7 v8 : Value) (w : World) (N : K4) (E : Ev) : Prop :=
  X P (.bin .add 3 false true v8 (.int .i64 1)) 3 w (fun t31 w1 =>
  N v0 v6 v7 t31 w1) E
noncomputable def C78_j8 : Code := cR (cR (cR (cB (cB (cR (bodyOf Tryz.f78))))))
theorem K78_j8 (g : Env) (w : World) (N : K4) (E : Ev) :
  vcF P Z0 Z0 C78_j8 (QC (fun a w => N (a 0) (a 6) (a 7) (a 8) w) (fun _ _ => False) Y0 E) g w = S78_j8 (g 0) (g 6) (g 7) (g 8) w N E := by kernel_rfl
theorem T78_j8 (hs : a.tmps.size = 32) (N : K4) (E : Ev) (hN : ∀ a' w', Ag (wr C78_j8) a a' → N (gt a' 0) (gt a' 6) (gt a' 7) (gt a' 8) w' → Q .normal a' w') (hE : HE Q E)
  (h : S78_j8 (gt a 0) (gt a 6) (gt a 7) (gt a 8) w N E) : C78_j8.wpIn (Fw r) 0 P (Qs (wr C78_j8) a Q) a w :=
  piece' (HJ := Z0) (HL := Z0) hmix hs (by decide +kernel) (fun a w => N (a 0) (a 6) (a 7) (a 8) w) (fun _ _ => False) Y0 E hN (fun _ _ _ h => h.elim)
  (fun _ _ _ _ h => h.elim) hE
  trivial (Eq.mpr (K78_j8 (gt a) w N E) h)
def S78_b4 (v0 v4 v6 v7 v8 v14 v15 : Value) (w : World) (N : K7) (X2 : K4) (R : K1) (E : Ev) : Prop :=
  X P (.bin .lss 38 false false v15 v14) 4 w (fun t16 w1 =>
  Cnd t16 (
  XQ P (.fieldAddr 60 v4 0) 0 (drw w1) (fun t19 =>
  XQ P (.load 38 t19) 38 (drw w1) (fun t20 =>
  XQ P (.bin .shr 38 false true t20 (.int .u64 12)) 38 (drw w1) (fun t21 =>
  XQ P (.bin .add 38 false false t21 v15) 38 (drw w1) (fun t23 =>
  XQ P (.load 60 v4) 60 (drw w1) (fun t25 =>
  (X P (.callF 79 #[t23]) 122 (drw w1) (fun t24 w2 =>
  (XQ P (.load 60 v4) 60 w2 (fun v => v = t25)) ∧
  (X P (.callF 77 #[t25, v15]) 129 w2 (fun t27 w3 =>
  (X P (.callV v0 #[t24, t27]) 4 w3 (fun t28 w4 =>
  XQ P (.un .not t28) 4 w4 (fun t29 =>
  Cnd t29 (
  R (Value.tuple #[]) w4) (
  X P (.bin .add 38 false true v15 (.int .u32 1)) 38 w4 (fun t30 w5 =>
  N v0 v4 v6 v7 v8 v14 t30 w5) E))) E)) E)) E))))))) (
  X2 v0 v6 v7 v8 w1)) E
noncomputable def C78_b4 : Code := cB (cB (cR (cR (cB (cL (cR (cR (cB (cB (cR (bodyOf Tryz.f78)))))))))))
noncomputable def J78_b4 (N : K7) (X2 : K4) (R : K1) (E : Ev) : Nat → Env → World → Prop := fun i a w => match i with | 2 => X2 (a 0) (a 6) (a 7) (a 8) w | _ => False
theorem K78_b4 (g : Env) (w : World) (N : K7) (X2 : K4) (R : K1) (E : Ev) :
  vcF P Z0 Z0 C78_b4 (QC (fun a w => N (a 0) (a 4) (a 6) (a 7) (a 8) (a 14) (a 15) w) (fun a w => resQ P Tryz.f78.results a w R) (J78_b4 N X2 R E) E) g w = S78_b4 (g 0) (g 4) (g 6) (g 7) (g 8) (g 14) (g 15) w N X2 R E := by kernel_rfl
theorem T78_b4 (hs : a.tmps.size = 32) (N : K7) (X2 : K4) (R : K1) (E : Ev) (hN : ∀ a' w', Ag (wr C78_b4) a a' → N (gt a' 0) (gt a' 4) (gt a' 6) (gt a' 7) (gt a' 8) (gt a' 14) (gt a' 15) w' → Q .normal a' w') (hX2 : ∀ a' w', Ag (wr C78_b4) a a' → X2 (gt a' 0) (gt a' 6) (gt a' 7) (gt a' 8) w' → Q (.exit 2) a' w') (hR : ∀ a' w', Ag (wr C78_b4) a a' → resQ P Tryz.f78.results (gt a') w' R → Q .ret a' w') (hE : HE Q E)
  (h : S78_b4 (gt a 0) (gt a 4) (gt a 6) (gt a 7) (gt a 8) (gt a 14) (gt a 15) w N X2 R E) : C78_b4.wpIn (Fw r) 0 P (Qs (wr C78_b4) a Q) a w :=
  piece' (HJ := Z0) (HL := Z0) hmix hs (by decide +kernel) (fun a w => N (a 0) (a 4) (a 6) (a 7) (a 8) (a 14) (a 15) w) (fun a w => resQ P Tryz.f78.results a w R) (J78_b4 N X2 R E) E hN hR
  (fun i a' w' hag h => by
  unfold J78_b4 at h
  split at h <;> first | exact hX2 _ _ hag h | exact h.elim) hE
  trivial (Eq.mpr (K78_b4 (gt a) w N X2 R E) h)
def S78_l4 (v0 v4 v6 v7 v8 v14 v15 : Value) (w : World) (X2 : K4) (R : K1) (E : Ev) : Prop :=
  ∃ (I : K1) (μ : Value → World → Nat), I v15 w ∧ ∀ (v15 : Value) (w : World), I v15 w → S78_b4 v0 v4 v6 v7 v8 v14 v15 w (fun x0 x4 x6 x7 x8 x14 x15 y => I x15 y ∧ μ x15 y < μ v15 w) X2 R E
theorem T78_l4 (hs : a.tmps.size = 32) (X2 : K4) (R : K1) (E : Ev) (hX2 : ∀ a' w', Ag (wr (Code.loop C78_b4)) a a' → X2 (gt a' 0) (gt a' 6) (gt a' 7) (gt a' 8) w' → Q (.exit 2) a' w') (hR : ∀ a' w', Ag (wr (Code.loop C78_b4)) a a' → resQ P Tryz.f78.results (gt a') w' R → Q .ret a' w') (hE : HE Q E)
  (h : S78_l4 (gt a 0) (gt a 4) (gt a 6) (gt a 7) (gt a 8) (gt a 14) (gt a 15) w X2 R E) : (Code.loop C78_b4).wpIn (Fw r) 0 P (Qs (wr (Code.loop C78_b4)) a Q) a w := by
  obtain ⟨I, μ, h0, hr⟩ := h
  refine loop_piece (c := C78_b4) (fun a w => I (gt a 15) w) (fun a w => μ (gt a 15) w) h0 fun a' w' hag hI => ?_
  have h' := hr (gt a' 15) w' hI
  rw [← hag.get 0 (by decide +kernel)] at h'
  rw [← hag.get 4 (by decide +kernel)] at h'
  rw [← hag.get 6 (by decide +kernel)] at h'
  rw [← hag.get 7 (by decide +kernel)] at h'
  rw [← hag.get 8 (by decide +kernel)] at h'
  rw [← hag.get 14 (by decide +kernel)] at h'
  exact T78_b4 a' w' (hag.size.trans hs) (fun x0 x4 x6 x7 x8 x14 x15 y => I x15 y ∧ μ x15 y < μ (gt a' 15) w') X2 R E (fun _ _ _ h => h) (fun a1 w1 hag1 h => hX2 a1 w1 (hag.trans hag1) h) (fun a1 w1 hag1 h => hR a1 w1 (hag.trans hag1) h) hE h'
def S78_b1 (v0 v6 v7 v8 : Value) (w : World) (N : K4) (R : K1) (E : Ev) : Prop :=
  X P (.bin .lss 3 false false v8 v7) 0 w (fun t9 w1 =>
  Cnd t9 (
  X P (.indexAddr 57 v6 v8) 0 w1 (fun t10 w2 =>
  X P (.load 60 t10) 60 w2 (fun t11 w3 =>
  X P (.alloc 60) 0 w3 (fun t4 w4 =>
  X P (.store 60 t4 t11) 0 w4 (fun _ w5 =>
  X P (.fieldAddr 60 t4 2) 0 w5 (fun t12 w6 =>
  X P (.load 3 t12) 3 w6 (fun t13 w7 =>
  X P (.conv 3 38 t13) 38 w7 (fun t14 w8 =>
  S78_l4 v0 t4 v6 v7 v8 t14 (.int .u32 0) w8 (fun x0 x6 x7 x8 y => S78_j8 x0 x6 x7 x8 y N E) R E) E) E) E) E) E) E) E) (
  R (Value.tuple #[]) w1)) E
noncomputable def C78_b1 : Code := cB (cB (cR (bodyOf Tryz.f78)))
noncomputable def HJ78_b1 (N : K4) (R : K1) (E : Ev) : Cut := fun i => match i with | some 8 => some (fun a w => S78_j8 (a 0) (a 6) (a 7) (a 8) w N E) | _ => none
noncomputable def HL78_b1 (N : K4) (R : K1) (E : Ev) : Cut := fun i => match i with | some 4 => some (fun a w => S78_l4 (a 0) (a 4) (a 6) (a 7) (a 8) (a 14) (a 15) w (fun x0 x6 x7 x8 y => S78_j8 x0 x6 x7 x8 y N E) R E) | _ => none
noncomputable def J78_b1 (N : K4) (R : K1) (E : Ev) : Nat → Env → World → Prop := fun i a w => match i with | 0 => resQ P Tryz.f78.results a w R | _ => False
theorem K78_b1 (g : Env) (w : World) (N : K4) (R : K1) (E : Ev) :
  vcF P (HJ78_b1 N R E) (HL78_b1 N R E) C78_b1 (QC (fun a w => N (a 0) (a 6) (a 7) (a 8) w) (fun a w => resQ P Tryz.f78.results a w R) (J78_b1 N R E) E) g w = S78_b1 (g 0) (g 6) (g 7) (g 8) w N R E := by kernel_rfl
theorem T78_b1 (hs : a.tmps.size = 32) (N : K4) (R : K1) (E : Ev) (hN : ∀ a' w', Ag (wr C78_b1) a a' → N (gt a' 0) (gt a' 6) (gt a' 7) (gt a' 8) w' → Q .normal a' w') (hX0 : ∀ a' w', Ag (wr C78_b1) a a' → resQ P Tryz.f78.results (gt a') w' R → Q (.exit 0) a' w') (hR : ∀ a' w', Ag (wr C78_b1) a a' → resQ P Tryz.f78.results (gt a') w' R → Q .ret a' w') (hE : HE Q E)
  (h : S78_b1 (gt a 0) (gt a 6) (gt a 7) (gt a 8) w N R E) : C78_b1.wpIn (Fw r) 0 P (Qs (wr C78_b1) a Q) a w :=
  piece' (HJ := HJ78_b1 N R E) (HL := HL78_b1 N R E) hmix hs (by decide +kernel) (fun a w => N (a 0) (a 6) (a 7) (a 8) w) (fun a w => resQ P Tryz.f78.results a w R) (J78_b1 N R E) E hN hR
  (fun i a' w' hag h => by
  unfold J78_b1 at h
  split at h <;> first | exact hX0 _ _ hag h | exact h.elim) hE
  ⟨pay (c := Code.loop C78_b4) (W := wr C78_b1) (h := fun a w => S78_l4 (a 0) (a 4) (a 6) (a 7) (a 8) (a 14) (a 15) w (fun x0 x6 x7 x8 y => S78_j8 x0 x6 x7 x8 y N E) R E) (by decide +kernel) fun a w hsz h => T78_l4 a w (hsz.trans hs) (fun x0 x6 x7 x8 y => S78_j8 x0 x6 x7 x8 y N E) R E (fun _ _ _ h => h) (fun _ _ _ h => h) (fun _ _ _ h => h) h, pay (c := C78_j8) (W := wr C78_b1) (h := fun a w => S78_j8 (a 0) (a 6) (a 7) (a 8) w N E) (by decide +kernel) fun a w hsz h => T78_j8 a w (hsz.trans hs) N E (fun _ _ _ h => h) (fun _ _ _ h => h) h, trivial⟩ (Eq.mpr (K78_b1 (gt a) w N R E) h)
def S78_l1 (v0 v6 v7 v8 : Value) (w : World) (R : K1) (E : Ev) : Prop :=
  ∃ (I : K1) (μ : Value → World → Nat), I v8 w ∧ ∀ (v8 : Value) (w : World), I v8 w → S78_b1 v0 v6 v7 v8 w (fun x0 x6 x7 x8 y => I x8 y ∧ μ x8 y < μ v8 w) R E
theorem T78_l1 (hs : a.tmps.size = 32) (R : K1) (E : Ev) (hX0 : ∀ a' w', Ag (wr (Code.loop C78_b1)) a a' → resQ P Tryz.f78.results (gt a') w' R → Q (.exit 0) a' w') (hR : ∀ a' w', Ag (wr (Code.loop C78_b1)) a a' → resQ P Tryz.f78.results (gt a') w' R → Q .ret a' w') (hE : HE Q E)
  (h : S78_l1 (gt a 0) (gt a 6) (gt a 7) (gt a 8) w R E) : (Code.loop C78_b1).wpIn (Fw r) 0 P (Qs (wr (Code.loop C78_b1)) a Q) a w := by
  obtain ⟨I, μ, h0, hr⟩ := h
  refine loop_piece (c := C78_b1) (fun a w => I (gt a 8) w) (fun a w => μ (gt a 8) w) h0 fun a' w' hag hI => ?_
  have h' := hr (gt a' 8) w' hI
  rw [← hag.get 0 (by decide +kernel)] at h'
  rw [← hag.get 6 (by decide +kernel)] at h'
  rw [← hag.get 7 (by decide +kernel)] at h'
  exact T78_b1 a' w' (hag.size.trans hs) (fun x0 x6 x7 x8 y => I x8 y ∧ μ x8 y < μ (gt a' 8) w') R E (fun _ _ _ h => h) (fun a1 w1 hag1 h => hX0 a1 w1 (hag.trans hag1) h) (fun a1 w1 hag1 h => hR a1 w1 (hag.trans hag1) h) hE h'
def S78_0 (v0 v1 : Value) (w : World) (R : K1) (E : Ev) : Prop :=
  X P (.load 57 v1) 57 w (fun t6 w1 =>
  X P (.callB .len #[57] #[false] #[t6]) 3 w1 (fun t7 w2 =>
  S78_l1 v0 t6 t7 (.int .i64 0) w2 R E) E) E
noncomputable def C78_0 : Code := bodyOf Tryz.f78
noncomputable def HL78_0 (R : K1) (E : Ev) : Cut := fun i => match i with | some 1 => some (fun a w => S78_l1 (a 0) (a 6) (a 7) (a 8) w R E) | _ => none
theorem K78_0 (g : Env) (w : World) (R : K1) (E : Ev) :
  vcF P Z0 (HL78_0 R E) C78_0 (QC (fun a w => resQ P Tryz.f78.results a w R) (fun a w => resQ P Tryz.f78.results a w R) Y0 E) g w = S78_0 (g 0) (g 1) w R E := by kernel_rfl
theorem T78_0 (hs : a.tmps.size = 32) (R : K1) (E : Ev) (hN : ∀ a' w', Ag (wr C78_0) a a' → resQ P Tryz.f78.results (gt a') w' R → Q .normal a' w') (hR : ∀ a' w', Ag (wr C78_0) a a' → resQ P Tryz.f78.results (gt a') w' R → Q .ret a' w') (hE : HE Q E)
  (h : S78_0 (gt a 0) (gt a 1) w R E) : C78_0.wpIn (Fw r) 0 P (Qs (wr C78_0) a Q) a w :=
  piece' (HJ := Z0) (HL := HL78_0 R E) hmix hs (by decide +kernel) (fun a w => resQ P Tryz.f78.results a w R) (fun a w => resQ P Tryz.f78.results a w R) Y0 E hN hR
  (fun _ _ _ _ h => h.elim) hE
  ⟨pay (c := Code.loop C78_b1) (W := wr C78_0) (h := fun a w => S78_l1 (a 0) (a 6) (a 7) (a 8) w R E) (by decide +kernel) fun a w hsz h => T78_l1 a w (hsz.trans hs) R E (fun _ _ _ h => h) (fun _ _ _ h => h) (fun _ _ _ h => h) h, trivial⟩ (Eq.mpr (K78_0 (gt a) w R E) h)
theorem F78 (a0 a1 : Value) (w : World) (R : K1) (E : Ev) (h : S78_0 a0 a1 w R E) : C P 78 #[a0, a1] w R E := by
  have e : S78_0 (gt (A0 Tryz.f78.ntmps #[a0, a1]) 0) (gt (A0 Tryz.f78.ntmps #[a0, a1]) 1) w R E = S78_0 a0 a1 w R E := by kernel_rfl
  have t := T78_0 (r := none) (Q := QF P Tryz.f78 R E) (A0 Tryz.f78.ntmps #[a0, a1]) w (by kernel_rfl) R E (fun _ _ _ h => h) (fun _ _ _ h => h) (fun _ _ _ h => h) (Eq.mpr e h)
  exact C_of (c := C78_0) Tryz.func78 (by kernel_rfl) t
def S79_0 (v0 : Value) (w : World) (R : K1) (E : Ev) : Prop :=
  X P (.alloc 122) 0 w (fun t2 w1 =>
  X P (.bin .quo 38 false true v0 (.int .u32 1024)) 38 w1 (fun t4 w2 =>
  X P (.bin .rem 38 false true v0 (.int .u32 1024)) 38 w2 (fun t6 w3 =>
  X P (.build 122 #[(0, t4), (1, t6)]) 122 w3 (fun t7 w4 =>
  X P (.store 122 t2 t7) 0 w4 (fun _ w5 =>
  XRes P [(t2, some 122)] w5 R) E) E) E) E) E
noncomputable def C79_0 : Code := bodyOf Tryz.f79
theorem K79_0 (g : Env) (w : World) (R : K1) (E : Ev) :
  vcF P Z0 Z0 C79_0 (QC (fun _ _ => False) (fun a w => resQ P Tryz.f79.results a w R) Y0 E) g w = S79_0 (g 0) w R E := by kernel_rfl
theorem T79_0 (hs : a.tmps.size = 8) (R : K1) (E : Ev) (hR : ∀ a' w', Ag (wr C79_0) a a' → resQ P Tryz.f79.results (gt a') w' R → Q .ret a' w') (hE : HE Q E)
  (h : S79_0 (gt a 0) w R E) : C79_0.wpIn (Fw r) 0 P (Qs (wr C79_0) a Q) a w :=
  piece' (HJ := Z0) (HL := Z0) hmix hs (by decide +kernel) (fun _ _ => False) (fun a w => resQ P Tryz.f79.results a w R) Y0 E (fun _ _ _ h => h.elim) hR
  (fun _ _ _ _ h => h.elim) hE
  trivial (Eq.mpr (K79_0 (gt a) w R E) h)
theorem F79 (a0 : Value) (w : World) (R : K1) (E : Ev) (h : S79_0 a0 w R E) : C P 79 #[a0] w R E := by
  have e : S79_0 (gt (A0 Tryz.f79.ntmps #[a0]) 0) w R E = S79_0 a0 w R E := by kernel_rfl
  have t := T79_0 (r := none) (Q := QF P Tryz.f79 R E) (A0 Tryz.f79.ntmps #[a0]) w (by kernel_rfl) R E (fun _ _ _ h => h) (fun _ _ _ h => h) (Eq.mpr e h)
  exact C_of (c := C79_0) Tryz.func79 (by kernel_rfl) t
def S80_j7 (w : World) (R : K1) (E : Ev) : Prop :=
  R (.int .i64 (-1)) w
noncomputable def C80_j7 : Code := cR (cR (bodyOf Tryz.f80))
theorem K80_j7 (g : Env) (w : World) (R : K1) (E : Ev) :
  vcF P Z0 Z0 C80_j7 (QC (fun _ _ => False) (fun a w => resQ P Tryz.f80.results a w R) Y0 E) g w = S80_j7 w R E := by kernel_rfl
theorem T80_j7 (hs : a.tmps.size = 19) (R : K1) (E : Ev) (hR : ∀ a' w', Ag (wr C80_j7) a a' → resQ P Tryz.f80.results (gt a') w' R → Q .ret a' w') (hE : HE Q E)
  (h : S80_j7 w R E) : C80_j7.wpIn (Fw r) 0 P (Qs (wr C80_j7) a Q) a w :=
  piece' (HJ := Z0) (HL := Z0) hmix hs (by decide +kernel) (fun _ _ => False) (fun a w => resQ P Tryz.f80.results a w R) Y0 E (fun _ _ _ h => h.elim) hR
  (fun _ _ _ _ h => h.elim) hE
  trivial (Eq.mpr (K80_j7 (gt a) w R E) h)
def S80_b2 (v0 v1 v7 v8 : Value) (w : World) (N : K4) (X0 : K0) (R : K1) (E : Ev) : Prop :=
  X P (.bin .lss 3 false false v8 v7) 0 w (fun t9 w1 =>
  Cnd t9 (
  X P (.indexAddr 117 v0 v8) 0 w1 (fun t14 w2 =>
  X P (.load 38 t14) 38 w2 (fun t15 w3 =>
  X P (.bin .eql 38 false false v1 t15) 4 w3 (fun t16 w4 =>
  Cnd t16 (
  R v8 w4) (
  X P (.bin .add 3 false true v8 (.int .i64 1)) 3 w4 (fun t18 w5 =>
  N v0 v1 v7 t18 w5) E)) E) E) E) (
  X0 w1)) E
noncomputable def C80_b2 : Code := cB (cB (cR (cL (cR (bodyOf Tryz.f80)))))
noncomputable def J80_b2 (N : K4) (X0 : K0) (R : K1) (E : Ev) : Nat → Env → World → Prop := fun i a w => match i with | 0 => X0 w | _ => False
theorem K80_b2 (g : Env) (w : World) (N : K4) (X0 : K0) (R : K1) (E : Ev) :
  vcF P Z0 Z0 C80_b2 (QC (fun a w => N (a 0) (a 1) (a 7) (a 8) w) (fun a w => resQ P Tryz.f80.results a w R) (J80_b2 N X0 R E) E) g w = S80_b2 (g 0) (g 1) (g 7) (g 8) w N X0 R E := by kernel_rfl
theorem T80_b2 (hs : a.tmps.size = 19) (N : K4) (X0 : K0) (R : K1) (E : Ev) (hN : ∀ a' w', Ag (wr C80_b2) a a' → N (gt a' 0) (gt a' 1) (gt a' 7) (gt a' 8) w' → Q .normal a' w') (hX0 : ∀ a' w', Ag (wr C80_b2) a a' → X0 w' → Q (.exit 0) a' w') (hR : ∀ a' w', Ag (wr C80_b2) a a' → resQ P Tryz.f80.results (gt a') w' R → Q .ret a' w') (hE : HE Q E)
  (h : S80_b2 (gt a 0) (gt a 1) (gt a 7) (gt a 8) w N X0 R E) : C80_b2.wpIn (Fw r) 0 P (Qs (wr C80_b2) a Q) a w :=
  piece' (HJ := Z0) (HL := Z0) hmix hs (by decide +kernel) (fun a w => N (a 0) (a 1) (a 7) (a 8) w) (fun a w => resQ P Tryz.f80.results a w R) (J80_b2 N X0 R E) E hN hR
  (fun i a' w' hag h => by
  unfold J80_b2 at h
  split at h <;> first | exact hX0 _ _ hag h | exact h.elim) hE
  trivial (Eq.mpr (K80_b2 (gt a) w N X0 R E) h)
def S80_l2 (v0 v1 v7 v8 : Value) (w : World) (X0 : K0) (R : K1) (E : Ev) : Prop :=
  ∃ (I : K1) (μ : Value → World → Nat), I v8 w ∧ ∀ (v8 : Value) (w : World), I v8 w → S80_b2 v0 v1 v7 v8 w (fun x0 x1 x7 x8 y => I x8 y ∧ μ x8 y < μ v8 w) X0 R E
theorem T80_l2 (hs : a.tmps.size = 19) (X0 : K0) (R : K1) (E : Ev) (hX0 : ∀ a' w', Ag (wr (Code.loop C80_b2)) a a' → X0 w' → Q (.exit 0) a' w') (hR : ∀ a' w', Ag (wr (Code.loop C80_b2)) a a' → resQ P Tryz.f80.results (gt a') w' R → Q .ret a' w') (hE : HE Q E)
  (h : S80_l2 (gt a 0) (gt a 1) (gt a 7) (gt a 8) w X0 R E) : (Code.loop C80_b2).wpIn (Fw r) 0 P (Qs (wr (Code.loop C80_b2)) a Q) a w := by
  obtain ⟨I, μ, h0, hr⟩ := h
  refine loop_piece (c := C80_b2) (fun a w => I (gt a 8) w) (fun a w => μ (gt a 8) w) h0 fun a' w' hag hI => ?_
  have h' := hr (gt a' 8) w' hI
  rw [← hag.get 0 (by decide +kernel)] at h'
  rw [← hag.get 1 (by decide +kernel)] at h'
  rw [← hag.get 7 (by decide +kernel)] at h'
  exact T80_b2 a' w' (hag.size.trans hs) (fun x0 x1 x7 x8 y => I x8 y ∧ μ x8 y < μ (gt a' 8) w') X0 R E (fun _ _ _ h => h) (fun a1 w1 hag1 h => hX0 a1 w1 (hag.trans hag1) h) (fun a1 w1 hag1 h => hR a1 w1 (hag.trans hag1) h) hE h'
def S80_0 (v0 v1 : Value) (w : World) (R : K1) (E : Ev) : Prop :=
  X P (.callB .len #[117] #[false] #[v0]) 3 w (fun t7 w1 =>
  S80_l2 v0 v1 t7 (.int .i64 0) w1 (fun y => S80_j7 y R E) R E) E
noncomputable def C80_0 : Code := bodyOf Tryz.f80
noncomputable def HJ80_0 (R : K1) (E : Ev) : Cut := fun i => match i with | some 7 => some (fun a w => S80_j7 w R E) | _ => none
noncomputable def HL80_0 (R : K1) (E : Ev) : Cut := fun i => match i with | some 2 => some (fun a w => S80_l2 (a 0) (a 1) (a 7) (a 8) w (fun y => S80_j7 y R E) R E) | _ => none
theorem K80_0 (g : Env) (w : World) (R : K1) (E : Ev) :
  vcF P (HJ80_0 R E) (HL80_0 R E) C80_0 (QC (fun _ _ => False) (fun a w => resQ P Tryz.f80.results a w R) Y0 E) g w = S80_0 (g 0) (g 1) w R E := by kernel_rfl
theorem T80_0 (hs : a.tmps.size = 19) (R : K1) (E : Ev) (hR : ∀ a' w', Ag (wr C80_0) a a' → resQ P Tryz.f80.results (gt a') w' R → Q .ret a' w') (hE : HE Q E)
  (h : S80_0 (gt a 0) (gt a 1) w R E) : C80_0.wpIn (Fw r) 0 P (Qs (wr C80_0) a Q) a w :=
  piece' (HJ := HJ80_0 R E) (HL := HL80_0 R E) hmix hs (by decide +kernel) (fun _ _ => False) (fun a w => resQ P Tryz.f80.results a w R) Y0 E (fun _ _ _ h => h.elim) hR
  (fun _ _ _ _ h => h.elim) hE
  ⟨pay (c := Code.loop C80_b2) (W := wr C80_0) (h := fun a w => S80_l2 (a 0) (a 1) (a 7) (a 8) w (fun y => S80_j7 y R E) R E) (by decide +kernel) fun a w hsz h => T80_l2 a w (hsz.trans hs) (fun y => S80_j7 y R E) R E (fun _ _ _ h => h) (fun _ _ _ h => h) (fun _ _ _ h => h) h, pay (c := C80_j7) (W := wr C80_0) (h := fun a w => S80_j7 w R E) (by decide +kernel) fun a w hsz h => T80_j7 a w (hsz.trans hs) R E (fun _ _ _ h => h) (fun _ _ _ h => h) h, trivial⟩ (Eq.mpr (K80_0 (gt a) w R E) h)
theorem F80 (a0 a1 : Value) (w : World) (R : K1) (E : Ev) (h : S80_0 a0 a1 w R E) : C P 80 #[a0, a1] w R E := by
  have e : S80_0 (gt (A0 Tryz.f80.ntmps #[a0, a1]) 0) (gt (A0 Tryz.f80.ntmps #[a0, a1]) 1) w R E = S80_0 a0 a1 w R E := by kernel_rfl
  have t := T80_0 (r := none) (Q := QF P Tryz.f80 R E) (A0 Tryz.f80.ntmps #[a0, a1]) w (by kernel_rfl) R E (fun _ _ _ h => h) (fun _ _ _ h => h) (Eq.mpr e h)
  exact C_of (c := C80_0) Tryz.func80 (by kernel_rfl) t
end Go.Eng
namespace Go.Eng
open Go.Proofs
variable {r : Option Nat} {Q : Qx} (a : Act) (w : World)
set_option maxRecDepth 100000
def S81_0 (v0 v1 : Value) (w : World) (R : K1) (E : Ev) : Prop :=
  X P (.callF 97 #[v0, v1]) 3 w (fun t7 w1 =>
  X P (.bin .geq 3 false true t7 (.int .i64 0)) 4 w1 (fun t8 w2 =>
  R t8 w2) E) E
noncomputable def C81_0 : Code := bodyOf Tryz.f81
theorem K81_0 (g : Env) (w : World) (R : K1) (E : Ev) :
  vcF P Z0 Z0 C81_0 (QC (fun _ _ => False) (fun a w => resQ P Tryz.f81.results a w R) Y0 E) g w = S81_0 (g 0) (g 1) w R E := by kernel_rfl
theorem T81_0 (hs : a.tmps.size = 9) (R : K1) (E : Ev) (hR : ∀ a' w', Ag (wr C81_0) a a' → resQ P Tryz.f81.results (gt a') w' R → Q .ret a' w') (hE : HE Q E)
  (h : S81_0 (gt a 0) (gt a 1) w R E) : C81_0.wpIn (Fw r) 0 P (Qs (wr C81_0) a Q) a w :=
  piece' (HJ := Z0) (HL := Z0) hmix hs (by decide +kernel) (fun _ _ => False) (fun a w => resQ P Tryz.f81.results a w R) Y0 E (fun _ _ _ h => h.elim) hR
  (fun _ _ _ _ h => h.elim) hE
  trivial (Eq.mpr (K81_0 (gt a) w R E) h)
theorem F81 (a0 a1 : Value) (w : World) (R : K1) (E : Ev) (h : S81_0 a0 a1 w R E) : C P 81 #[a0, a1] w R E := by
  have e : S81_0 (gt (A0 Tryz.f81.ntmps #[a0, a1]) 0) (gt (A0 Tryz.f81.ntmps #[a0, a1]) 1) w R E = S81_0 a0 a1 w R E := by kernel_rfl
  have t := T81_0 (r := none) (Q := QF P Tryz.f81 R E) (A0 Tryz.f81.ntmps #[a0, a1]) w (by kernel_rfl) R E (fun _ _ _ h => h) (fun _ _ _ h => h) (Eq.mpr e h)
  exact C_of (c := C81_0) Tryz.func81 (by kernel_rfl) t
def S82_j11 (v8 : Value) (w : World) (R : K1) (E : Ev) : Prop :=
  R (Value.tuple #[v8, (.int .i64 0)]) w
noncomputable def C82_j11 : Code := cR (cR (cR (cR (bodyOf Tryz.f82))))
theorem K82_j11 (g : Env) (w : World) (R : K1) (E : Ev) :
  vcF P Z0 Z0 C82_j11 (QC (fun _ _ => False) (fun a w => resQ P Tryz.f82.results a w R) Y0 E) g w = S82_j11 (g 8) w R E := by kernel_rfl
theorem T82_j11 (hs : a.tmps.size = 39) (R : K1) (E : Ev) (hR : ∀ a' w', Ag (wr C82_j11) a a' → resQ P Tryz.f82.results (gt a') w' R → Q .ret a' w') (hE : HE Q E)
  (h : S82_j11 (gt a 8) w R E) : C82_j11.wpIn (Fw r) 0 P (Qs (wr C82_j11) a Q) a w :=
  piece' (HJ := Z0) (HL := Z0) hmix hs (by decide +kernel) (fun _ _ => False) (fun a w => resQ P Tryz.f82.results a w R) Y0 E (fun _ _ _ h => h.elim) hR
  (fun _ _ _ _ h => h.elim) hE
  trivial (Eq.mpr (K82_j11 (gt a) w R E) h)
def S82_b5 (v0 v1 v2 v8 v9 : Value) (w : World) (N : K5) (X0 : K1) (R : K1) (E : Ev) : Prop :=
  X P (.bin .lss 3 false false v9 v1) 4 w (fun t18 w1 =>
  Cnd t18 (
  X P (.conv 3 38 v9) 38 w1 (fun t26 w2 =>
  X P (.bin .add 38 false false v0 t26) 38 w2 (fun t27 w3 =>
  X P (.callV v2 #[v9, t27]) 63 w3 (fun t28 w4 =>
  X P (.extract t28 0) 3 w4 (fun t29 w5 =>
  X P (.extract t28 1) 49 w5 (fun t30 w6 =>
  X P (.bin .add 3 false false v8 t29) 3 w6 (fun t33 w7 =>
  X P (.bin .neq 49 false true t30 (.int .i64 0)) 4 w7 (fun t35 w8 =>
  Cnd t35 (
  R (Value.tuple #[t33, t30]) w8) (
  X P (.bin .add 3 false true v9 (.int .i64 4)) 3 w8 (fun t20 w9 =>
  N v0 v1 v2 t33 t20 w9) E)) E) E) E) E) E) E) E) (
  X0 v8 w1)) E
noncomputable def C82_b5 : Code := cB (cB (cR (cL (cR (cR (cR (bodyOf Tryz.f82)))))))
noncomputable def J82_b5 (N : K5) (X0 : K1) (R : K1) (E : Ev) : Nat → Env → World → Prop := fun i a w => match i with | 0 => X0 (a 8) w | _ => False
theorem K82_b5 (g : Env) (w : World) (N : K5) (X0 : K1) (R : K1) (E : Ev) :
  vcF P Z0 Z0 C82_b5 (QC (fun a w => N (a 0) (a 1) (a 2) (a 8) (a 9) w) (fun a w => resQ P Tryz.f82.results a w R) (J82_b5 N X0 R E) E) g w = S82_b5 (g 0) (g 1) (g 2) (g 8) (g 9) w N X0 R E := by kernel_rfl
theorem T82_b5 (hs : a.tmps.size = 39) (N : K5) (X0 : K1) (R : K1) (E : Ev) (hN : ∀ a' w', Ag (wr C82_b5) a a' → N (gt a' 0) (gt a' 1) (gt a' 2) (gt a' 8) (gt a' 9) w' → Q .normal a' w') (hX0 : ∀ a' w', Ag (wr C82_b5) a a' → X0 (gt a' 8) w' → Q (.exit 0) a' w') (hR : ∀ a' w', Ag (wr C82_b5) a a' → resQ P Tryz.f82.results (gt a') w' R → Q .ret a' w') (hE : HE Q E)
  (h : S82_b5 (gt a 0) (gt a 1) (gt a 2) (gt a 8) (gt a 9) w N X0 R E) : C82_b5.wpIn (Fw r) 0 P (Qs (wr C82_b5) a Q) a w :=
  piece' (HJ := Z0) (HL := Z0) hmix hs (by decide +kernel) (fun a w => N (a 0) (a 1) (a 2) (a 8) (a 9) w) (fun a w => resQ P Tryz.f82.results a w R) (J82_b5 N X0 R E) E hN hR
  (fun i a' w' hag h => by
  unfold J82_b5 at h
  split at h <;> first | exact hX0 _ _ hag h | exact h.elim) hE
  trivial (Eq.mpr (K82_b5 (gt a) w N X0 R E) h)
def S82_l5 (v0 v1 v2 v8 v9 : Value) (w : World) (X0 : K1) (R : K1) (E : Ev) : Prop :=
  ∃ (I : K2) (μ : Value → Value → World → Nat), I v8 v9 w ∧ ∀ (v8 v9 : Value) (w : World), I v8 v9 w → S82_b5 v0 v1 v2 v8 v9 w (fun x0 x1 x2 x8 x9 y => I x8 x9 y ∧ μ x8 x9 y < μ v8 v9 w) X0 R E
theorem T82_l5 (hs : a.tmps.size = 39) (X0 : K1) (R : K1) (E : Ev) (hX0 : ∀ a' w', Ag (wr (Code.loop C82_b5)) a a' → X0 (gt a' 8) w' → Q (.exit 0) a' w') (hR : ∀ a' w', Ag (wr (Code.loop C82_b5)) a a' → resQ P Tryz.f82.results (gt a') w' R → Q .ret a' w') (hE : HE Q E)
  (h : S82_l5 (gt a 0) (gt a 1) (gt a 2) (gt a 8) (gt a 9) w X0 R E) : (Code.loop C82_b5).wpIn (Fw r) 0 P (Qs (wr (Code.loop C82_b5)) a Q) a w := by
  obtain ⟨I, μ, h0, hr⟩ := h
  refine loop_piece (c := C82_b5) (fun a w => I (gt a 8) (gt a 9) w) (fun a w => μ (gt a 8) (gt a 9) w) h0 fun a' w' hag hI => ?_
  have h' := hr (gt a' 8) (gt a' 9) w' hI
  rw [← hag.get 0 (by decide +kernel)] at h'
  rw [← hag.get 1 (by decide +kernel)] at h'
  rw [← hag.get 2 (by decide +kernel)] at h'
  exact T82_b5 a' w' (hag.size.trans hs) (fun x0 x1 x2 x8 x9 y => I x8 x9 y ∧ μ x8 x9 y < μ (gt a' 8) (gt a' 9) w') X0 R E (fun _ _ _ h => h) (fun a1 w1 hag1 h => hX0 a1 w1 (hag.trans hag1) h) (fun a1 w1 hag1 h => hR a1 w1 (hag.trans hag1) h) hE h'
def S82_0 (v0 v1 v2 : Value) (w : World) (R : K1) (E : Ev) : Prop :=
  X P (.callF 98 #[v0, v1]) 4 w (fun t14 w1 =>
  X P (.un .not t14) 4 w1 (fun t15 w2 =>
  Cnd t15 (
  R (Value.tuple #[(.int .i64 0), (.int .i64 1)]) w2) (
  S82_l5 v0 v1 v2 (.int .i64 0) (.int .i64 0) w2 (fun x8 y => S82_j11 x8 y R E) R E)) E) E
noncomputable def C82_0 : Code := bodyOf Tryz.f82
noncomputable def HJ82_0 (R : K1) (E : Ev) : Cut := fun i => match i with | some 11 => some (fun a w => S82_j11 (a 8) w R E) | _ => none
noncomputable def HL82_0 (R : K1) (E : Ev) : Cut := fun i => match i with | some 5 => some (fun a w => S82_l5 (a 0) (a 1) (a 2) (a 8) (a 9) w (fun x8 y => S82_j11 x8 y R E) R E) | _ => none
theorem K82_0 (g : Env) (w : World) (R : K1) (E : Ev) :
  vcF P (HJ82_0 R E) (HL82_0 R E) C82_0 (QC (fun _ _ => False) (fun a w => resQ P Tryz.f82.results a w R) Y0 E) g w = S82_0 (g 0) (g 1) (g 2) w R E := by kernel_rfl
theorem T82_0 (hs : a.tmps.size = 39) (R : K1) (E : Ev) (hR : ∀ a' w', Ag (wr C82_0) a a' → resQ P Tryz.f82.results (gt a') w' R → Q .ret a' w') (hE : HE Q E)
  (h : S82_0 (gt a 0) (gt a 1) (gt a 2) w R E) : C82_0.wpIn (Fw r) 0 P (Qs (wr C82_0) a Q) a w :=
  piece' (HJ := HJ82_0 R E) (HL := HL82_0 R E) hmix hs (by decide +kernel) (fun _ _ => False) (fun a w => resQ P Tryz.f82.results a w R) Y0 E (fun _ _ _ h => h.elim) hR
  (fun _ _ _ _ h => h.elim) hE
  ⟨pay (c := Code.loop C82_b5) (W := wr C82_0) (h := fun a w => S82_l5 (a 0) (a 1) (a 2) (a 8) (a 9) w (fun x8 y => S82_j11 x8 y R E) R E) (by decide +kernel) fun a w hsz h => T82_l5 a w (hsz.trans hs) (fun x8 y => S82_j11 x8 y R E) R E (fun _ _ _ h => h) (fun _ _ _ h => h) (fun _ _ _ h => h) h, pay (c := C82_j11) (W := wr C82_0) (h := fun a w => S82_j11 (a 8) w R E) (by decide +kernel) fun a w hsz h => T82_j11 a w (hsz.trans hs) R E (fun _ _ _ h => h) (fun _ _ _ h => h) h, trivial⟩ (Eq.mpr (K82_0 (gt a) w R E) h)
theorem F82 (a0 a1 a2 : Value) (w : World) (R : K1) (E : Ev) (h : S82_0 a0 a1 a2 w R E) : C P 82 #[a0, a1, a2] w R E := by
  have e : S82_0 (gt (A0 Tryz.f82.ntmps #[a0, a1, a2]) 0) (gt (A0 Tryz.f82.ntmps #[a0, a1, a2]) 1) (gt (A0 Tryz.f82.ntmps #[a0, a1, a2]) 2) w R E = S82_0 a0 a1 a2 w R E := by kernel_rfl
  have t := T82_0 (r := none) (Q := QF P Tryz.f82 R E) (A0 Tryz.f82.ntmps #[a0, a1, a2]) w (by kernel_rfl) R E (fun _ _ _ h => h) (fun _ _ _ h => h) (Eq.mpr e h)
  exact C_of (c := C82_0) Tryz.func82 (by kernel_rfl) t
def S83_0 (v1 v2 v3 v4 : Value) (w : World) (R : K1) (E : Ev) : Prop :=
  X P (.load 44 v2) 44 w (fun t13 w1 =>
  X P (.load 3 v3) 3 w1 (fun t14 w2 =>
  X P (.callF 14 #[t13, t14, v1, (.int .i64 4)]) 50 w2 (fun t16 w3 =>
  X P (.extract t16 0) 38 w3 (fun t17 w4 =>
  X P (.extract t16 1) 3 w4 (fun t18 w5 =>
  X P (.extract t16 2) 49 w5 (fun t19 w6 =>
  X P (.load 34 v4) 34 w6 (fun t20 w7 =>
  X P (.conv 38 5 t17) 5 w7 (fun t22 w8 =>
  X P (.bin .shr 38 false true t17 (.int .u64 8)) 38 w8 (fun t24 w9 =>
  X P (.conv 38 5 t24) 5 w9 (fun t25 w10 =>
  X P (.bin .shr 38 false true t17 (.int .u64 16)) 38 w10 (fun t27 w11 =>
  X P (.conv 38 5 t27) 5 w11 (fun t28 w12 =>
  X P (.bin .shr 38 false true t17 (.int .u64 24)) 38 w12 (fun t30 w13 =>
  X P (.conv 38 5 t30) 5 w13 (fun t31 w14 =>
  X P (.buildSlice 34 4 #[(0, t22), (1, t25), (2, t28), (3, t31)]) 34 w14 (fun t32 w15 =>
  X P (.callB .append #[34, 34] #[false, false] #[t20, t32]) 34 w15 (fun t33 w16 =>
  X P (.store 34 v4 t33) 0 w16 (fun _ w17 =>
  R (Value.tuple #[t18, t19]) w17) E) E) E) E) E) E) E) E) E) E) E) E) E) E) E) E) E
noncomputable def C83_0 : Code := bodyOf Tryz.f83
theorem K83_0 (g : Env) (w : World) (R : K1) (E : Ev) :
  vcF P Z0 Z0 C83_0 (QC (fun _ _ => False) (fun a w => resQ P Tryz.f83.results a w R) Y0 E) g w = S83_0 (g 1) (g 2) (g 3) (g 4) w R E := by kernel_rfl
theorem T83_0 (hs : a.tmps.size = 36) (R : K1) (E : Ev) (hR : ∀ a' w', Ag (wr C83_0) a a' → resQ P Tryz.f83.results (gt a') w' R → Q .ret a' w') (hE : HE Q E)
  (h : S83_0 (gt a 1) (gt a 2) (gt a 3) (gt a 4) w R E) : C83_0.wpIn (Fw r) 0 P (Qs (wr C83_0) a Q) a w :=
  piece' (HJ := Z0) (HL := Z0) hmix hs (by decide +kernel) (fun _ _ => False) (fun a w => resQ P Tryz.f83.results a w R) Y0 E (fun _ _ _ h => h.elim) hR
  (fun _ _ _ _ h => h.elim) hE
  trivial (Eq.mpr (K83_0 (gt a) w R E) h)
theorem F83 (a0 a1 a2 a3 a4 : Value) (w : World) (R : K1) (E : Ev) (h : S83_0 a1 a2 a3 a4 w R E) : C P 83 #[a0, a1, a2, a3, a4] w R E := by
  have e : S83_0 (gt (A0 Tryz.f83.ntmps #[a0, a1, a2, a3, a4]) 1) (gt (A0 Tryz.f83.ntmps #[a0, a1, a2, a3, a4]) 2) (gt (A0 Tryz.f83.ntmps #[a0, a1, a2, a3, a4]) 3) (gt (A0 Tryz.f83.ntmps #[a0, a1, a2, a3, a4]) 4) w R E = S83_0 a1 a2 a3 a4 w R E := by kernel_rfl
  have t := T83_0 (r := none) (Q := QF P Tryz.f83 R E) (A0 Tryz.f83.ntmps #[a0, a1, a2, a3, a4]) w (by kernel_rfl) R E (fun _ _ _ h => h) (fun _ _ _ h => h) (Eq.mpr e h)
  exact C_of (c := C83_0) Tryz.func83 (by kernel_rfl) t
def S84_0 (v1 v2 v3 v4 : Value) (w : World) (R : K1) (E : Ev) : Prop :=
  X P (.load 44 v2) 44 w (fun t13 w1 =>
  X P (.load 3 v3) 3 w1 (fun t14 w2 =>
  X P (.callF 71 #[t13, t14, v1, (.int .i64 2)]) 50 w2 (fun t16 w3 =>
  X P (.extract t16 0) 38 w3 (fun t17 w4 =>
  X P (.extract t16 1) 3 w4 (fun t18 w5 =>
  X P (.extract t16 2) 49 w5 (fun t19 w6 =>
  X P (.load 117 v4) 117 w6 (fun t20 w7 =>
  X P (.buildSlice 117 1 #[(0, t17)]) 117 w7 (fun t22 w8 =>
  X P (.callB .append #[117, 117] #[false, false] #[t20, t22]) 117 w8 (fun t23 w9 =>
  X P (.store 117 v4 t23) 0 w9 (fun _ w10 =>
  R (Value.tuple #[t18, t19]) w10) E) E) E) E) E) E) E) E) E) E
noncomputable def C84_0 : Code := bodyOf Tryz.f84
theorem K84_0 (g : Env) (w : World) (R : K1) (E : Ev) :
  vcF P Z0 Z0 C84_0 (QC (fun _ _ => False) (fun a w => resQ P Tryz.f84.results a w R) Y0 E) g w = S84_0 (g 1) (g 2) (g 3) (g 4) w R E := by kernel_rfl
theorem T84_0 (hs : a.tmps.size = 26) (R : K1) (E : Ev) (hR : ∀ a' w', Ag (wr C84_0) a a' → resQ P Tryz.f84.results (gt a') w' R → Q .ret a' w') (hE : HE Q E)
  (h : S84_0 (gt a 1) (gt a 2) (gt a 3) (gt a 4) w R E) : C84_0.wpIn (Fw r) 0 P (Qs (wr C84_0) a Q) a w :=
  piece' (HJ := Z0) (HL := Z0) hmix hs (by decide +kernel) (fun _ _ => False) (fun a w => resQ P Tryz.f84.results a w R) Y0 E (fun _ _ _ h => h.elim) hR
  (fun _ _ _ _ h => h.elim) hE
  trivial (Eq.mpr (K84_0 (gt a) w R E) h)
theorem F84 (a0 a1 a2 a3 a4 : Value) (w : World) (R : K1) (E : Ev) (h : S84_0 a1 a2 a3 a4 w R E) : C P 84 #[a0, a1, a2, a3, a4] w R E := by
  have e : S84_0 (gt (A0 Tryz.f84.ntmps #[a0, a1, a2, a3, a4]) 1) (gt (A0 Tryz.f84.ntmps #[a0, a1, a2, a3, a4]) 2) (gt (A0 Tryz.f84.ntmps #[a0, a1, a2, a3, a4]) 3) (gt (A0 Tryz.f84.ntmps #[a0, a1, a2, a3, a4]) 4) w R E = S84_0 a1 a2 a3 a4 w R E := by kernel_rfl
  have t := T84_0 (r := none) (Q := QF P Tryz.f84 R E) (A0 Tryz.f84.ntmps #[a0, a1, a2, a3, a4]) w (by kernel_rfl) R E (fun _ _ _ h => h) (fun _ _ _ h => h) (Eq.mpr e h)
  exact C_of (c := C84_0) Tryz.func84 (by kernel_rfl) t
def S85_0 (v0 v1 v2 : Value) (w : World) (R : K1) (E : Ev) : Prop :=
  X P (.callF 99 #[v2]) 34 w (fun t10 w1 =>
  X P (.callB .len #[34] #[false] #[t10]) 3 w1 (fun t14 w2 =>
  X P (.callF 35 #[v0, v1, t14]) 53 w2 (fun t15 w3 =>
  X P (.bin .neq 53 false true t15 (.int .i64 0)) 4 w3 (fun t17 w4 =>
  Cnd t17 (
  R t15 w4) (
  X P (.callF 38 #[v0, v1, t10]) 0 w4 (fun t22 w5 =>
  R (.int .i64 0) w5) E)) E) E) E) E
noncomputable def C85_0 : Code := bodyOf Tryz.f85
theorem K85_0 (g : Env) (w : World) (R : K1) (E : Ev) :
  vcF P Z0 Z0 C85_0 (QC (fun _ _ => False) (fun a w => resQ P Tryz.f85.results a w R) Y0 E) g w = S85_0 (g 0) (g 1) (g 2) w R E := by kernel_rfl
theorem T85_0 (hs : a.tmps.size = 23) (R : K1) (E : Ev) (hR : ∀ a' w', Ag (wr C85_0) a a' → resQ P Tryz.f85.results (gt a') w' R → Q .ret a' w') (hE : HE Q E)
  (h : S85_0 (gt a 0) (gt a 1) (gt a 2) w R E) : C85_0.wpIn (Fw r) 0 P (Qs (wr C85_0) a Q) a w :=
  piece' (HJ := Z0) (HL := Z0) hmix hs (by decide +kernel) (fun _ _ => False) (fun a w => resQ P Tryz.f85.results a w R) Y0 E (fun _ _ _ h => h.elim) hR
  (fun _ _ _ _ h => h.elim) hE
  trivial (Eq.mpr (K85_0 (gt a) w R E) h)
theorem F85 (a0 a1 a2 : Value) (w : World) (R : K1) (E : Ev) (h : S85_0 a0 a1 a2 w R E) : C P 85 #[a0, a1, a2] w R E := by
  have e : S85_0 (gt (A0 Tryz.f85.ntmps #[a0, a1, a2]) 0) (gt (A0 Tryz.f85.ntmps #[a0, a1, a2]) 1) (gt (A0 Tryz.f85.ntmps #[a0, a1, a2]) 2) w R E = S85_0 a0 a1 a2 w R E := by kernel_rfl
  have t := T85_0 (r := none) (Q := QF P Tryz.f85 R E) (A0 Tryz.f85.ntmps #[a0, a1, a2]) w (by kernel_rfl) R E (fun _ _ _ h => h) (fun _ _ _ h => h) (Eq.mpr e h)
  exact C_of (c := C85_0) Tryz.func85 (by kernel_rfl) t
def S86_j12 (v3 : Value) (w : World) (R : K1) (E : Ev) : Prop :=
  R v3 w
noncomputable def C86_j12 : Code := cR (cR (cR (bodyOf Tryz.f86)))
theorem K86_j12 (g : Env) (w : World) (R : K1) (E : Ev) :
  vcF P Z0 Z0 C86_j12 (QC (fun _ _ => False) (fun a w => resQ P Tryz.f86.results a w R) Y0 E) g w = S86_j12 (g 3) w R E := by kernel_rfl
theorem T86_j12 (hs : a.tmps.size = 47) (R : K1) (E : Ev) (hR : ∀ a' w', Ag (wr C86_j12) a a' → resQ P Tryz.f86.results (gt a') w' R → Q .ret a' w') (hE : HE Q E)
  (h : S86_j12 (gt a 3) w R E) : C86_j12.wpIn (Fw r) 0 P (Qs (wr C86_j12) a Q) a w :=
  piece' (HJ := Z0) (HL := Z0) hmix hs (by decide +kernel) (fun _ _ => False) (fun a w => resQ P Tryz.f86.results a w R) Y0 E (fun _ _ _ h => h.elim) hR
  (fun _ _ _ _ h => h.elim) hE
  trivial (Eq.mpr (K86_j12 (gt a) w R E) h)
def S86_j11 (v0 v3 v12 v13 : Value) (w : World) (N : K4) (E : Ev) : Prop :=
  X P (.bin .add 3 false true v13 (.int .i64 1)) 3 w (fun t45 w1 =>
  N v0 v3 v12 t45 w1) E
noncomputable def C86_j11 : Code := cR (cR (cR (cB (cB (cR (cL (cR (cR (bodyOf Tryz.f86)))))))))
theorem K86_j11 (g : Env) (w : World) (N : K4) (E : Ev) :
  vcF P Z0 Z0 C86_j11 (QC (fun a w => N (a 0) (a 3) (a 12) (a 13) w) (fun _ _ => False) Y0 E) g w = S86_j11 (g 0) (g 3) (g 12) (g 13) w N E := by kernel_rfl
theorem T86_j11 (hs : a.tmps.size = 47) (N : K4) (E : Ev) (hN : ∀ a' w', Ag (wr C86_j11) a a' → N (gt a' 0) (gt a' 3) (gt a' 12) (gt a' 13) w' → Q .normal a' w') (hE : HE Q E)
  (h : S86_j11 (gt a 0) (gt a 3) (gt a 12) (gt a 13) w N E) : C86_j11.wpIn (Fw r) 0 P (Qs (wr C86_j11) a Q) a w :=
  piece' (HJ := Z0) (HL := Z0) hmix hs (by decide +kernel) (fun a w => N (a 0) (a 3) (a 12) (a 13) w) (fun _ _ => False) Y0 E hN (fun _ _ _ h => h.elim)
  (fun _ _ _ _ h => h.elim) hE
  trivial (Eq.mpr (K86_j11 (gt a) w N E) h)
def S86_b7 (v0 v3 v4 v12 v13 v28 v29 v30 : Value) (w : World) (N : K8) (X2 : K4) (E : Ev) : Prop :=
  X P (.bin .lss 3 false false v30 v29) 0 w (fun t31 w1 =>
  Cnd t31 (
  X P (.indexAddr 210 v28 v30) 0 w1 (fun t32 w2 =>
  X P (.load 147 t32) 147 w2 (fun t33 w3 =>
  X P (.alloc 147) 0 w3 (fun t7 w4 =>
  X P (.store 147 t7 t33) 0 w4 (fun _ w5 =>
  X P (.conv 3 38 v4) 38 w5 (fun t36 w6 =>
  X P (.fieldAddr 147 t7 0) 0 w6 (fun t37 w7 =>
  X P (.load 38 t37) 38 w7 (fun t38 w8 =>
  X P (.fieldAddr 147 t7 1) 0 w8 (fun t39 w9 =>
  X P (.load 4 t39) 4 w9 (fun t40 w10 =>
  X P (.build 185 #[(0, t36), (1, t38), (2, t40)]) 185 w10 (fun t41 w11 =>
  X P (.buildSlice 182 1 #[(0, t41)]) 182 w11 (fun t42 w12 =>
  X P (.callB .append #[182, 182] #[false, false] #[v3, t42]) 182 w12 (fun t43 w13 =>
  X P (.bin .add 3 false true v30 (.int .i64 1)) 3 w13 (fun t44 w14 =>
  N v0 t43 v4 v12 v13 v28 v29 t44 w14) E) E) E) E) E) E) E) E) E) E) E) E) E) (
  X2 v0 v3 v12 v13 w1)) E
noncomputable def C86_b7 : Code := cB (cB (cR (cR (cR (cB (cL (cR (cR (cB (cB (cR (cL (cR (cR (bodyOf Tryz.f86)))))))))))))))
noncomputable def J86_b7 (N : K8) (X2 : K4) (E : Ev) : Nat → Env → World → Prop := fun i a w => match i with | 2 => X2 (a 0) (a 3) (a 12) (a 13) w | _ => False
theorem K86_b7 (g : Env) (w : World) (N : K8) (X2 : K4) (E : Ev) :
  vcF P Z0 Z0 C86_b7 (QC (fun a w => N (a 0) (a 3) (a 4) (a 12) (a 13) (a 28) (a 29) (a 30) w) (fun _ _ => False) (J86_b7 N X2 E) E) g w = S86_b7 (g 0) (g 3) (g 4) (g 12) (g 13) (g 28) (g 29) (g 30) w N X2 E := by kernel_rfl
theorem T86_b7 (hs : a.tmps.size = 47) (N : K8) (X2 : K4) (E : Ev) (hN : ∀ a' w', Ag (wr C86_b7) a a' → N (gt a' 0) (gt a' 3) (gt a' 4) (gt a' 12) (gt a' 13) (gt a' 28) (gt a' 29) (gt a' 30) w' → Q .normal a' w') (hX2 : ∀ a' w', Ag (wr C86_b7) a a' → X2 (gt a' 0) (gt a' 3) (gt a' 12) (gt a' 13) w' → Q (.exit 2) a' w') (hE : HE Q E)
  (h : S86_b7 (gt a 0) (gt a 3) (gt a 4) (gt a 12) (gt a 13) (gt a 28) (gt a 29) (gt a 30) w N X2 E) : C86_b7.wpIn (Fw r) 0 P (Qs (wr C86_b7) a Q) a w :=
  piece' (HJ := Z0) (HL := Z0) hmix hs (by decide +kernel) (fun a w => N (a 0) (a 3) (a 4) (a 12) (a 13) (a 28) (a 29) (a 30) w) (fun _ _ => False) (J86_b7 N X2 E) E hN (fun _ _ _ h => h.elim)
  (fun i a' w' hag h => by
  unfold J86_b7 at h
  split at h <;> first | exact hX2 _ _ hag h | exact h.elim) hE
  trivial (Eq.mpr (K86_b7 (gt a) w N X2 E) h)
def S86_l7 (v0 v3 v4 v12 v13 v28 v29 v30 : Value) (w : World) (X2 : K4) (E : Ev) : Prop :=
  ∃ (I : K2) (μ : Value → Value → World → Nat), I v3 v30 w ∧ ∀ (v3 v30 : Value) (w : World), I v3 v30 w → S86_b7 v0 v3 v4 v12 v13 v28 v29 v30 w (fun x0 x3 x4 x12 x13 x28 x29 x30 y => I x3 x30 y ∧ μ x3 x30 y < μ v3 v30 w) X2 E
theorem T86_l7 (hs : a.tmps.size = 47) (X2 : K4) (E : Ev) (hX2 : ∀ a' w', Ag (wr (Code.loop C86_b7)) a a' → X2 (gt a' 0) (gt a' 3) (gt a' 12) (gt a' 13) w' → Q (.exit 2) a' w') (hE : HE Q E)
  (h : S86_l7 (gt a 0) (gt a 3) (gt a 4) (gt a 12) (gt a 13) (gt a 28) (gt a 29) (gt a 30) w X2 E) : (Code.loop C86_b7).wpIn (Fw r) 0 P (Qs (wr (Code.loop C86_b7)) a Q) a w := by
  obtain ⟨I, μ, h0, hr⟩ := h
  refine loop_piece (c := C86_b7) (fun a w => I (gt a 3) (gt a 30) w) (fun a w => μ (gt a 3) (gt a 30) w) h0 fun a' w' hag hI => ?_
  have h' := hr (gt a' 3) (gt a' 30) w' hI
  rw [← hag.get 0 (by decide +kernel)] at h'
  rw [← hag.get 4 (by decide +kernel)] at h'
  rw [← hag.get 12 (by decide +kernel)] at h'
  rw [← hag.get 13 (by decide +kernel)] at h'
  rw [← hag.get 28 (by decide +kernel)] at h'
  rw [← hag.get 29 (by decide +kernel)] at h'
  exact T86_b7 a' w' (hag.size.trans hs) (fun x0 x3 x4 x12 x13 x28 x29 x30 y => I x3 x30 y ∧ μ x3 x30 y < μ (gt a' 3) (gt a' 30) w') X2 E (fun _ _ _ h => h) (fun a1 w1 hag1 h => hX2 a1 w1 (hag.trans hag1) h) hE h'
def S86_b3 (v0 v3 v12 v13 : Value) (w : World) (N : K4) (X0 : K1) (E : Ev) : Prop :=
  X P (.bin .lss 3 false false v13 v12) 4 w (fun t14 w1 =>
  Cnd t14 (
  X P (.nilCheck v0) 0 w1 (fun t18 w2 =>
  X P (.fieldAddr 153 t18 1) 0 w2 (fun t19 w3 =>
  X P (.indexAddr 151 t19 v13) 0 w3 (fun t20 w4 =>
  XQ P (.nilCheck t20) 0 (drw w4) (fun t22 =>
  XQ P (.fieldAddr 150 t22 0) 0 (drw w4) (fun t23 =>
  XQ P (.nilCheck t20) 0 (drw w4) (fun t25 =>
  XQ P (.fieldAddr 150 t25 1) 0 (drw w4) (fun t26 =>
  XQ P (.load 3 t26) 3 (drw w4) (fun t27 =>
  XQ P (.slice 148 t23 none (some t27) none) 210 (drw w4) (fun t28 =>
  XQ P (.callB .len #[210] #[false] #[t28]) 3 (drw w4) (fun t29 =>
  S86_l7 v0 v3 v13 v12 v13 t28 t29 (.int .i64 0) (drw w4) (fun x0 x3 x12 x13 y => S86_j11 x0 x3 x12 x13 y N E) E)))))))) E) E) E) (
  X0 v3 w1)) E
noncomputable def C86_b3 : Code := cB (cB (cR (cL (cR (cR (bodyOf Tryz.f86))))))
noncomputable def HJ86_b3 (N : K4) (X0 : K1) (E : Ev) : Cut := fun i => match i with | some 11 => some (fun a w => S86_j11 (a 0) (a 3) (a 12) (a 13) w N E) | _ => none
noncomputable def HL86_b3 (N : K4) (X0 : K1) (E : Ev) : Cut := fun i => match i with | some 7 => some (fun a w => S86_l7 (a 0) (a 3) (a 4) (a 12) (a 13) (a 28) (a 29) (a 30) w (fun x0 x3 x12 x13 y => S86_j11 x0 x3 x12 x13 y N E) E) | _ => none
noncomputable def J86_b3 (N : K4) (X0 : K1) (E : Ev) : Nat → Env → World → Prop := fun i a w => match i with | 0 => X0 (a 3) w | _ => False
theorem K86_b3 (g : Env) (w : World) (N : K4) (X0 : K1) (E : Ev) :
  vcF P (HJ86_b3 N X0 E) (HL86_b3 N X0 E) C86_b3 (QC (fun a w => N (a 0) (a 3) (a 12) (a 13) w) (fun _ _ => False) (J86_b3 N X0 E) E) g w = S86_b3 (g 0) (g 3) (g 12) (g 13) w N X0 E := by kernel_rfl
theorem T86_b3 (hs : a.tmps.size = 47) (N : K4) (X0 : K1) (E : Ev) (hN : ∀ a' w', Ag (wr C86_b3) a a' → N (gt a' 0) (gt a' 3) (gt a' 12) (gt a' 13) w' → Q .normal a' w') (hX0 : ∀ a' w', Ag (wr C86_b3) a a' → X0 (gt a' 3) w' → Q (.exit 0) a' w') (hE : HE Q E)
  (h : S86_b3 (gt a 0) (gt a 3) (gt a 12) (gt a 13) w N X0 E) : C86_b3.wpIn (Fw r) 0 P (Qs (wr C86_b3) a Q) a w :=
  piece' (HJ := HJ86_b3 N X0 E) (HL := HL86_b3 N X0 E) hmix hs (by decide +kernel) (fun a w => N (a 0) (a 3) (a 12) (a 13) w) (fun _ _ => False) (J86_b3 N X0 E) E hN (fun _ _ _ h => h.elim)
  (fun i a' w' hag h => by
  unfold J86_b3 at h
  split at h <;> first | exact hX0 _ _ hag h | exact h.elim) hE
  ⟨pay (c := Code.loop C86_b7) (W := wr C86_b3) (h := fun a w => S86_l7 (a 0) (a 3) (a 4) (a 12) (a 13) (a 28) (a 29) (a 30) w (fun x0 x3 x12 x13 y => S86_j11 x0 x3 x12 x13 y N E) E) (by decide +kernel) fun a w hsz h => T86_l7 a w (hsz.trans hs) (fun x0 x3 x12 x13 y => S86_j11 x0 x3 x12 x13 y N E) E (fun _ _ _ h => h) (fun _ _ _ h => h) h, pay (c := C86_j11) (W := wr C86_b3) (h := fun a w => S86_j11 (a 0) (a 3) (a 12) (a 13) w N E) (by decide +kernel) fun a w hsz h => T86_j11 a w (hsz.trans hs) N E (fun _ _ _ h => h) (fun _ _ _ h => h) h, trivial⟩ (Eq.mpr (K86_b3 (gt a) w N X0 E) h)
def S86_l3 (v0 v3 v12 v13 : Value) (w : World) (X0 : K1) (E : Ev) : Prop :=
  ∃ (I : K2) (μ : Value → Value → World → Nat), I v3 v13 w ∧ ∀ (v3 v13 : Value) (w : World), I v3 v13 w → S86_b3 v0 v3 v12 v13 w (fun x0 x3 x12 x13 y => I x3 x13 y ∧ μ x3 x13 y < μ v3 v13 w) X0 E
theorem T86_l3 (hs : a.tmps.size = 47) (X0 : K1) (E : Ev) (hX0 : ∀ a' w', Ag (wr (Code.loop C86_b3)) a a' → X0 (gt a' 3) w' → Q (.exit 0) a' w') (hE : HE Q E)
  (h : S86_l3 (gt a 0) (gt a 3) (gt a 12) (gt a 13) w X0 E) : (Code.loop C86_b3).wpIn (Fw r) 0 P (Qs (wr (Code.loop C86_b3)) a Q) a w := by
  obtain ⟨I, μ, h0, hr⟩ := h
  refine loop_piece (c := C86_b3) (fun a w => I (gt a 3) (gt a 13) w) (fun a w => μ (gt a 3) (gt a 13) w) h0 fun a' w' hag hI => ?_
  have h' := hr (gt a' 3) (gt a' 13) w' hI
  rw [← hag.get 0 (by decide +kernel)] at h'
  rw [← hag.get 12 (by decide +kernel)] at h'
  exact T86_b3 a' w' (hag.size.trans hs) (fun x0 x3 x12 x13 y => I x3 x13 y ∧ μ x3 x13 y < μ (gt a' 3) (gt a' 13) w') X0 E (fun _ _ _ h => h) (fun a1 w1 hag1 h => hX0 a1 w1 (hag.trans hag1) h) hE h'
def S86_0 (v0 : Value) (w : World) (R : K1) (E : Ev) : Prop :=
  X P (.nilCheck v0) 0 w (fun t9 w1 =>
  X P (.fieldAddr 153 t9 0) 0 w1 (fun t10 w2 =>
  X P (.fieldAddr 28 t10 0) 0 w2 (fun t11 w3 =>
  X P (.load 3 t11) 3 w3 (fun t12 w4 =>
  S86_l3 v0 (.slice none 0 0) t12 (.int .i64 0) w4 (fun x3 y => S86_j12 x3 y R E) E) E) E) E) E
noncomputable def C86_0 : Code := bodyOf Tryz.f86
noncomputable def HJ86_0 (R : K1) (E : Ev) : Cut := fun i => match i with | some 12 => some (fun a w => S86_j12 (a 3) w R E) | _ => none
noncomputable def HL86_0 (R : K1) (E : Ev) : Cut := fun i => match i with | some 3 => some (fun a w => S86_l3 (a 0) (a 3) (a 12) (a 13) w (fun x3 y => S86_j12 x3 y R E) E) | _ => none
theorem K86_0 (g : Env) (w : World) (R : K1) (E : Ev) :
  vcF P (HJ86_0 R E) (HL86_0 R E) C86_0 (QC (fun _ _ => False) (fun a w => resQ P Tryz.f86.results a w R) Y0 E) g w = S86_0 (g 0) w R E := by kernel_rfl
theorem T86_0 (hs : a.tmps.size = 47) (R : K1) (E : Ev) (hR : ∀ a' w', Ag (wr C86_0) a a' → resQ P Tryz.f86.results (gt a') w' R → Q .ret a' w') (hE : HE Q E)
  (h : S86_0 (gt a 0) w R E) : C86_0.wpIn (Fw r) 0 P (Qs (wr C86_0) a Q) a w :=
  piece' (HJ := HJ86_0 R E) (HL := HL86_0 R E) hmix hs (by decide +kernel) (fun _ _ => False) (fun a w => resQ P Tryz.f86.results a w R) Y0 E (fun _ _ _ h => h.elim) hR
  (fun _ _ _ _ h => h.elim) hE
  ⟨pay (c := Code.loop C86_b3) (W := wr C86_0) (h := fun a w => S86_l3 (a 0) (a 3) (a 12) (a 13) w (fun x3 y => S86_j12 x3 y R E) E) (by decide +kernel) fun a w hsz h => T86_l3 a w (hsz.trans hs) (fun x3 y => S86_j12 x3 y R E) E (fun _ _ _ h => h) (fun _ _ _ h => h) h, pay (c := C86_j12) (W := wr C86_0) (h := fun a w => S86_j12 (a 3) w R E) (by decide +kernel) fun a w hsz h => T86_j12 a w (hsz.trans hs) R E (fun _ _ _ h => h) (fun _ _ _ h => h) h, trivial⟩ (Eq.mpr (K86_0 (gt a) w R E) h)
theorem F86 (a0 : Value) (w : World) (R : K1) (E : Ev) (h : S86_0 a0 w R E) : C P 86 #[a0] w R E := by
  have e : S86_0 (gt (A0 Tryz.f86.ntmps #[a0]) 0) w R E = S86_0 a0 w R E := by kernel_rfl
  have t := T86_0 (r := none) (Q := QF P Tryz.f86 R E) (A0 Tryz.f86.ntmps #[a0]) w (by kernel_rfl) R E (fun _ _ _ h => h) (fun _ _ _ h => h) (Eq.mpr e h)
  exact C_of (c := C86_0) Tryz.func86 (by kernel_rfl) t
def S87_j4 (v4 v6 v7 : Value) (w : World) (R : K1) (E : Ev) : Prop :=
  X P (.fieldAddr 212 v6 0) 0 w (fun t23 w1 =>
  X P (.load 188 t23) 188 w1 (fun t24 w2 =>
  X P (.store 188 v4 t24) 0 w2 (fun _ w3 =>
  XRes P [(v4, some 188), (v7, none)] w3 R) E) E) E
noncomputable def C87_j4 : Code := cR (cR (cR (bodyOf Tryz.f87)))
theorem K87_j4 (g : Env) (w : World) (R : K1) (E : Ev) :
  vcF P Z0 Z0 C87_j4 (QC (fun _ _ => False) (fun a w => resQ P Tryz.f87.results a w R) Y0 E) g w = S87_j4 (g 4) (g 6) (g 7) w R E := by kernel_rfl
theorem T87_j4 (hs : a.tmps.size = 26) (R : K1) (E : Ev) (hR : ∀ a' w', Ag (wr C87_j4) a a' → resQ P Tryz.f87.results (gt a') w' R → Q .ret a' w') (hE : HE Q E)
  (h : S87_j4 (gt a 4) (gt a 6) (gt a 7) w R E) : C87_j4.wpIn (Fw r) 0 P (Qs (wr C87_j4) a Q) a w :=
  piece' (HJ := Z0) (HL := Z0) hmix hs (by decide +kernel) (fun _ _ => False) (fun a w => resQ P Tryz.f87.results a w R) Y0 E (fun _ _ _ h => h.elim) hR
  (fun _ _ _ _ h => h.elim) hE
  trivial (Eq.mpr (K87_j4 (gt a) w R E) h)
def S87_0 (v0 v1 : Value) (w : World) (R : K1) (E : Ev) : Prop :=
  X P (.box 177 v1) 0 w (fun t3 w1 =>
  X P (.alloc 188) 0 w1 (fun t4 w2 =>
  XQ P (.nilCheck v0) 0 (drw w2) (fun t10 =>
  XQ P (.fieldAddr 142 t10 1) 0 (drw w2) (fun t11 =>
  XQ P (.load 139 t11) 139 (drw w2) (fun t12 =>
  XQ P (.load 177 t3) 177 (drw w2) (fun t13 =>
  XQ P (.lookup 139 t12 t13 true) 213 (drw w2) (fun t14 =>
  XQ P (.extract t14 0) 212 (drw w2) (fun t15 =>
  XQ P (.extract t14 1) 4 (drw w2) (fun t16 =>
  (X P (.alloc 212) 0 (drw w2) (fun t6 w3 =>
  (XQ P (.extract t14 1) 4 w3 (fun v => v = t16)) ∧
  (XQ P (.extract t14 0) 212 w3 (fun v => v = t15)) ∧
  (XQ P (.lookup 139 t12 t13 true) 213 w3 (fun v => v = t14)) ∧
  (XQ P (.load 177 t3) 177 w3 (fun v => v = t13)) ∧
  (XQ P (.load 139 t11) 139 w3 (fun v => v = t12)) ∧
  (XQ P (.fieldAddr 142 t10 1) 0 w3 (fun v => v = t11)) ∧
  (XQ P (.nilCheck v0) 0 w3 (fun v => v = t10)) ∧
  (X P (.store 212 t6 t15) 0 w3 (fun _ w4 =>
  (XQ P (.extract t14 1) 4 w4 (fun v => v = t16)) ∧
  Cnd t16 (
  X P (.load 177 t3) 177 w4 (fun t19 w5 =>
  X P (.fieldAddr 212 t6 0) 0 w5 (fun t20 w6 =>
  X P (.load 188 t20) 188 w6 (fun t21 w7 =>
  X P (.callF 100 #[v0, t19, t21]) 0 w7 (fun t22 w8 =>
  S87_j4 t4 t6 t16 w8 R E) E) E) E) E) (
  S87_j4 t4 t6 t16 w4 R E)) E)) E))))))))) E) E
noncomputable def C87_0 : Code := bodyOf Tryz.f87
noncomputable def HJ87_0 (R : K1) (E : Ev) : Cut := fun i => match i with | some 4 => some (fun a w => S87_j4 (a 4) (a 6) (a 7) w R E) | _ => none
theorem K87_0 (g : Env) (w : World) (R : K1) (E : Ev) :
  vcF P (HJ87_0 R E) Z0 C87_0 (QC (fun _ _ => False) (fun a w => resQ P Tryz.f87.results a w R) Y0 E) g w = S87_0 (g 0) (g 1) w R E := by kernel_rfl
theorem T87_0 (hs : a.tmps.size = 26) (R : K1) (E : Ev) (hR : ∀ a' w', Ag (wr C87_0) a a' → resQ P Tryz.f87.results (gt a') w' R → Q .ret a' w') (hE : HE Q E)
  (h : S87_0 (gt a 0) (gt a 1) w R E) : C87_0.wpIn (Fw r) 0 P (Qs (wr C87_0) a Q) a w :=
  piece' (HJ := HJ87_0 R E) (HL := Z0) hmix hs (by decide +kernel) (fun _ _ => False) (fun a w => resQ P Tryz.f87.results a w R) Y0 E (fun _ _ _ h => h.elim) hR
  (fun _ _ _ _ h => h.elim) hE
  ⟨pay (c := C87_j4) (W := wr C87_0) (h := fun a w => S87_j4 (a 4) (a 6) (a 7) w R E) (by decide +kernel) fun a w hsz h => T87_j4 a w (hsz.trans hs) R E (fun _ _ _ h => h) (fun _ _ _ h => h) h, trivial⟩ (Eq.mpr (K87_0 (gt a) w R E) h)
theorem F87 (a0 a1 : Value) (w : World) (R : K1) (E : Ev) (h : S87_0 a0 a1 w R E) : C P 87 #[a0, a1] w R E := by
  have e : S87_0 (gt (A0 Tryz.f87.ntmps #[a0, a1]) 0) (gt (A0 Tryz.f87.ntmps #[a0, a1]) 1) w R E = S87_0 a0 a1 w R E := by kernel_rfl
  have t := T87_0 (r := none) (Q := QF P Tryz.f87 R E) (A0 Tryz.f87.ntmps #[a0, a1]) w (by kernel_rfl) R E (fun _ _ _ h => h) (fun _ _ _ h => h) (Eq.mpr e h)
  exact C_of (c := C87_0) Tryz.func87 (by kernel_rfl) t
def S88_0 (v0 v1 v2 v3 : Value) (w : World) (R : K1) (E : Ev) : Prop :=
  X P (.box 188 v1) 0 w (fun t5 w1 =>
  X P (.fieldAddr 188 t5 1) 0 w1 (fun t12 w2 =>
  X P (.load 58 t12) 58 w2 (fun t13 w3 =>
  X P (.callF 101 #[t13, v3]) 4 w3 (fun t15 w4 =>
  X P (.un .not t15) 4 w4 (fun t16 w5 =>
  Cnd t16 (
  R (Value.tuple #[(.int .u32 0), (.int .i64 0), (.int .i64 5)]) w5) (
  XQ P (.fieldAddr 188 t5 0) 0 (drw w5) (fun t18 =>
  XQ P (.load 38 t18) 38 (drw w5) (fun t19 =>
  XQ P (.conv 38 140 t19) 140 (drw w5) (fun t20 =>
  XQ P (.nilCheck v0) 0 (drw w5) (fun t22 =>
  XQ P (.fieldAddr 85 t22 0) 0 (drw w5) (fun t23 =>
  XQ P (.load 41 t23) 41 (drw w5) (fun t24 =>
  (X P (.callF 45 #[t24]) 3 (drw w5) (fun t25 w6 =>
  (XQ P (.conv 38 140 t19) 140 w6 (fun v => v = t20)) ∧
  (XQ P (.load 38 t18) 38 w6 (fun v => v = t19)) ∧
  (XQ P (.fieldAddr 188 t5 0) 0 w6 (fun v => v = t18)) ∧
  XQ P (.conv 3 140 t25) 140 w6 (fun t26 =>
  XQ P (.bin .geq 140 false false t20 t26) 4 w6 (fun t27 =>
  Cnd t27 (
  R (Value.tuple #[(.int .u32 0), (.int .i64 0), (.int .i64 2)]) w6) (
  X P (.fieldAddr 188 t5 0) 0 w6 (fun t28 w7 =>
  X P (.load 38 t28) 38 w7 (fun t29 w8 =>
  X P (.bin .mul 38 false true t29 (.int .u32 4096)) 38 w8 (fun t30 w9 =>
  X P (.bin .rem 38 false true v2 (.int .u32 4096)) 38 w9 (fun t32 w10 =>
  X P (.bin .add 38 false false t30 t32) 38 w10 (fun t33 w11 =>
  R (Value.tuple #[t33, (.int .i64 0), (.int .i64 0)]) w11) E) E) E) E) E)))) E))))))))) E) E) E) E) E
noncomputable def C88_0 : Code := bodyOf Tryz.f88
theorem K88_0 (g : Env) (w : World) (R : K1) (E : Ev) :
  vcF P Z0 Z0 C88_0 (QC (fun _ _ => False) (fun a w => resQ P Tryz.f88.results a w R) Y0 E) g w = S88_0 (g 0) (g 1) (g 2) (g 3) w R E := by kernel_rfl
theorem T88_0 (hs : a.tmps.size = 34) (R : K1) (E : Ev) (hR : ∀ a' w', Ag (wr C88_0) a a' → resQ P Tryz.f88.results (gt a') w' R → Q .ret a' w') (hE : HE Q E)
  (h : S88_0 (gt a 0) (gt a 1) (gt a 2) (gt a 3) w R E) : C88_0.wpIn (Fw r) 0 P (Qs (wr C88_0) a Q) a w :=
  piece' (HJ := Z0) (HL := Z0) hmix hs (by decide +kernel) (fun _ _ => False) (fun a w => resQ P Tryz.f88.results a w R) Y0 E (fun _ _ _ h => h.elim) hR
  (fun _ _ _ _ h => h.elim) hE
  trivial (Eq.mpr (K88_0 (gt a) w R E) h)
theorem F88 (a0 a1 a2 a3 : Value) (w : World) (R : K1) (E : Ev) (h : S88_0 a0 a1 a2 a3 w R E) : C P 88 #[a0, a1, a2, a3] w R E := by
  have e : S88_0 (gt (A0 Tryz.f88.ntmps #[a0, a1, a2, a3]) 0) (gt (A0 Tryz.f88.ntmps #[a0, a1, a2, a3]) 1) (gt (A0 Tryz.f88.ntmps #[a0, a1, a2, a3]) 2) (gt (A0 Tryz.f88.ntmps #[a0, a1, a2, a3]) 3) w R E = S88_0 a0 a1 a2 a3 w R E := by kernel_rfl
  have t := T88_0 (r := none) (Q := QF P Tryz.f88 R E) (A0 Tryz.f88.ntmps #[a0, a1, a2, a3]) w (by kernel_rfl) R E (fun _ _ _ h => h) (fun _ _ _ h => h) (Eq.mpr e h)
  exact C_of (c := C88_0) Tryz.func88 (by kernel_rfl) t
def S89_j27 (v2 v12 v13 : Value) (w : World) (R : K1) (E : Ev) : Prop :=
  X P (.bin .rem 38 false true v2 (.int .u32 4096)) 38 w (fun t101 w1 =>
  X P (.bin .add 38 false false v12 t101) 38 w1 (fun t102 w2 =>
  R (Value.tuple #[t102, v13, (.int .i64 0)]) w2) E) E
noncomputable def C89_j27 : Code := cR (cR (cR (cR (cR (bodyOf Tryz.f89)))))
theorem K89_j27 (g : Env) (w : World) (R : K1) (E : Ev) :
  vcF P Z0 Z0 C89_j27 (QC (fun _ _ => False) (fun a w => resQ P Tryz.f89.results a w R) Y0 E) g w = S89_j27 (g 2) (g 12) (g 13) w R E := by kernel_rfl
theorem T89_j27 (hs : a.tmps.size = 104) (R : K1) (E : Ev) (hR : ∀ a' w', Ag (wr C89_j27) a a' → resQ P Tryz.f89.results (gt a') w' R → Q .ret a' w') (hE : HE Q E)
  (h : S89_j27 (gt a 2) (gt a 12) (gt a 13) w R E) : C89_j27.wpIn (Fw r) 0 P (Qs (wr C89_j27) a Q) a w :=
  piece' (HJ := Z0) (HL := Z0) hmix hs (by decide +kernel) (fun _ _ => False) (fun a w => resQ P Tryz.f89.results a w R) Y0 E (fun _ _ _ h => h.elim) hR
  (fun _ _ _ _ h => h.elim) hE
  trivial (Eq.mpr (K89_j27 (gt a) w R E) h)
def S89_j26 (v0 v2 v3 v12 v13 v30 v31 : Value) (w : World) (N : K7) (E : Ev) : Prop :=
  X P (.bin .add 3 false true v31 (.int .i64 1)) 3 w (fun t98 w1 =>
  N v0 v2 v3 v12 v13 v30 t98 w1) E
noncomputable def C89_j26 : Code := cR (cR (cR (cB (cB (cR (cL (cR (cR (cR (cR (bodyOf Tryz.f89)))))))))))
theorem K89_j26 (g : Env) (w : World) (N : K7) (E : Ev) :
  vcF P Z0 Z0 C89_j26 (QC (fun a w => N (a 0) (a 2) (a 3) (a 12) (a 13) (a 30) (a 31) w) (fun _ _ => False) Y0 E) g w = S89_j26 (g 0) (g 2) (g 3) (g 12) (g 13) (g 30) (g 31) w N E := by kernel_rfl
theorem T89_j26 (hs : a.tmps.size = 104) (N : K7) (E : Ev) (hN : ∀ a' w', Ag (wr C89_j26) a a' → N (gt a' 0) (gt a' 2) (gt a' 3) (gt a' 12) (gt a' 13) (gt a' 30) (gt a' 31) w' → Q .normal a' w') (hE : HE Q E)
  (h : S89_j26 (gt a 0) (gt a 2) (gt a 3) (gt a 12) (gt a 13) (gt a 30) (gt a 31) w N E) : C89_j26.wpIn (Fw r) 0 P (Qs (wr C89_j26) a Q) a w :=
  piece' (HJ := Z0) (HL := Z0) hmix hs (by decide +kernel) (fun a w => N (a 0) (a 2) (a 3) (a 12) (a 13) (a 30) (a 31) w) (fun _ _ => False) Y0 E hN (fun _ _ _ h => h.elim)
  (fun _ _ _ _ h => h.elim) hE
  trivial (Eq.mpr (K89_j26 (gt a) w N E) h)
def S89_b5 (v0 v2 v3 v12 v13 v30 v31 : Value) (w : World) (N : K7) (X0 : K3) (R : K1) (E : Ev) : Prop :=
  X P (.bin .lss 3 false true v31 (.int .i64 2)) 0 w (fun t32 w1 =>
  Cnd t32 (
  X P (.index 216 v30 v31) 38 w1 (fun t34 w2 =>
  X P (.callF 53 #[v0, v12, t34]) 125 w2 (fun t39 w3 =>
  X P (.extract t39 0) 38 w3 (fun t40 w4 =>
  X P (.extract t39 1) 38 w4 (fun t41 w5 =>
  X P (.extract t39 2) 4 w5 (fun t42 w6 =>
  X P (.un .not t42) 4 w6 (fun t44 w7 =>
  Cnd t44 (
  R (Value.tuple #[(.int .u32 0), v13, (.int .i64 2)]) w7) (
  X P (.build 196 #[(0, t40), (1, t41)]) 196 w7 (fun t49 w8 =>
  X P (.buildSlice 192 1 #[(0, t49)]) 192 w8 (fun t50 w9 =>
  X P (.callB .append #[192, 192] #[false, false] #[v13, t50]) 192 w9 (fun t51 w10 =>
  X P (.callF 54 #[t41]) 130 w10 (fun t54 w11 =>
  X P (.extract t54 0) 129 w11 (fun t55 w12 =>
  X P (.extract t54 1) 53 w12 (fun t56 w13 =>
  X P (.alloc 129) 0 w13 (fun t19 w14 =>
  X P (.store 129 t19 t55) 0 w14 (fun _ w15 =>
  X P (.build 217 #[(0, (.int .i64 2)), (1, (.int .i64 1))]) 217 w15 (fun t57 w16 =>
  X P (.index 217 t57 v31) 127 w16 (fun t59 w17 =>
  X P (.bin .neq 53 false true t56 (.int .i64 0)) 4 w17 (fun t62 w18 =>
  Cnd t62 (
  R (Value.tuple #[(.int .u32 0), t51, (.int .i64 4)]) w18) (
  X P (.fieldAddr 129 t19 0) 0 w18 (fun t65 w19 =>
  X P (.load 127 t65) 127 w19 (fun t66 w20 =>
  X P (.bin .eql 127 false true t66 (.int .i64 0)) 4 w20 (fun t67 w21 =>
  Cnd t67 (
  R (Value.tuple #[(.int .u32 0), t51, (.int .i64 3)]) w21) (
  X P (.fieldAddr 129 t19 0) 0 w21 (fun t70 w22 =>
  X P (.load 127 t70) 127 w22 (fun t71 w23 =>
  X P (.bin .neq 127 false false t71 t59) 4 w23 (fun t73 w24 =>
  Cnd t73 (
  R (Value.tuple #[(.int .u32 0), t51, (.int .i64 4)]) w24) (
  X P (.bin .eql 3 false true v31 (.int .i64 0)) 4 w24 (fun t77 w25 =>
  Cnd t77 (
  X P (.fieldAddr 129 t19 2) 0 w25 (fun t78 w26 =>
  X P (.load 38 t78) 38 w26 (fun t79 w27 =>
  X P (.bin .shl 38 false true t79 (.int .u64 12)) 38 w27 (fun t80 w28 =>
  S89_j26 v0 v2 v3 t80 t51 v30 v31 w28 N E) E) E) E) (
  X P (.fieldAddr 129 t19 1) 0 w25 (fun t82 w26 =>
  X P (.load 58 t82) 58 w26 (fun t83 w27 =>
  X P (.callF 101 #[t83, v3]) 4 w27 (fun t85 w28 =>
  X P (.un .not t85) 4 w28 (fun t86 w29 =>
  Cnd t86 (
  R (Value.tuple #[(.int .u32 0), t51, (.int .i64 5)]) w29) (
  X P (.fieldAddr 129 t19 2) 0 w29 (fun t90 w30 =>
  X P (.load 38 t90) 38 w30 (fun t91 w31 =>
  X P (.callF 55 #[v0, t91]) 4 w31 (fun t92 w32 =>
  X P (.un .not t92) 4 w32 (fun t93 w33 =>
  Cnd t93 (
  R (Value.tuple #[(.int .u32 0), t51, (.int .i64 2)]) w33) (
  X P (.fieldAddr 129 t19 2) 0 w33 (fun t95 w34 =>
  X P (.load 38 t95) 38 w34 (fun t96 w35 =>
  X P (.bin .shl 38 false true t96 (.int .u64 12)) 38 w35 (fun t97 w36 =>
  S89_j26 v0 v2 v3 t97 t51 v30 v31 w36 N E) E) E) E)) E) E) E) E)) E) E) E) E)) E)) E) E) E)) E) E) E)) E) E) E) E) E) E) E) E) E) E) E)) E) E) E) E) E) E) (
  X0 v2 v12 v13 w1)) E
noncomputable def C89_b5 : Code := cB (cB (cR (cL (cR (cR (cR (cR (bodyOf Tryz.f89))))))))
noncomputable def HJ89_b5 (N : K7) (X0 : K3) (R : K1) (E : Ev) : Cut := fun i => match i with | some 26 => some (fun a w => S89_j26 (a 0) (a 2) (a 3) (a 12) (a 13) (a 30) (a 31) w N E) | _ => none
noncomputable def J89_b5 (N : K7) (X0 : K3) (R : K1) (E : Ev) : Nat → Env → World → Prop := fun i a w => match i with | 0 => X0 (a 2) (a 12) (a 13) w | _ => False
theorem K89_b5 (g : Env) (w : World) (N : K7) (X0 : K3) (R : K1) (E : Ev) :
  vcF P (HJ89_b5 N X0 R E) Z0 C89_b5 (QC (fun a w => N (a 0) (a 2) (a 3) (a 12) (a 13) (a 30) (a 31) w) (fun a w => resQ P Tryz.f89.results a w R) (J89_b5 N X0 R E) E) g w = S89_b5 (g 0) (g 2) (g 3) (g 12) (g 13) (g 30) (g 31) w N X0 R E := by kernel_rfl
theorem T89_b5 (hs : a.tmps.size = 104) (N : K7) (X0 : K3) (R : K1) (E : Ev) (hN : ∀ a' w', Ag (wr C89_b5) a a' → N (gt a' 0) (gt a' 2) (gt a' 3) (gt a' 12) (gt a' 13) (gt a' 30) (gt a' 31) w' → Q .normal a' w') (hX0 : ∀ a' w', Ag (wr C89_b5) a a' → X0 (gt a' 2) (gt a' 12) (gt a' 13) w' → Q (.exit 0) a' w') (hR : ∀ a' w', Ag (wr C89_b5) a a' → resQ P Tryz.f89.results (gt a') w' R → Q .ret a' w') (hE : HE Q E)
  (h : S89_b5 (gt a 0) (gt a 2) (gt a 3) (gt a 12) (gt a 13) (gt a 30) (gt a 31) w N X0 R E) : C89_b5.wpIn (Fw r) 0 P (Qs (wr C89_b5) a Q) a w :=
  piece' (HJ := HJ89_b5 N X0 R E) (HL := Z0) hmix hs (by decide +kernel) (fun a w => N (a 0) (a 2) (a 3) (a 12) (a 13) (a 30) (a 31) w) (fun a w => resQ P Tryz.f89.results a w R) (J89_b5 N X0 R E) E hN hR
  (fun i a' w' hag h => by
  unfold J89_b5 at h
  split at h <;> first | exact hX0 _ _ hag h | exact h.elim) hE
  ⟨pay (c := C89_j26) (W := wr C89_b5) (h := fun a w => S89_j26 (a 0) (a 2) (a 3) (a 12) (a 13) (a 30) (a 31) w N E) (by decide +kernel) fun a w hsz h => T89_j26 a w (hsz.trans hs) N E (fun _ _ _ h => h) (fun _ _ _ h => h) h, trivial⟩ (Eq.mpr (K89_b5 (gt a) w N X0 R E) h)
def S89_l5 (v0 v2 v3 v12 v13 v30 v31 : Value) (w : World) (X0 : K3) (R : K1) (E : Ev) : Prop :=
  ∃ (I : K3) (μ : Value → Value → Value → World → Nat), I v12 v13 v31 w ∧ ∀ (v12 v13 v31 : Value) (w : World), I v12 v13 v31 w → S89_b5 v0 v2 v3 v12 v13 v30 v31 w (fun x0 x2 x3 x12 x13 x30 x31 y => I x12 x13 x31 y ∧ μ x12 x13 x31 y < μ v12 v13 v31 w) X0 R E
theorem T89_l5 (hs : a.tmps.size = 104) (X0 : K3) (R : K1) (E : Ev) (hX0 : ∀ a' w', Ag (wr (Code.loop C89_b5)) a a' → X0 (gt a' 2) (gt a' 12) (gt a' 13) w' → Q (.exit 0) a' w') (hR : ∀ a' w', Ag (wr (Code.loop C89_b5)) a a' → resQ P Tryz.f89.results (gt a') w' R → Q .ret a' w') (hE : HE Q E)
  (h : S89_l5 (gt a 0) (gt a 2) (gt a 3) (gt a 12) (gt a 13) (gt a 30) (gt a 31) w X0 R E) : (Code.loop C89_b5).wpIn (Fw r) 0 P (Qs (wr (Code.loop C89_b5)) a Q) a w := by
  obtain ⟨I, μ, h0, hr⟩ := h
  refine loop_piece (c := C89_b5) (fun a w => I (gt a 12) (gt a 13) (gt a 31) w) (fun a w => μ (gt a 12) (gt a 13) (gt a 31) w) h0 fun a' w' hag hI => ?_
  have h' := hr (gt a' 12) (gt a' 13) (gt a' 31) w' hI
  rw [← hag.get 0 (by decide +kernel)] at h'
  rw [← hag.get 2 (by decide +kernel)] at h'
  rw [← hag.get 3 (by decide +kernel)] at h'
  rw [← hag.get 30 (by decide +kernel)] at h'
  exact T89_b5 a' w' (hag.size.trans hs) (fun x0 x2 x3 x12 x13 x30 x31 y => I x12 x13 x31 y ∧ μ x12 x13 x31 y < μ (gt a' 12) (gt a' 13) (gt a' 31) w') X0 R E (fun _ _ _ h => h) (fun a1 w1 hag1 h => hX0 a1 w1 (hag.trans hag1) h) (fun a1 w1 hag1 h => hR a1 w1 (hag.trans hag1) h) hE h'
def S89_0 (v0 v1 v2 v3 : Value) (w : World) (R : K1) (E : Ev) : Prop :=
  X P (.bin .shr 38 false true v2 (.int .u64 12)) 38 w (fun t23 w1 =>
  X P (.callF 79 #[t23]) 122 w1 (fun t24 w2 =>
  X P (.alloc 122) 0 w2 (fun t11 w3 =>
  X P (.store 122 t11 t24) 0 w3 (fun _ w4 =>
  X P (.fieldAddr 122 t11 0) 0 w4 (fun t26 w5 =>
  X P (.load 38 t26) 38 w5 (fun t27 w6 =>
  X P (.fieldAddr 122 t11 1) 0 w6 (fun t28 w7 =>
  X P (.load 38 t28) 38 w7 (fun t29 w8 =>
  X P (.build 216 #[(0, t27), (1, t29)]) 216 w8 (fun t30 w9 =>
  S89_l5 v0 v2 v3 v1 (.slice none 0 0) t30 (.int .i64 0) w9 (fun x2 x12 x13 y => S89_j27 x2 x12 x13 y R E) R E) E) E) E) E) E) E) E) E) E
noncomputable def C89_0 : Code := bodyOf Tryz.f89
noncomputable def HJ89_0 (R : K1) (E : Ev) : Cut := fun i => match i with | some 27 => some (fun a w => S89_j27 (a 2) (a 12) (a 13) w R E) | _ => none
noncomputable def HL89_0 (R : K1) (E : Ev) : Cut := fun i => match i with | some 5 => some (fun a w => S89_l5 (a 0) (a 2) (a 3) (a 12) (a 13) (a 30) (a 31) w (fun x2 x12 x13 y => S89_j27 x2 x12 x13 y R E) R E) | _ => none
theorem K89_0 (g : Env) (w : World) (R : K1) (E : Ev) :
  vcF P (HJ89_0 R E) (HL89_0 R E) C89_0 (QC (fun _ _ => False) (fun a w => resQ P Tryz.f89.results a w R) Y0 E) g w = S89_0 (g 0) (g 1) (g 2) (g 3) w R E := by kernel_rfl
theorem T89_0 (hs : a.tmps.size = 104) (R : K1) (E : Ev) (hR : ∀ a' w', Ag (wr C89_0) a a' → resQ P Tryz.f89.results (gt a') w' R → Q .ret a' w') (hE : HE Q E)
  (h : S89_0 (gt a 0) (gt a 1) (gt a 2) (gt a 3) w R E) : C89_0.wpIn (Fw r) 0 P (Qs (wr C89_0) a Q) a w :=
  piece' (HJ := HJ89_0 R E) (HL := HL89_0 R E) hmix hs (by decide +kernel) (fun _ _ => False) (fun a w => resQ P Tryz.f89.results a w R) Y0 E (fun _ _ _ h => h.elim) hR
  (fun _ _ _ _ h => h.elim) hE
  ⟨pay (c := Code.loop C89_b5) (W := wr C89_0) (h := fun a w => S89_l5 (a 0) (a 2) (a 3) (a 12) (a 13) (a 30) (a 31) w (fun x2 x12 x13 y => S89_j27 x2 x12 x13 y R E) R E) (by decide +kernel) fun a w hsz h => T89_l5 a w (hsz.trans hs) (fun x2 x12 x13 y => S89_j27 x2 x12 x13 y R E) R E (fun _ _ _ h => h) (fun _ _ _ h => h) (fun _ _ _ h => h) h, pay (c := C89_j27) (W := wr C89_0) (h := fun a w => S89_j27 (a 2) (a 12) (a 13) w R E) (by decide +kernel) fun a w hsz h => T89_j27 a w (hsz.trans hs) R E (fun _ _ _ h => h) (fun _ _ _ h => h) h, trivial⟩ (Eq.mpr (K89_0 (gt a) w R E) h)
theorem F89 (a0 a1 a2 a3 : Value) (w : World) (R : K1) (E : Ev) (h : S89_0 a0 a1 a2 a3 w R E) : C P 89 #[a0, a1, a2, a3] w R E := by
  have e : S89_0 (gt (A0 Tryz.f89.ntmps #[a0, a1, a2, a3]) 0) (gt (A0 Tryz.f89.ntmps #[a0, a1, a2, a3]) 1) (gt (A0 Tryz.f89.ntmps #[a0, a1, a2, a3]) 2) (gt (A0 Tryz.f89.ntmps #[a0, a1, a2, a3]) 3) w R E = S89_0 a0 a1 a2 a3 w R E := by kernel_rfl
  have t := T89_0 (r := none) (Q := QF P Tryz.f89 R E) (A0 Tryz.f89.ntmps #[a0, a1, a2, a3]) w (by kernel_rfl) R E (fun _ _ _ h => h) (fun _ _ _ h => h) (Eq.mpr e h)
  exact C_of (c := C89_0) Tryz.func89 (by kernel_rfl) t
def S90_j10 (v0 v4 v5 v6 v7 : Value) (w : World) (R : K1) (E : Ev) : Prop :=
  X P (.load 177 v4) 177 w (fun t64 w1 =>
  X P (.load 188 v5) 188 w1 (fun t65 w2 =>
  X P (.callF 100 #[v0, t64, t65]) 0 w2 (fun t66 w3 =>
  X P (.load 177 v6) 177 w3 (fun t67 w4 =>
  X P (.store 177 v6 t67) 0 w4 (fun _ w5 =>
  XRes P [(v6, some 177), (v7, none)] w5 R) E) E) E) E) E
noncomputable def C90_j10 : Code := cR (cR (bodyOf Tryz.f90))
theorem K90_j10 (g : Env) (w : World) (R : K1) (E : Ev) :
  vcF P Z0 Z0 C90_j10 (QC (fun _ _ => False) (fun a w => resQ P Tryz.f90.results a w R) Y0 E) g w = S90_j10 (g 0) (g 4) (g 5) (g 6) (g 7) w R E := by kernel_rfl
theorem T90_j10 (hs : a.tmps.size = 69) (R : K1) (E : Ev) (hR : ∀ a' w', Ag (wr C90_j10) a a' → resQ P Tryz.f90.results (gt a') w' R → Q .ret a' w') (hE : HE Q E)
  (h : S90_j10 (gt a 0) (gt a 4) (gt a 5) (gt a 6) (gt a 7) w R E) : C90_j10.wpIn (Fw r) 0 P (Qs (wr C90_j10) a Q) a w :=
  piece' (HJ := Z0) (HL := Z0) hmix hs (by decide +kernel) (fun _ _ => False) (fun a w => resQ P Tryz.f90.results a w R) Y0 E (fun _ _ _ h => h.elim) hR
  (fun _ _ _ _ h => h.elim) hE
  trivial (Eq.mpr (K90_j10 (gt a) w R E) h)
def S90_j9 (v0 v4 v5 v6 v7 : Value) (w : World) (N : K5) (E : Ev) : Prop :=
  XQ P (.nilCheck v0) 0 (drw w) (fun t59 =>
  XQ P (.fieldAddr 142 t59 1) 0 (drw w) (fun t60 =>
  XQ P (.load 139 t60) 139 (drw w) (fun t61 =>
  XQ P (.load 177 v6) 177 (drw w) (fun t62 =>
  (X P (.callB .delete #[139, 177] #[false, false] #[t61, t62]) 0 (drw w) (fun _ w1 =>
  N v0 v4 v5 v6 v7 w1) E)))))
noncomputable def C90_j9 : Code := cR (cR (cT (cR (cR (cL (cR (bodyOf Tryz.f90)))))))
theorem K90_j9 (g : Env) (w : World) (N : K5) (E : Ev) :
  vcF P Z0 Z0 C90_j9 (QC (fun a w => N (a 0) (a 4) (a 5) (a 6) (a 7) w) (fun _ _ => False) Y0 E) g w = S90_j9 (g 0) (g 4) (g 5) (g 6) (g 7) w N E := by kernel_rfl
theorem T90_j9 (hs : a.tmps.size = 69) (N : K5) (E : Ev) (hN : ∀ a' w', Ag (wr C90_j9) a a' → N (gt a' 0) (gt a' 4) (gt a' 5) (gt a' 6) (gt a' 7) w' → Q .normal a' w') (hE : HE Q E)
  (h : S90_j9 (gt a 0) (gt a 4) (gt a 5) (gt a 6) (gt a 7) w N E) : C90_j9.wpIn (Fw r) 0 P (Qs (wr C90_j9) a Q) a w :=
  piece' (HJ := Z0) (HL := Z0) hmix hs (by decide +kernel) (fun a w => N (a 0) (a 4) (a 5) (a 6) (a 7) w) (fun _ _ => False) Y0 E hN (fun _ _ _ h => h.elim)
  (fun _ _ _ _ h => h.elim) hE
  trivial (Eq.mpr (K90_j9 (gt a) w N E) h)
def S90_b5 (v0 v4 v5 v6 v7 v10 v45 : Value) (w : World) (N : K7) (X0 : K5) (E : Ev) : Prop :=
  X P (.next v45 false) 0 w (fun t46 w1 =>
  X P (.extract t46 0) 4 w1 (fun t47 w2 =>
  Cnd t47 (
  X P (.entry v45) 0 w2 (fun t48 w3 =>
  X P (.extract t48 0) 177 w3 (fun t49 w4 =>
  X P (.extract t48 1) 212 w4 (fun t50 w5 =>
  X P (.alloc 177) 0 w5 (fun t11 w6 =>
  X P (.alloc 212) 0 w6 (fun t12 w7 =>
  X P (.store 177 t11 t49) 0 w7 (fun _ w8 =>
  X P (.store 212 t12 t50) 0 w8 (fun _ w9 =>
  X P (.fieldAddr 212 t12 1) 0 w9 (fun t51 w10 =>
  X P (.load 140 t51) 140 w10 (fun t52 w11 =>
  X P (.bin .lss 140 false false t52 v10) 4 w11 (fun t54 w12 =>
  Cnd t54 (
  XQ P (.load 177 t11) 177 (drw w12) (fun t55 =>
  XQ P (.fieldAddr 212 t12 1) 0 (drw w12) (fun t56 =>
  XQ P (.load 140 t56) 140 (drw w12) (fun t57 =>
  (X P (.store 177 v6 t55) 0 (drw w12) (fun _ w13 =>
  (XQ P (.load 140 t56) 140 w13 (fun v => v = t57)) ∧
  (XQ P (.fieldAddr 212 t12 1) 0 w13 (fun v => v = t56)) ∧
  N v0 v4 v5 v6 (.bool true) t57 v45 w13) E))))) (
  N v0 v4 v5 v6 v7 v10 v45 w12)) E) E) E) E) E) E) E) E) E) E) (
  X0 v0 v4 v5 v6 v7 w2)) E) E
noncomputable def C90_b5 : Code := cB (cB (cR (cL (cR (cT (cR (cR (cL (cR (bodyOf Tryz.f90))))))))))
noncomputable def J90_b5 (N : K7) (X0 : K5) (E : Ev) : Nat → Env → World → Prop := fun i a w => match i with | 0 => X0 (a 0) (a 4) (a 5) (a 6) (a 7) w | _ => False
theorem K90_b5 (g : Env) (w : World) (N : K7) (X0 : K5) (E : Ev) :
  vcF P Z0 Z0 C90_b5 (QC (fun a w => N (a 0) (a 4) (a 5) (a 6) (a 7) (a 10) (a 45) w) (fun _ _ => False) (J90_b5 N X0 E) E) g w = S90_b5 (g 0) (g 4) (g 5) (g 6) (g 7) (g 10) (g 45) w N X0 E := by kernel_rfl
theorem T90_b5 (hs : a.tmps.size = 69) (N : K7) (X0 : K5) (E : Ev) (hN : ∀ a' w', Ag (wr C90_b5) a a' → N (gt a' 0) (gt a' 4) (gt a' 5) (gt a' 6) (gt a' 7) (gt a' 10) (gt a' 45) w' → Q .normal a' w') (hX0 : ∀ a' w', Ag (wr C90_b5) a a' → X0 (gt a' 0) (gt a' 4) (gt a' 5) (gt a' 6) (gt a' 7) w' → Q (.exit 0) a' w') (hE : HE Q E)
  (h : S90_b5 (gt a 0) (gt a 4) (gt a 5) (gt a 6) (gt a 7) (gt a 10) (gt a 45) w N X0 E) : C90_b5.wpIn (Fw r) 0 P (Qs (wr C90_b5) a Q) a w :=
  piece' (HJ := Z0) (HL := Z0) hmix hs (by decide +kernel) (fun a w => N (a 0) (a 4) (a 5) (a 6) (a 7) (a 10) (a 45) w) (fun _ _ => False) (J90_b5 N X0 E) E hN (fun _ _ _ h => h.elim)
  (fun i a' w' hag h => by
  unfold J90_b5 at h
  split at h <;> first | exact hX0 _ _ hag h | exact h.elim) hE
  trivial (Eq.mpr (K90_b5 (gt a) w N X0 E) h)
def S90_l5 (v0 v4 v5 v6 v7 v10 v45 : Value) (w : World) (X0 : K5) (E : Ev) : Prop :=
  ∃ (I : K2) (μ : Value → Value → World → Nat), I v7 v10 w ∧ ∀ (v7 v10 : Value) (w : World), I v7 v10 w → S90_b5 v0 v4 v5 v6 v7 v10 v45 w (fun x0 x4 x5 x6 x7 x10 x45 y => I x7 x10 y ∧ μ x7 x10 y < μ v7 v10 w) X0 E
theorem T90_l5 (hs : a.tmps.size = 69) (X0 : K5) (E : Ev) (hX0 : ∀ a' w', Ag (wr (Code.loop C90_b5)) a a' → X0 (gt a' 0) (gt a' 4) (gt a' 5) (gt a' 6) (gt a' 7) w' → Q (.exit 0) a' w') (hE : HE Q E)
  (h : S90_l5 (gt a 0) (gt a 4) (gt a 5) (gt a 6) (gt a 7) (gt a 10) (gt a 45) w X0 E) : (Code.loop C90_b5).wpIn (Fw r) 0 P (Qs (wr (Code.loop C90_b5)) a Q) a w := by
  obtain ⟨I, μ, h0, hr⟩ := h
  refine loop_piece (c := C90_b5) (fun a w => I (gt a 7) (gt a 10) w) (fun a w => μ (gt a 7) (gt a 10) w) h0 fun a' w' hag hI => ?_
  have h' := hr (gt a' 7) (gt a' 10) w' hI
  rw [← hag.get 0 (by decide +kernel)] at h'
  rw [← hag.get 4 (by decide +kernel)] at h'
  rw [← hag.get 5 (by decide +kernel)] at h'
  rw [← hag.get 6 (by decide +kernel)] at h'
  rw [← hag.get 45 (by decide +kernel)] at h'
  exact T90_b5 a' w' (hag.size.trans hs) (fun x0 x4 x5 x6 x7 x10 x45 y => I x7 x10 y ∧ μ x7 x10 y < μ (gt a' 7) (gt a' 10) w') X0 E (fun _ _ _ h => h) (fun a1 w1 hag1 h => hX0 a1 w1 (hag.trans hag1) h) hE h'
def S90_0 (v0 v1 v2 : Value) (w : World) (R : K1) (E : Ev) : Prop :=
  X P (.box 177 v1) 0 w (fun t4 w1 =>
  X P (.box 188 v2) 0 w1 (fun t5 w2 =>
  X P (.alloc 177) 0 w2 (fun t6 w3 =>
  XQ P (.nilCheck v0) 0 (drw w3) (fun t15 =>
  XQ P (.fieldAddr 142 t15 1) 0 (drw w3) (fun t16 =>
  XQ P (.load 139 t16) 139 (drw w3) (fun t17 =>
  XQ P (.load 177 t4) 177 (drw w3) (fun t18 =>
  XQ P (.lookup 139 t17 t18 true) 213 (drw w3) (fun t19 =>
  XQ P (.extract t19 0) 212 (drw w3) (fun t20 =>
  XQ P (.extract t19 1) 4 (drw w3) (fun t21 =>
  (X P (.alloc 212) 0 (drw w3) (fun t8 w4 =>
  (XQ P (.extract t19 1) 4 w4 (fun v => v = t21)) ∧
  (XQ P (.extract t19 0) 212 w4 (fun v => v = t20)) ∧
  (XQ P (.lookup 139 t17 t18 true) 213 w4 (fun v => v = t19)) ∧
  (XQ P (.load 177 t4) 177 w4 (fun v => v = t18)) ∧
  (XQ P (.load 139 t16) 139 w4 (fun v => v = t17)) ∧
  (XQ P (.fieldAddr 142 t15 1) 0 w4 (fun v => v = t16)) ∧
  (XQ P (.nilCheck v0) 0 w4 (fun v => v = t15)) ∧
  (X P (.store 212 t8 t20) 0 w4 (fun _ w5 =>
  (XQ P (.extract t19 1) 4 w5 (fun v => v = t21)) ∧
  XQ P (.un .not t21) 4 (drw w5) (fun t23 =>
  XQG (some t23) true P (.val v0) 43 (drw w5) (fun t25 =>
  XQG (some t23) true P (.nilCheck t25) 0 (drw w5) (fun t26 =>
  XQG (some t23) true P (.fieldAddr 142 t26 1) 0 (drw w5) (fun t27 =>
  XQG (some t23) true P (.load 139 t27) 139 (drw w5) (fun t28 =>
  XQG (some t23) true P (.callB .len #[139] #[false] #[t28]) 3 (drw w5) (fun t29 =>
  XQG (some t23) true P (.val v0) 43 (drw w5) (fun t30 =>
  XQG (some t23) true P (.nilCheck t30) 0 (drw w5) (fun t31 =>
  XQG (some t23) true P (.fieldAddr 142 t31 0) 0 (drw w5) (fun t32 =>
  XQG (some t23) true P (.load 3 t32) 3 (drw w5) (fun t33 =>
  XQG (some t23) true P (.bin .eql 3 false false t29 t33) 4 (drw w5) (fun t34 =>
  XQ P (.pick t23 t34 (.bool false)) 4 (drw w5) (fun t35 =>
  Cnd t35 (
  X P (.nilCheck v0) 0 (drw w5) (fun t37 w6 =>
  X P (.fieldAddr 142 t37 2) 0 w6 (fun t38 w7 =>
  X P (.load 140 t38) 140 w7 (fun t39 w8 =>
  X P (.bin .add 140 false true t39 (.int .u64 1)) 140 w8 (fun t40 w9 =>
  X P (.nilCheck v0) 0 w9 (fun t42 w10 =>
  X P (.fieldAddr 142 t42 1) 0 w10 (fun t43 w11 =>
  X P (.load 139 t43) 139 w11 (fun t44 w12 =>
  X P (.range 139 t44) 0 w12 (fun t45 w13 =>
  S90_l5 v0 t4 t5 t6 (.bool false) t40 t45 w13 (fun x0 x4 x5 x6 x7 y => S90_j9 x0 x4 x5 x6 x7 y (fun x0 x4 x5 x6 x7 y => S90_j10 x0 x4 x5 x6 x7 y R E) E) E) E) E) E) E) E) E) E) E) (
  S90_j10 v0 t4 t5 t6 (.bool false) (drw w5) R E)))))))))))))) E)) E))))))))) E) E) E
noncomputable def C90_0 : Code := bodyOf Tryz.f90
noncomputable def HJ90_0 (R : K1) (E : Ev) : Cut := fun i => match i with | some 10 => some (fun a w => S90_j10 (a 0) (a 4) (a 5) (a 6) (a 7) w R E) | some 9 => some (fun a w => S90_j9 (a 0) (a 4) (a 5) (a 6) (a 7) w (fun x0 x4 x5 x6 x7 y => S90_j10 x0 x4 x5 x6 x7 y R E) E) | _ => none
noncomputable def HL90_0 (R : K1) (E : Ev) : Cut := fun i => match i with | some 5 => some (fun a w => S90_l5 (a 0) (a 4) (a 5) (a 6) (a 7) (a 10) (a 45) w (fun x0 x4 x5 x6 x7 y => S90_j9 x0 x4 x5 x6 x7 y (fun x0 x4 x5 x6 x7 y => S90_j10 x0 x4 x5 x6 x7 y R E) E) E) | _ => none
theorem K90_0 (g : Env) (w : World) (R : K1) (E : Ev) :
  vcF P (HJ90_0 R E) (HL90_0 R E) C90_0 (QC (fun _ _ => False) (fun a w => resQ P Tryz.f90.results a w R) Y0 E) g w = S90_0 (g 0) (g 1) (g 2) w R E := by kernel_rfl
theorem T90_0 (hs : a.tmps.size = 69) (R : K1) (E : Ev) (hR : ∀ a' w', Ag (wr C90_0) a a' → resQ P Tryz.f90.results (gt a') w' R → Q .ret a' w') (hE : HE Q E)
  (h : S90_0 (gt a 0) (gt a 1) (gt a 2) w R E) : C90_0.wpIn (Fw r) 0 P (Qs (wr C90_0) a Q) a w :=
  piece' (HJ := HJ90_0 R E) (HL := HL90_0 R E) hmix hs (by decide +kernel) (fun _ _ => False) (fun a w => resQ P Tryz.f90.results a w R) Y0 E (fun _ _ _ h => h.elim) hR
  (fun _ _ _ _ h => h.elim) hE
  ⟨pay (c := Code.loop C90_b5) (W := wr C90_0) (h := fun a w => S90_l5 (a 0) (a 4) (a 5) (a 6) (a 7) (a 10) (a 45) w (fun x0 x4 x5 x6 x7 y => S90_j9 x0 x4 x5 x6 x7 y (fun x0 x4 x5 x6 x7 y => S90_j10 x0 x4 x5 x6 x7 y R E) E) E) (by decide +kernel) fun a w hsz h => T90_l5 a w (hsz.trans hs) (fun x0 x4 x5 x6 x7 y => S90_j9 x0 x4 x5 x6 x7 y (fun x0 x4 x5 x6 x7 y => S90_j10 x0 x4 x5 x6 x7 y R E) E) E (fun _ _ _ h => h) (fun _ _ _ h => h) h, pay (c := C90_j9) (W := wr C90_0) (h := fun a w => S90_j9 (a 0) (a 4) (a 5) (a 6) (a 7) w (fun x0 x4 x5 x6 x7 y => S90_j10 x0 x4 x5 x6 x7 y R E) E) (by decide +kernel) fun a w hsz h => T90_j9 a w (hsz.trans hs) (fun x0 x4 x5 x6 x7 y => S90_j10 x0 x4 x5 x6 x7 y R E) E (fun _ _ _ h => h) (fun _ _ _ h => h) h, pay (c := C90_j10) (W := wr C90_0) (h := fun a w => S90_j10 (a 0) (a 4) (a 5) (a 6) (a 7) w R E) (by decide +kernel) fun a w hsz h => T90_j10 a w (hsz.trans hs) R E (fun _ _ _ h => h) (fun _ _ _ h => h) h, trivial⟩ (Eq.mpr (K90_0 (gt a) w R E) h)
theorem F90 (a0 a1 a2 : Value) (w : World) (R : K1) (E : Ev) (h : S90_0 a0 a1 a2 w R E) : C P 90 #[a0, a1, a2] w R E := by
  have e : S90_0 (gt (A0 Tryz.f90.ntmps #[a0, a1, a2]) 0) (gt (A0 Tryz.f90.ntmps #[a0, a1, a2]) 1) (gt (A0 Tryz.f90.ntmps #[a0, a1, a2]) 2) w R E = S90_0 a0 a1 a2 w R E := by kernel_rfl
  have t := T90_0 (r := none) (Q := QF P Tryz.f90 R E) (A0 Tryz.f90.ntmps #[a0, a1, a2]) w (by kernel_rfl) R E (fun _ _ _ h => h) (fun _ _ _ h => h) (Eq.mpr e h)
  exact C_of (c := C90_0) Tryz.func90 (by kernel_rfl) t
def S91_0 (v0 v1 : Value) (w : World) (R : K1) (E : Ev) : Prop :=
  X P (.box 28 v0) 0 w (fun t2 w1 =>
  X P (.fieldAddr 28 t2 2) 0 w1 (fun t8 w2 =>
  X P (.load 3 t8) 3 w2 (fun t9 w3 =>
  X P (.conv 3 93 t9) 93 w3 (fun t10 w4 =>
  X P (.callF 102 #[t10]) 3 w4 (fun t11 w5 =>
  X P (.bin .shr 38 false false v1 t11) 38 w5 (fun t12 w6 =>
  XQ P (.conv 38 3 t12) 3 (drw w6) (fun t14 =>
  XQ P (.fieldAddr 28 t2 0) 0 (drw w6) (fun t15 =>
  XQ P (.load 3 t15) 3 (drw w6) (fun t16 =>
  XQ P (.bin .sub 3 false true t16 (.int .i64 1)) 3 (drw w6) (fun t17 =>
  XQ P (.bin .and 3 false false t14 t17) 3 (drw w6) (fun t18 =>
  XQ P (.fieldAddr 28 t2 0) 0 (drw w6) (fun t20 =>
  XQ P (.load 3 t20) 3 (drw w6) (fun t21 =>
  XQ P (.conv 3 93 t21) 93 (drw w6) (fun t22 =>
  (X P (.callF 102 #[t22]) 3 (drw w6) (fun t23 w7 =>
  (XQ P (.bin .and 3 false false t14 t17) 3 w7 (fun v => v = t18)) ∧
  (XQ P (.bin .sub 3 false true t16 (.int .i64 1)) 3 w7 (fun v => v = t17)) ∧
  (XQ P (.load 3 t15) 3 w7 (fun v => v = t16)) ∧
  (XQ P (.fieldAddr 28 t2 0) 0 w7 (fun v => v = t15)) ∧
  (XQ P (.conv 38 3 t12) 3 w7 (fun v => v = t14)) ∧
  XQ P (.bin .shr 38 false false t12 t23) 38 w7 (fun t24 =>
  R (Value.tuple #[t18, t24]) w7)) E)))))))))) E) E) E) E) E) E
noncomputable def C91_0 : Code := bodyOf Tryz.f91
theorem K91_0 (g : Env) (w : World) (R : K1) (E : Ev) :
  vcF P Z0 Z0 C91_0 (QC (fun _ _ => False) (fun a w => resQ P Tryz.f91.results a w R) Y0 E) g w = S91_0 (g 0) (g 1) w R E := by kernel_rfl
theorem T91_0 (hs : a.tmps.size = 25) (R : K1) (E : Ev) (hR : ∀ a' w', Ag (wr C91_0) a a' → resQ P Tryz.f91.results (gt a') w' R → Q .ret a' w') (hE : HE Q E)
  (h : S91_0 (gt a 0) (gt a 1) w R E) : C91_0.wpIn (Fw r) 0 P (Qs (wr C91_0) a Q) a w :=
  piece' (HJ := Z0) (HL := Z0) hmix hs (by decide +kernel) (fun _ _ => False) (fun a w => resQ P Tryz.f91.results a w R) Y0 E (fun _ _ _ h => h.elim) hR
  (fun _ _ _ _ h => h.elim) hE
  trivial (Eq.mpr (K91_0 (gt a) w R E) h)
theorem F91 (a0 a1 : Value) (w : World) (R : K1) (E : Ev) (h : S91_0 a0 a1 w R E) : C P 91 #[a0, a1] w R E := by
  have e : S91_0 (gt (A0 Tryz.f91.ntmps #[a0, a1]) 0) (gt (A0 Tryz.f91.ntmps #[a0, a1]) 1) w R E = S91_0 a0 a1 w R E := by kernel_rfl
  have t := T91_0 (r := none) (Q := QF P Tryz.f91 R E) (A0 Tryz.f91.ntmps #[a0, a1]) w (by kernel_rfl) R E (fun _ _ _ h => h) (fun _ _ _ h => h) (Eq.mpr e h)
  exact C_of (c := C91_0) Tryz.func91 (by kernel_rfl) t
def S92_0 (v0 v1 : Value) (w : World) (R : K1) (E : Ev) : Prop :=
  X P (.box 38 v1) 0 w (fun t3 w1 =>
  XQ P (.nilCheck v0) 0 (drw w1) (fun t6 =>
  XQ P (.fieldAddr 150 t6 0) 0 (drw w1) (fun t7 =>
  XQ P (.nilCheck v0) 0 (drw w1) (fun t9 =>
  XQ P (.fieldAddr 150 t9 1) 0 (drw w1) (fun t10 =>
  XQ P (.load 3 t10) 3 (drw w1) (fun t11 =>
  XQ P (.slice 148 t7 none (some t11) none) 210 (drw w1) (fun t12 =>
  XQ P (.mkFunc (Fn.func 104) #[] #[t3]) 220 (drw w1) (fun t13 =>
  (X P (.callF 103 #[t12, t13]) 3 (drw w1) (fun t14 w2 =>
  R t14 w2) E))))))))) E
noncomputable def C92_0 : Code := bodyOf Tryz.f92
theorem K92_0 (g : Env) (w : World) (R : K1) (E : Ev) :
  vcF P Z0 Z0 C92_0 (QC (fun _ _ => False) (fun a w => resQ P Tryz.f92.results a w R) Y0 E) g w = S92_0 (g 0) (g 1) w R E := by kernel_rfl
theorem T92_0 (hs : a.tmps.size = 15) (R : K1) (E : Ev) (hR : ∀ a' w', Ag (wr C92_0) a a' → resQ P Tryz.f92.results (gt a') w' R → Q .ret a' w') (hE : HE Q E)
  (h : S92_0 (gt a 0) (gt a 1) w R E) : C92_0.wpIn (Fw r) 0 P (Qs (wr C92_0) a Q) a w :=
  piece' (HJ := Z0) (HL := Z0) hmix hs (by decide +kernel) (fun _ _ => False) (fun a w => resQ P Tryz.f92.results a w R) Y0 E (fun _ _ _ h => h.elim) hR
  (fun _ _ _ _ h => h.elim) hE
  trivial (Eq.mpr (K92_0 (gt a) w R E) h)
theorem F92 (a0 a1 : Value) (w : World) (R : K1) (E : Ev) (h : S92_0 a0 a1 w R E) : C P 92 #[a0, a1] w R E := by
  have e : S92_0 (gt (A0 Tryz.f92.ntmps #[a0, a1]) 0) (gt (A0 Tryz.f92.ntmps #[a0, a1]) 1) w R E = S92_0 a0 a1 w R E := by kernel_rfl
  have t := T92_0 (r := none) (Q := QF P Tryz.f92 R E) (A0 Tryz.f92.ntmps #[a0, a1]) w (by kernel_rfl) R E (fun _ _ _ h => h) (fun _ _ _ h => h) (Eq.mpr e h)
  exact C_of (c := C92_0) Tryz.func92 (by kernel_rfl) t
def S93_0 (v0 v1 v2 : Value) (w : World) (R : K1) (E : Ev) : Prop :=
  X P (.box 147 v2) 0 w (fun t5 w1 =>
  XQ P (.nilCheck v0) 0 (drw w1) (fun t7 =>
  XQ P (.fieldAddr 150 t7 0) 0 (drw w1) (fun t8 =>
  XQ P (.bin .add 3 false true v1 (.int .i64 1)) 3 (drw w1) (fun t10 =>
  XQ P (.slice 148 t8 (some (.int .i64 1)) (some t10) none) 210 (drw w1) (fun t11 =>
  XQ P (.nilCheck v0) 0 (drw w1) (fun t13 =>
  XQ P (.fieldAddr 150 t13 0) 0 (drw w1) (fun t14 =>
  XQ P (.slice 148 t14 none (some v1) none) 210 (drw w1) (fun t16 =>
  (X P (.callB .copy #[210, 210] #[false, false] #[t11, t16]) 3 (drw w1) (fun t17 w2 =>
  XQ P (.load 147 t5) 147 (drw w2) (fun t19 =>
  XQ P (.nilCheck v0) 0 (drw w2) (fun t20 =>
  XQ P (.fieldAddr 150 t20 0) 0 (drw w2) (fun t21 =>
  XQ P (.indexAddr 148 t21 (.int .i64 0)) 0 (drw w2) (fun t22 =>
  (X P (.store 147 t22 t19) 0 (drw w2) (fun _ w3 =>
  R (Value.tuple #[]) w3) E)))))) E))))))))) E
noncomputable def C93_0 : Code := bodyOf Tryz.f93
theorem K93_0 (g : Env) (w : World) (R : K1) (E : Ev) :
  vcF P Z0 Z0 C93_0 (QC (fun a w => resQ P Tryz.f93.results a w R) (fun a w => resQ P Tryz.f93.results a w R) Y0 E) g w = S93_0 (g 0) (g 1) (g 2) w R E := by kernel_rfl
theorem T93_0 (hs : a.tmps.size = 23) (R : K1) (E : Ev) (hN : ∀ a' w', Ag (wr C93_0) a a' → resQ P Tryz.f93.results (gt a') w' R → Q .normal a' w') (hR : ∀ a' w', Ag (wr C93_0) a a' → resQ P Tryz.f93.results (gt a') w' R → Q .ret a' w') (hE : HE Q E)
  (h : S93_0 (gt a 0) (gt a 1) (gt a 2) w R E) : C93_0.wpIn (Fw r) 0 P (Qs (wr C93_0) a Q) a w :=
  piece' (HJ := Z0) (HL := Z0) hmix hs (by decide +kernel) (fun a w => resQ P Tryz.f93.results a w R) (fun a w => resQ P Tryz.f93.results a w R) Y0 E hN hR
  (fun _ _ _ _ h => h.elim) hE
  trivial (Eq.mpr (K93_0 (gt a) w R E) h)
theorem F93 (a0 a1 a2 : Value) (w : World) (R : K1) (E : Ev) (h : S93_0 a0 a1 a2 w R E) : C P 93 #[a0, a1, a2] w R E := by
  have e : S93_0 (gt (A0 Tryz.f93.ntmps #[a0, a1, a2]) 0) (gt (A0 Tryz.f93.ntmps #[a0, a1, a2]) 1) (gt (A0 Tryz.f93.ntmps #[a0, a1, a2]) 2) w R E = S93_0 a0 a1 a2 w R E := by kernel_rfl
  have t := T93_0 (r := none) (Q := QF P Tryz.f93 R E) (A0 Tryz.f93.ntmps #[a0, a1, a2]) w (by kernel_rfl) R E (fun _ _ _ h => h) (fun _ _ _ h => h) (fun _ _ _ h => h) (Eq.mpr e h)
  exact C_of (c := C93_0) Tryz.func93 (by kernel_rfl) t
def S94_0 (v0 v1 v2 : Value) (w : World) (R : K1) (E : Ev) : Prop :=
  X P (.bin .geq 3 false false v0 v1) 4 w (fun t9 w1 =>
  XG (some t9) true P (.val v0) 3 w1 (fun t11 w2 =>
  XG (some t9) true P (.val v2) 3 w2 (fun t12 w3 =>
  XG (some t9) true P (.bin .leq 3 false false t11 t12) 4 w3 (fun t13 w4 =>
  X P (.pick t9 t13 (.bool false)) 4 w4 (fun t14 w5 =>
  XG (some t14) true P (.val v0) 3 w5 (fun t16 w6 =>
  XG (some t14) true P (.val v0) 3 w6 (fun t17 w7 =>
  XG (some t14) true P (.bin .sub 3 false true t17 (.int .i64 1)) 3 w7 (fun t18 w8 =>
  XG (some t14) true P (.bin .and 3 false false t16 t18) 3 w8 (fun t19 w9 =>
  XG (some t14) true P (.bin .eql 3 false true t19 (.int .i64 0)) 4 w9 (fun t20 w10 =>
  X P (.pick t14 t20 (.bool false)) 4 w10 (fun t21 w11 =>
  R t21 w11) E) E) E) E) E) E) E) E) E) E) E
noncomputable def C94_0 : Code := bodyOf Tryz.f94
theorem K94_0 (g : Env) (w : World) (R : K1) (E : Ev) :
  vcF P Z0 Z0 C94_0 (QC (fun _ _ => False) (fun a w => resQ P Tryz.f94.results a w R) Y0 E) g w = S94_0 (g 0) (g 1) (g 2) w R E := by kernel_rfl
theorem T94_0 (hs : a.tmps.size = 22) (R : K1) (E : Ev) (hR : ∀ a' w', Ag (wr C94_0) a a' → resQ P Tryz.f94.results (gt a') w' R → Q .ret a' w') (hE : HE Q E)
  (h : S94_0 (gt a 0) (gt a 1) (gt a 2) w R E) : C94_0.wpIn (Fw r) 0 P (Qs (wr C94_0) a Q) a w :=
  piece' (HJ := Z0) (HL := Z0) hmix hs (by decide +kernel) (fun _ _ => False) (fun a w => resQ P Tryz.f94.results a w R) Y0 E (fun _ _ _ h => h.elim) hR
  (fun _ _ _ _ h => h.elim) hE
  trivial (Eq.mpr (K94_0 (gt a) w R E) h)
theorem F94 (a0 a1 a2 : Value) (w : World) (R : K1) (E : Ev) (h : S94_0 a0 a1 a2 w R E) : C P 94 #[a0, a1, a2] w R E := by
  have e : S94_0 (gt (A0 Tryz.f94.ntmps #[a0, a1, a2]) 0) (gt (A0 Tryz.f94.ntmps #[a0, a1, a2]) 1) (gt (A0 Tryz.f94.ntmps #[a0, a1, a2]) 2) w R E = S94_0 a0 a1 a2 w R E := by kernel_rfl
  have t := T94_0 (r := none) (Q := QF P Tryz.f94 R E) (A0 Tryz.f94.ntmps #[a0, a1, a2]) w (by kernel_rfl) R E (fun _ _ _ h => h) (fun _ _ _ h => h) (Eq.mpr e h)
  exact C_of (c := C94_0) Tryz.func94 (by kernel_rfl) t
def S95_j10 (v7 : Value) (w : World) (R : K1) (E : Ev) : Prop :=
  R v7 w
noncomputable def C95_j10 : Code := cR (cR (cR (cR (cR (cR (cR (bodyOf Tryz.f95)))))))
theorem K95_j10 (g : Env) (w : World) (R : K1) (E : Ev) :
  vcF P Z0 Z0 C95_j10 (QC (fun _ _ => False) (fun a w => resQ P Tryz.f95.results a w R) Y0 E) g w = S95_j10 (g 7) w R E := by kernel_rfl
theorem T95_j10 (hs : a.tmps.size = 48) (R : K1) (E : Ev) (hR : ∀ a' w', Ag (wr C95_j10) a a' → resQ P Tryz.f95.results (gt a') w' R → Q .ret a' w') (hE : HE Q E)
  (h : S95_j10 (gt a 7) w R E) : C95_j10.wpIn (Fw r) 0 P (Qs (wr C95_j10) a Q) a w :=
  piece' (HJ := Z0) (HL := Z0) hmix hs (by decide +kernel) (fun _ _ => False) (fun a w => resQ P Tryz.f95.results a w R) Y0 E (fun _ _ _ h => h.elim) hR
  (fun _ _ _ _ h => h.elim) hE
  trivial (Eq.mpr (K95_j10 (gt a) w R E) h)
def S95_b8 (v7 v8 : Value) (w : World) (N : K2) (X0 : K1) (E : Ev) : Prop :=
  X P (.callB .len #[34] #[false] #[v7]) 3 w (fun t36 w1 =>
  X P (.bin .lss 3 false false v8 t36) 4 w1 (fun t37 w2 =>
  Cnd t37 (
  XQ P (.slice 34 v7 (some v8) none none) 34 (drw w2) (fun t41 =>
  XQ P (.slice 34 v7 none (some v8) none) 34 (drw w2) (fun t44 =>
  (X P (.callB .copy #[34, 34] #[false, false] #[t41, t44]) 3 (drw w2) (fun t45 w3 =>
  XQ P (.bin .add 3 false false v8 t45) 3 w3 (fun t46 =>
  N v7 t46 w3)) E)))) (
  X0 v7 w2)) E) E
noncomputable def C95_b8 : Code := cB (cB (cL (cR (cR (cR (cR (cR (cR (bodyOf Tryz.f95)))))))))
noncomputable def J95_b8 (N : K2) (X0 : K1) (E : Ev) : Nat → Env → World → Prop := fun i a w => match i with | 0 => X0 (a 7) w | _ => False
theorem K95_b8 (g : Env) (w : World) (N : K2) (X0 : K1) (E : Ev) :
  vcF P Z0 Z0 C95_b8 (QC (fun a w => N (a 7) (a 8) w) (fun _ _ => False) (J95_b8 N X0 E) E) g w = S95_b8 (g 7) (g 8) w N X0 E := by kernel_rfl
theorem T95_b8 (hs : a.tmps.size = 48) (N : K2) (X0 : K1) (E : Ev) (hN : ∀ a' w', Ag (wr C95_b8) a a' → N (gt a' 7) (gt a' 8) w' → Q .normal a' w') (hX0 : ∀ a' w', Ag (wr C95_b8) a a' → X0 (gt a' 7) w' → Q (.exit 0) a' w') (hE : HE Q E)
  (h : S95_b8 (gt a 7) (gt a 8) w N X0 E) : C95_b8.wpIn (Fw r) 0 P (Qs (wr C95_b8) a Q) a w :=
  piece' (HJ := Z0) (HL := Z0) hmix hs (by decide +kernel) (fun a w => N (a 7) (a 8) w) (fun _ _ => False) (J95_b8 N X0 E) E hN (fun _ _ _ h => h.elim)
  (fun i a' w' hag h => by
  unfold J95_b8 at h
  split at h <;> first | exact hX0 _ _ hag h | exact h.elim) hE
  trivial (Eq.mpr (K95_b8 (gt a) w N X0 E) h)
def S95_l8 (v7 v8 : Value) (w : World) (X0 : K1) (E : Ev) : Prop :=
  ∃ (I : K1) (μ : Value → World → Nat), I v8 w ∧ ∀ (v8 : Value) (w : World), I v8 w → S95_b8 v7 v8 w (fun x7 x8 y => I x8 y ∧ μ x8 y < μ v8 w) X0 E
theorem T95_l8 (hs : a.tmps.size = 48) (X0 : K1) (E : Ev) (hX0 : ∀ a' w', Ag (wr (Code.loop C95_b8)) a a' → X0 (gt a' 7) w' → Q (.exit 0) a' w') (hE : HE Q E)
  (h : S95_l8 (gt a 7) (gt a 8) w X0 E) : (Code.loop C95_b8).wpIn (Fw r) 0 P (Qs (wr (Code.loop C95_b8)) a Q) a w := by
  obtain ⟨I, μ, h0, hr⟩ := h
  refine loop_piece (c := C95_b8) (fun a w => I (gt a 8) w) (fun a w => μ (gt a 8) w) h0 fun a' w' hag hI => ?_
  have h' := hr (gt a' 8) w' hI
  rw [← hag.get 7 (by decide +kernel)] at h'
  exact T95_b8 a' w' (hag.size.trans hs) (fun x7 x8 y => I x8 y ∧ μ x8 y < μ (gt a' 8) w') X0 E (fun _ _ _ h => h) (fun a1 w1 hag1 h => hX0 a1 w1 (hag.trans hag1) h) hE h'
def S95_j6 (v0 v6 : Value) (w : World) (R : K1) (E : Ev) : Prop :=
  X P (.conv 93 3 v6) 3 w (fun t29 w1 =>
  X P (.makeSlice 34 t29 t29) 34 w1 (fun t30 w2 =>
  X P (.callB .copy #[34, 34] #[false, false] #[t30, v0]) 3 w2 (fun t33 w3 =>
  S95_l8 t30 t33 w3 (fun x7 y => S95_j10 x7 y R E) E) E) E) E
noncomputable def C95_j6 : Code := cR (cR (cR (cR (bodyOf Tryz.f95))))
noncomputable def HJ95_j6 (R : K1) (E : Ev) : Cut := fun i => match i with | some 10 => some (fun a w => S95_j10 (a 7) w R E) | _ => none
noncomputable def HL95_j6 (R : K1) (E : Ev) : Cut := fun i => match i with | some 8 => some (fun a w => S95_l8 (a 7) (a 8) w (fun x7 y => S95_j10 x7 y R E) E) | _ => none
theorem K95_j6 (g : Env) (w : World) (R : K1) (E : Ev) :
  vcF P (HJ95_j6 R E) (HL95_j6 R E) C95_j6 (QC (fun _ _ => False) (fun a w => resQ P Tryz.f95.results a w R) Y0 E) g w = S95_j6 (g 0) (g 6) w R E := by kernel_rfl
theorem T95_j6 (hs : a.tmps.size = 48) (R : K1) (E : Ev) (hR : ∀ a' w', Ag (wr C95_j6) a a' → resQ P Tryz.f95.results (gt a') w' R → Q .ret a' w') (hE : HE Q E)
  (h : S95_j6 (gt a 0) (gt a 6) w R E) : C95_j6.wpIn (Fw r) 0 P (Qs (wr C95_j6) a Q) a w :=
  piece' (HJ := HJ95_j6 R E) (HL := HL95_j6 R E) hmix hs (by decide +kernel) (fun _ _ => False) (fun a w => resQ P Tryz.f95.results a w R) Y0 E (fun _ _ _ h => h.elim) hR
  (fun _ _ _ _ h => h.elim) hE
  ⟨pay (c := Code.loop C95_b8) (W := wr C95_j6) (h := fun a w => S95_l8 (a 7) (a 8) w (fun x7 y => S95_j10 x7 y R E) E) (by decide +kernel) fun a w hsz h => T95_l8 a w (hsz.trans hs) (fun x7 y => S95_j10 x7 y R E) E (fun _ _ _ h => h) (fun _ _ _ h => h) h, pay (c := C95_j10) (W := wr C95_j6) (h := fun a w => S95_j10 (a 7) w R E) (by decide +kernel) fun a w hsz h => T95_j10 a w (hsz.trans hs) R E (fun _ _ _ h => h) (fun _ _ _ h => h) h, trivial⟩ (Eq.mpr (K95_j6 (gt a) w R E) h)
def S95_j3 (v0 v1 : Value) (w : World) (R : K1) (E : Ev) : Prop :=
  X P (.callB .len #[34] #[false] #[v0]) 3 w (fun t14 w1 =>
  X P (.conv 3 93 t14) 93 w1 (fun t15 w2 =>
  X P (.conv 3 93 v1) 93 w2 (fun t17 w3 =>
  X P (.callF 105 #[t15, t17]) 221 w3 (fun t18 w4 =>
  X P (.extract t18 0) 93 w4 (fun t19 w5 =>
  X P (.extract t18 1) 93 w5 (fun t20 w6 =>
  X P (.bin .gtr 93 false true t19 (.int .u64 0)) 4 w6 (fun t22 w7 =>
  XG (some t22) false P (.val t20) 93 w7 (fun t24 w8 =>
  XG (some t22) false P (.bin .gtr 93 false true t24 (.int .u64 9223372036854775807)) 4 w8 (fun t25 w9 =>
  X P (.pick t22 (.bool true) t25) 4 w9 (fun t26 w10 =>
  Cnd t26 (
  X P (.mkIface 9 (Value.string { data := #[116, 104, 101, 32, 114, 101, 115, 117, 108, 116, 32, 111, 102, 32, 40, 108, 101, 110, 40, 120, 41, 32, 42, 32, 99, 111, 117, 110, 116, 41, 32, 111, 118, 101, 114, 102, 108, 111, 119, 115] })) 20 w10 (fun t27 w11 =>
  X P (.panic t27) 0 w11 (fun _ w12 =>
  S95_j6 v0 t20 w12 R E) E) E) (
  S95_j6 v0 t20 w10 R E)) E) E) E) E) E) E) E) E) E) E
noncomputable def C95_j3 : Code := cR (cR (bodyOf Tryz.f95))
noncomputable def HJ95_j3 (R : K1) (E : Ev) : Cut := fun i => match i with | some 6 => some (fun a w => S95_j6 (a 0) (a 6) w R E) | _ => none
theorem K95_j3 (g : Env) (w : World) (R : K1) (E : Ev) :
  vcF P (HJ95_j3 R E) Z0 C95_j3 (QC (fun _ _ => False) (fun a w => resQ P Tryz.f95.results a w R) Y0 E) g w = S95_j3 (g 0) (g 1) w R E := by kernel_rfl
theorem T95_j3 (hs : a.tmps.size = 48) (R : K1) (E : Ev) (hR : ∀ a' w', Ag (wr C95_j3) a a' → resQ P Tryz.f95.results (gt a') w' R → Q .ret a' w') (hE : HE Q E)
  (h : S95_j3 (gt a 0) (gt a 1) w R E) : C95_j3.wpIn (Fw r) 0 P (Qs (wr C95_j3) a Q) a w :=
  piece' (HJ := HJ95_j3 R E) (HL := Z0) hmix hs (by decide +kernel) (fun _ _ => False) (fun a w => resQ P Tryz.f95.results a w R) Y0 E (fun _ _ _ h => h.elim) hR
  (fun _ _ _ _ h => h.elim) hE
  ⟨pay (c := C95_j6) (W := wr C95_j3) (h := fun a w => S95_j6 (a 0) (a 6) w R E) (by decide +kernel) fun a w hsz h => T95_j6 a w (hsz.trans hs) R E (fun _ _ _ h => h) (fun _ _ _ h => h) h, trivial⟩ (Eq.mpr (K95_j3 (gt a) w R E) h)
def S95_0 (v0 v1 : Value) (w : World) (R : K1) (E : Ev) : Prop :=
  X P (.bin .lss 3 false true v1 (.int .i64 0)) 4 w (fun t10 w1 =>
  Cnd t10 (
  X P (.mkIface 9 (Value.string { data := #[99, 97, 110, 110, 111, 116, 32, 98, 101, 32, 110, 101, 103, 97, 116, 105, 118, 101] })) 20 w1 (fun t11 w2 =>
  X P (.panic t11) 0 w2 (fun _ w3 =>
  S95_j3 v0 v1 w3 R E) E) E) (
  S95_j3 v0 v1 w1 R E)) E
noncomputable def C95_0 : Code := bodyOf Tryz.f95
noncomputable def HJ95_0 (R : K1) (E : Ev) : Cut := fun i => match i with | some 3 => some (fun a w => S95_j3 (a 0) (a 1) w R E) | _ => none
theorem K95_0 (g : Env) (w : World) (R : K1) (E : Ev) :
  vcF P (HJ95_0 R E) Z0 C95_0 (QC (fun _ _ => False) (fun a w => resQ P Tryz.f95.results a w R) Y0 E) g w = S95_0 (g 0) (g 1) w R E := by kernel_rfl
theorem T95_0 (hs : a.tmps.size = 48) (R : K1) (E : Ev) (hR : ∀ a' w', Ag (wr C95_0) a a' → resQ P Tryz.f95.results (gt a') w' R → Q .ret a' w') (hE : HE Q E)
  (h : S95_0 (gt a 0) (gt a 1) w R E) : C95_0.wpIn (Fw r) 0 P (Qs (wr C95_0) a Q) a w :=
  piece' (HJ := HJ95_0 R E) (HL := Z0) hmix hs (by decide +kernel) (fun _ _ => False) (fun a w => resQ P Tryz.f95.results a w R) Y0 E (fun _ _ _ h => h.elim) hR
  (fun _ _ _ _ h => h.elim) hE
  ⟨pay (c := C95_j3) (W := wr C95_0) (h := fun a w => S95_j3 (a 0) (a 1) w R E) (by decide +kernel) fun a w hsz h => T95_j3 a w (hsz.trans hs) R E (fun _ _ _ h => h) (fun _ _ _ h => h) h, trivial⟩ (Eq.mpr (K95_0 (gt a) w R E) h)
theorem F95 (a0 a1 : Value) (w : World) (R : K1) (E : Ev) (h : S95_0 a0 a1 w R E) : C P 95 #[a0, a1] w R E := by
  have e : S95_0 (gt (A0 Tryz.f95.ntmps #[a0, a1]) 0) (gt (A0 Tryz.f95.ntmps #[a0, a1]) 1) w R E = S95_0 a0 a1 w R E := by kernel_rfl
  have t := T95_0 (r := none) (Q := QF P Tryz.f95 R E) (A0 Tryz.f95.ntmps #[a0, a1]) w (by kernel_rfl) R E (fun _ _ _ h => h) (fun _ _ _ h => h) (Eq.mpr e h)
  exact C_of (c := C95_0) Tryz.func95 (by kernel_rfl) t
def S96_0 (v0 : Value) (w : World) (R : K1) (E : Ev) : Prop :=
  X P (.bin .andNot 58 false true v0 (.int .u8 7)) 58 w (fun t5 w1 =>
  X P (.bin .eql 58 false true t5 (.int .u8 0)) 4 w1 (fun t6 w2 =>
  XG (some t6) true P (.val v0) 58 w2 (fun t9 w3 =>
  XG (some t6) true P (.bin .and 58 false true t9 (.int .u8 5)) 58 w3 (fun t10 w4 =>
  XG (some t6) true P (.bin .neq 58 false true t10 (.int .u8 0)) 4 w4 (fun t11 w5 =>
  X P (.pick t6 t11 (.bool false)) 4 w5 (fun t12 w6 =>
  XG (some t12) true P (.val v0) 58 w6 (fun t14 w7 =>
  XG (some t12) true P (.bin .and 58 false true t14 (.int .u8 2)) 58 w7 (fun t15 w8 =>
  XG (some t12) true P (.bin .eql 58 false true t15 (.int .u8 0)) 4 w8 (fun t16 w9 =>
  XG (some t12) true P (.val t16) 4 w9 (fun t17 w10 =>
  XG (some t17) false P (.val v0) 58 w10 (fun t18 w11 =>
  XG (some t17) false P (.bin .and 58 false true t18 (.int .u8 1)) 58 w11 (fun t19 w12 =>
  XG (some t17) false P (.bin .neq 58 false true t19 (.int .u8 0)) 4 w12 (fun t20 w13 =>
  XG (some t12) true P (.pick t17 (.bool true) t20) 4 w13 (fun t21 w14 =>
  X P (.pick t12 t21 (.bool false)) 4 w14 (fun t22 w15 =>
  R t22 w15) E) E) E) E) E) E) E) E) E) E) E) E) E) E) E
noncomputable def C96_0 : Code := bodyOf Tryz.f96
theorem K96_0 (g : Env) (w : World) (R : K1) (E : Ev) :
  vcF P Z0 Z0 C96_0 (QC (fun _ _ => False) (fun a w => resQ P Tryz.f96.results a w R) Y0 E) g w = S96_0 (g 0) w R E := by kernel_rfl
theorem T96_0 (hs : a.tmps.size = 23) (R : K1) (E : Ev) (hR : ∀ a' w', Ag (wr C96_0) a a' → resQ P Tryz.f96.results (gt a') w' R → Q .ret a' w') (hE : HE Q E)
  (h : S96_0 (gt a 0) w R E) : C96_0.wpIn (Fw r) 0 P (Qs (wr C96_0) a Q) a w :=
  piece' (HJ := Z0) (HL := Z0) hmix hs (by decide +kernel) (fun _ _ => False) (fun a w => resQ P Tryz.f96.results a w R) Y0 E (fun _ _ _ h => h.elim) hR
  (fun _ _ _ _ h => h.elim) hE
  trivial (Eq.mpr (K96_0 (gt a) w R E) h)
theorem F96 (a0 : Value) (w : World) (R : K1) (E : Ev) (h : S96_0 a0 w R E) : C P 96 #[a0] w R E := by
  have e : S96_0 (gt (A0 Tryz.f96.ntmps #[a0]) 0) w R E = S96_0 a0 w R E := by kernel_rfl
  have t := T96_0 (r := none) (Q := QF P Tryz.f96 R E) (A0 Tryz.f96.ntmps #[a0]) w (by kernel_rfl) R E (fun _ _ _ h => h) (fun _ _ _ h => h) (Eq.mpr e h)
  exact C_of (c := C96_0) Tryz.func96 (by kernel_rfl) t
def S97_j7 (w : World) (R : K1) (E : Ev) : Prop :=
  R (.int .i64 (-1)) w
noncomputable def C97_j7 : Code := cR (cR (bodyOf Tryz.f97))
theorem K97_j7 (g : Env) (w : World) (R : K1) (E : Ev) :
  vcF P Z0 Z0 C97_j7 (QC (fun _ _ => False) (fun a w => resQ P Tryz.f97.results a w R) Y0 E) g w = S97_j7 w R E := by kernel_rfl
theorem T97_j7 (hs : a.tmps.size = 19) (R : K1) (E : Ev) (hR : ∀ a' w', Ag (wr C97_j7) a a' → resQ P Tryz.f97.results (gt a') w' R → Q .ret a' w') (hE : HE Q E)
  (h : S97_j7 w R E) : C97_j7.wpIn (Fw r) 0 P (Qs (wr C97_j7) a Q) a w :=
  piece' (HJ := Z0) (HL := Z0) hmix hs (by decide +kernel) (fun _ _ => False) (fun a w => resQ P Tryz.f97.results a w R) Y0 E (fun _ _ _ h => h.elim) hR
  (fun _ _ _ _ h => h.elim) hE
  trivial (Eq.mpr (K97_j7 (gt a) w R E) h)
def S97_b2 (v0 v1 v7 v8 : Value) (w : World) (N : K4) (X0 : K0) (R : K1) (E : Ev) : Prop :=
  X P (.bin .lss 3 false false v8 v7) 0 w (fun t9 w1 =>
  Cnd t9 (
  X P (.indexAddr 136 v0 v8) 0 w1 (fun t14 w2 =>
  X P (.load 3 t14) 3 w2 (fun t15 w3 =>
  X P (.bin .eql 3 false false v1 t15) 4 w3 (fun t16 w4 =>
  Cnd t16 (
  R v8 w4) (
  X P (.bin .add 3 false true v8 (.int .i64 1)) 3 w4 (fun t18 w5 =>
  N v0 v1 v7 t18 w5) E)) E) E) E) (
  X0 w1)) E
noncomputable def C97_b2 : Code := cB (cB (cR (cL (cR (bodyOf Tryz.f97)))))
noncomputable def J97_b2 (N : K4) (X0 : K0) (R : K1) (E : Ev) : Nat → Env → World → Prop := fun i a w => match i with | 0 => X0 w | _ => False
theorem K97_b2 (g : Env) (w : World) (N : K4) (X0 : K0) (R : K1) (E : Ev) :
  vcF P Z0 Z0 C97_b2 (QC (fun a w => N (a 0) (a 1) (a 7) (a 8) w) (fun a w => resQ P Tryz.f97.results a w R) (J97_b2 N X0 R E) E) g w = S97_b2 (g 0) (g 1) (g 7) (g 8) w N X0 R E := by kernel_rfl
theorem T97_b2 (hs : a.tmps.size = 19) (N : K4) (X0 : K0) (R : K1) (E : Ev) (hN : ∀ a' w', Ag (wr C97_b2) a a' → N (gt a' 0) (gt a' 1) (gt a' 7) (gt a' 8) w' → Q .normal a' w') (hX0 : ∀ a' w', Ag (wr C97_b2) a a' → X0 w' → Q (.exit 0) a' w') (hR : ∀ a' w', Ag (wr C97_b2) a a' → resQ P Tryz.f97.results (gt a') w' R → Q .ret a' w') (hE : HE Q E)
  (h : S97_b2 (gt a 0) (gt a 1) (gt a 7) (gt a 8) w N X0 R E) : C97_b2.wpIn (Fw r) 0 P (Qs (wr C97_b2) a Q) a w :=
  piece' (HJ := Z0) (HL := Z0) hmix hs (by decide +kernel) (fun a w => N (a 0) (a 1) (a 7) (a 8) w) (fun a w => resQ P Tryz.f97.results a w R) (J97_b2 N X0 R E) E hN hR
  (fun i a' w' hag h => by
  unfold J97_b2 at h
  split at h <;> first | exact hX0 _ _ hag h | exact h.elim) hE
  trivial (Eq.mpr (K97_b2 (gt a) w N X0 R E) h)
def S97_l2 (v0 v1 v7 v8 : Value) (w : World) (X0 : K0) (R : K1) (E : Ev) : Prop :=
  ∃ (I : K1) (μ : Value → World → Nat), I v8 w ∧ ∀ (v8 : Value) (w : World), I v8 w → S97_b2 v0 v1 v7 v8 w (fun x0 x1 x7 x8 y => I x8 y ∧ μ x8 y < μ v8 w) X0 R E
theorem T97_l2 (hs : a.tmps.size = 19) (X0 : K0) (R : K1) (E : Ev) (hX0 : ∀ a' w', Ag (wr (Code.loop C97_b2)) a a' → X0 w' → Q (.exit 0) a' w') (hR : ∀ a' w', Ag (wr (Code.loop C97_b2)) a a' → resQ P Tryz.f97.results (gt a') w' R → Q .ret a' w') (hE : HE Q E)
  (h : S97_l2 (gt a 0) (gt a 1) (gt a 7) (gt a 8) w X0 R E) : (Code.loop C97_b2).wpIn (Fw r) 0 P (Qs (wr (Code.loop C97_b2)) a Q) a w := by
  obtain ⟨I, μ, h0, hr⟩ := h
  refine loop_piece (c := C97_b2) (fun a w => I (gt a 8) w) (fun a w => μ (gt a 8) w) h0 fun a' w' hag hI => ?_
  have h' := hr (gt a' 8) w' hI
  rw [← hag.get 0 (by decide +kernel)] at h'
  rw [← hag.get 1 (by decide +kernel)] at h'
  rw [← hag.get 7 (by decide +kernel)] at h'
  exact T97_b2 a' w' (hag.size.trans hs) (fun x0 x1 x7 x8 y => I x8 y ∧ μ x8 y < μ (gt a' 8) w') X0 R E (fun _ _ _ h => h) (fun a1 w1 hag1 h => hX0 a1 w1 (hag.trans hag1) h) (fun a1 w1 hag1 h => hR a1 w1 (hag.trans hag1) h) hE h'
def S97_0 (v0 v1 : Value) (w : World) (R : K1) (E : Ev) : Prop :=
  X P (.callB .len #[136] #[false] #[v0]) 3 w (fun t7 w1 =>
  S97_l2 v0 v1 t7 (.int .i64 0) w1 (fun y => S97_j7 y R E) R E) E
noncomputable def C97_0 : Code := bodyOf Tryz.f97
noncomputable def HJ97_0 (R : K1) (E : Ev) : Cut := fun i => match i with | some 7 => some (fun a w => S97_j7 w R E) | _ => none
noncomputable def HL97_0 (R : K1) (E : Ev) : Cut := fun i => match i with | some 2 => some (fun a w => S97_l2 (a 0) (a 1) (a 7) (a 8) w (fun y => S97_j7 y R E) R E) | _ => none
theorem K97_0 (g : Env) (w : World) (R : K1) (E : Ev) :
  vcF P (HJ97_0 R E) (HL97_0 R E) C97_0 (QC (fun _ _ => False) (fun a w => resQ P Tryz.f97.results a w R) Y0 E) g w = S97_0 (g 0) (g 1) w R E := by kernel_rfl
theorem T97_0 (hs : a.tmps.size = 19) (R : K1) (E : Ev) (hR : ∀ a' w', Ag (wr C97_0) a a' → resQ P Tryz.f97.results (gt a') w' R → Q .ret a' w') (hE : HE Q E)
  (h : S97_0 (gt a 0) (gt a 1) w R E) : C97_0.wpIn (Fw r) 0 P (Qs (wr C97_0) a Q) a w :=
  piece' (HJ := HJ97_0 R E) (HL := HL97_0 R E) hmix hs (by decide +kernel) (fun _ _ => False) (fun a w => resQ P Tryz.f97.results a w R) Y0 E (fun _ _ _ h => h.elim) hR
  (fun _ _ _ _ h => h.elim) hE
  ⟨pay (c := Code.loop C97_b2) (W := wr C97_0) (h := fun a w => S97_l2 (a 0) (a 1) (a 7) (a 8) w (fun y => S97_j7 y R E) R E) (by decide +kernel) fun a w hsz h => T97_l2 a w (hsz.trans hs) (fun y => S97_j7 y R E) R E (fun _ _ _ h => h) (fun _ _ _ h => h) (fun _ _ _ h => h) h, pay (c := C97_j7) (W := wr C97_0) (h := fun a w => S97_j7 w R E) (by decide +kernel) fun a w hsz h => T97_j7 a w (hsz.trans hs) R E (fun _ _ _ h => h) (fun _ _ _ h => h) h, trivial⟩ (Eq.mpr (K97_0 (gt a) w R E) h)
theorem F97 (a0 a1 : Value) (w : World) (R : K1) (E : Ev) (h : S97_0 a0 a1 w R E) : C P 97 #[a0, a1] w R E := by
  have e : S97_0 (gt (A0 Tryz.f97.ntmps #[a0, a1]) 0) (gt (A0 Tryz.f97.ntmps #[a0, a1]) 1) w R E = S97_0 a0 a1 w R E := by kernel_rfl
  have t := T97_0 (r := none) (Q := QF P Tryz.f97 R E) (A0 Tryz.f97.ntmps #[a0, a1]) w (by kernel_rfl) R E (fun _ _ _ h => h) (fun _ _ _ h => h) (Eq.mpr e h)
  exact C_of (c := C97_0) Tryz.func97 (by kernel_rfl) t
def S98_0 (v0 v1 : Value) (w : World) (R : K1) (E : Ev) : Prop :=
  X P (.bin .geq 3 false true v1 (.int .i64 0)) 4 w (fun t6 w1 =>
  XG (some t6) true P (.val v1) 3 w1 (fun t8 w2 =>
  XG (some t6) true P (.bin .leq 3 false true t8 (.int .i64 256)) 4 w2 (fun t9 w3 =>
  X P (.pick t6 t9 (.bool false)) 4 w3 (fun t10 w4 =>
  XG (some t10) true P (.val v1) 3 w4 (fun t12 w5 =>
  XG (some t10) true P (.bin .rem 3 false true t12 (.int .i64 4)) 3 w5 (fun t13 w6 =>
  XG (some t10) true P (.bin .eql 3 false true t13 (.int .i64 0)) 4 w6 (fun t14 w7 =>
  X P (.pick t10 t14 (.bool false)) 4 w7 (fun t15 w8 =>
  XG (some t15) true P (.val v0) 38 w8 (fun t17 w9 =>
  XG (some t15) true P (.bin .rem 38 false true t17 (.int .u32 4)) 38 w9 (fun t18 w10 =>
  XG (some t15) true P (.bin .eql 38 false true t18 (.int .u32 0)) 4 w10 (fun t19 w11 =>
  X P (.pick t15 t19 (.bool false)) 4 w11 (fun t20 w12 =>
  R t20 w12) E) E) E) E) E) E) E) E) E) E) E) E
noncomputable def C98_0 : Code := bodyOf Tryz.f98
theorem K98_0 (g : Env) (w : World) (R : K1) (E : Ev) :
  vcF P Z0 Z0 C98_0 (QC (fun _ _ => False) (fun a w => resQ P Tryz.f98.results a w R) Y0 E) g w = S98_0 (g 0) (g 1) w R E := by kernel_rfl
theorem T98_0 (hs : a.tmps.size = 21) (R : K1) (E : Ev) (hR : ∀ a' w', Ag (wr C98_0) a a' → resQ P Tryz.f98.results (gt a') w' R → Q .ret a' w') (hE : HE Q E)
  (h : S98_0 (gt a 0) (gt a 1) w R E) : C98_0.wpIn (Fw r) 0 P (Qs (wr C98_0) a Q) a w :=
  piece' (HJ := Z0) (HL := Z0) hmix hs (by decide +kernel) (fun _ _ => False) (fun a w => resQ P Tryz.f98.results a w R) Y0 E (fun _ _ _ h => h.elim) hR
  (fun _ _ _ _ h => h.elim) hE
  trivial (Eq.mpr (K98_0 (gt a) w R E) h)
theorem F98 (a0 a1 : Value) (w : World) (R : K1) (E : Ev) (h : S98_0 a0 a1 w R E) : C P 98 #[a0, a1] w R E := by
  have e : S98_0 (gt (A0 Tryz.f98.ntmps #[a0, a1]) 0) (gt (A0 Tryz.f98.ntmps #[a0, a1]) 1) w R E = S98_0 a0 a1 w R E := by kernel_rfl
  have t := T98_0 (r := none) (Q := QF P Tryz.f98 R E) (A0 Tryz.f98.ntmps #[a0, a1]) w (by kernel_rfl) R E (fun _ _ _ h => h) (fun _ _ _ h => h) (Eq.mpr e h)
  exact C_of (c := C98_0) Tryz.func98 (by kernel_rfl) t
def S99_j15 (v6 : Value) (w : World) (R : K1) (E : Ev) : Prop :=
  R v6 w
noncomputable def C99_j15 : Code := cR (cR (cR (cR (cR (bodyOf Tryz.f99)))))
theorem K99_j15 (g : Env) (w : World) (R : K1) (E : Ev) :
  vcF P Z0 Z0 C99_j15 (QC (fun _ _ => False) (fun a w => resQ P Tryz.f99.results a w R) Y0 E) g w = S99_j15 (g 6) w R E := by kernel_rfl
theorem T99_j15 (hs : a.tmps.size = 36) (R : K1) (E : Ev) (hR : ∀ a' w', Ag (wr C99_j15) a a' → resQ P Tryz.f99.results (gt a') w' R → Q .ret a' w') (hE : HE Q E)
  (h : S99_j15 (gt a 6) w R E) : C99_j15.wpIn (Fw r) 0 P (Qs (wr C99_j15) a Q) a w :=
  piece' (HJ := Z0) (HL := Z0) hmix hs (by decide +kernel) (fun _ _ => False) (fun a w => resQ P Tryz.f99.results a w R) Y0 E (fun _ _ _ h => h.elim) hR
  (fun _ _ _ _ h => h.elim) hE
  trivial (Eq.mpr (K99_j15 (gt a) w R E) h)
def S99_b11 (v6 v25 v26 v27 : Value) (w : World) (N : K4) (X2 : K1) (E : Ev) : Prop :=
  X P (.bin .lss 3 false false v27 v26) 0 w (fun t28 w1 =>
  Cnd t28 (
  X P (.indexAddr 208 v25 v27) 0 w1 (fun t29 w2 =>
  X P (.load 34 t29) 34 w2 (fun t30 w3 =>
  X P (.callB .append #[34, 34] #[false, false] #[v6, t30]) 34 w3 (fun t33 w4 =>
  X P (.bin .add 3 false true v27 (.int .i64 1)) 3 w4 (fun t34 w5 =>
  N t33 v25 v26 t34 w5) E) E) E) E) (
  X2 v6 w1)) E
noncomputable def C99_b11 : Code := cB (cB (cR (cL (cR (cR (cR (cR (bodyOf Tryz.f99))))))))
noncomputable def J99_b11 (N : K4) (X2 : K1) (E : Ev) : Nat → Env → World → Prop := fun i a w => match i with | 2 => X2 (a 6) w | _ => False
theorem K99_b11 (g : Env) (w : World) (N : K4) (X2 : K1) (E : Ev) :
  vcF P Z0 Z0 C99_b11 (QC (fun a w => N (a 6) (a 25) (a 26) (a 27) w) (fun _ _ => False) (J99_b11 N X2 E) E) g w = S99_b11 (g 6) (g 25) (g 26) (g 27) w N X2 E := by kernel_rfl
theorem T99_b11 (hs : a.tmps.size = 36) (N : K4) (X2 : K1) (E : Ev) (hN : ∀ a' w', Ag (wr C99_b11) a a' → N (gt a' 6) (gt a' 25) (gt a' 26) (gt a' 27) w' → Q .normal a' w') (hX2 : ∀ a' w', Ag (wr C99_b11) a a' → X2 (gt a' 6) w' → Q (.exit 2) a' w') (hE : HE Q E)
  (h : S99_b11 (gt a 6) (gt a 25) (gt a 26) (gt a 27) w N X2 E) : C99_b11.wpIn (Fw r) 0 P (Qs (wr C99_b11) a Q) a w :=
  piece' (HJ := Z0) (HL := Z0) hmix hs (by decide +kernel) (fun a w => N (a 6) (a 25) (a 26) (a 27) w) (fun _ _ => False) (J99_b11 N X2 E) E hN (fun _ _ _ h => h.elim)
  (fun i a' w' hag h => by
  unfold J99_b11 at h
  split at h <;> first | exact hX2 _ _ hag h | exact h.elim) hE
  trivial (Eq.mpr (K99_b11 (gt a) w N X2 E) h)
def S99_l11 (v6 v25 v26 v27 : Value) (w : World) (X2 : K1) (E : Ev) : Prop :=
  ∃ (I : K2) (μ : Value → Value → World → Nat), I v6 v27 w ∧ ∀ (v6 v27 : Value) (w : World), I v6 v27 w → S99_b11 v6 v25 v26 v27 w (fun x6 x25 x26 x27 y => I x6 x27 y ∧ μ x6 x27 y < μ v6 v27 w) X2 E
theorem T99_l11 (hs : a.tmps.size = 36) (X2 : K1) (E : Ev) (hX2 : ∀ a' w', Ag (wr (Code.loop C99_b11)) a a' → X2 (gt a' 6) w' → Q (.exit 2) a' w') (hE : HE Q E)
  (h : S99_l11 (gt a 6) (gt a 25) (gt a 26) (gt a 27) w X2 E) : (Code.loop C99_b11).wpIn (Fw r) 0 P (Qs (wr (Code.loop C99_b11)) a Q) a w := by
  obtain ⟨I, μ, h0, hr⟩ := h
  refine loop_piece (c := C99_b11) (fun a w => I (gt a 6) (gt a 27) w) (fun a w => μ (gt a 6) (gt a 27) w) h0 fun a' w' hag hI => ?_
  have h' := hr (gt a' 6) (gt a' 27) w' hI
  rw [← hag.get 25 (by decide +kernel)] at h'
  rw [← hag.get 26 (by decide +kernel)] at h'
  exact T99_b11 a' w' (hag.size.trans hs) (fun x6 x25 x26 x27 y => I x6 x27 y ∧ μ x6 x27 y < μ (gt a' 6) (gt a' 27) w') X2 E (fun _ _ _ h => h) (fun a1 w1 hag1 h => hX2 a1 w1 (hag.trans hag1) h) hE h'
def S99_j9 (v0 v3 : Value) (w : World) (R : K1) (E : Ev) : Prop :=
  X P (.callF 106 #[(.slice none 0 0), v3]) 34 w (fun t24 w1 =>
  X P (.callB .len #[208] #[false] #[v0]) 3 w1 (fun t26 w2 =>
  S99_l11 t24 v0 t26 (.int .i64 0) w2 (fun x6 y => S99_j15 x6 y R E) E) E) E
noncomputable def C99_j9 : Code := cR (cR (cR (bodyOf Tryz.f99)))
noncomputable def HJ99_j9 (R : K1) (E : Ev) : Cut := fun i => match i with | some 15 => some (fun a w => S99_j15 (a 6) w R E) | _ => none
noncomputable def HL99_j9 (R : K1) (E : Ev) : Cut := fun i => match i with | some 11 => some (fun a w => S99_l11 (a 6) (a 25) (a 26) (a 27) w (fun x6 y => S99_j15 x6 y R E) E) | _ => none
theorem K99_j9 (g : Env) (w : World) (R : K1) (E : Ev) :
  vcF P (HJ99_j9 R E) (HL99_j9 R E) C99_j9 (QC (fun _ _ => False) (fun a w => resQ P Tryz.f99.results a w R) Y0 E) g w = S99_j9 (g 0) (g 3) w R E := by kernel_rfl
theorem T99_j9 (hs : a.tmps.size = 36) (R : K1) (E : Ev) (hR : ∀ a' w', Ag (wr C99_j9) a a' → resQ P Tryz.f99.results (gt a') w' R → Q .ret a' w') (hE : HE Q E)
  (h : S99_j9 (gt a 0) (gt a 3) w R E) : C99_j9.wpIn (Fw r) 0 P (Qs (wr C99_j9) a Q) a w :=
  piece' (HJ := HJ99_j9 R E) (HL := HL99_j9 R E) hmix hs (by decide +kernel) (fun _ _ => False) (fun a w => resQ P Tryz.f99.results a w R) Y0 E (fun _ _ _ h => h.elim) hR
  (fun _ _ _ _ h => h.elim) hE
  ⟨pay (c := Code.loop C99_b11) (W := wr C99_j9) (h := fun a w => S99_l11 (a 6) (a 25) (a 26) (a 27) w (fun x6 y => S99_j15 x6 y R E) E) (by decide +kernel) fun a w hsz h => T99_l11 a w (hsz.trans hs) (fun x6 y => S99_j15 x6 y R E) E (fun _ _ _ h => h) (fun _ _ _ h => h) h, pay (c := C99_j15) (W := wr C99_j9) (h := fun a w => S99_j15 (a 6) w R E) (by decide +kernel) fun a w hsz h => T99_j15 a w (hsz.trans hs) R E (fun _ _ _ h => h) (fun _ _ _ h => h) h, trivial⟩ (Eq.mpr (K99_j9 (gt a) w R E) h)
def S99_j8 (v0 v3 v9 v10 v11 : Value) (w : World) (N : K5) (E : Ev) : Prop :=
  X P (.bin .add 3 false true v11 (.int .i64 1)) 3 w (fun t22 w1 =>
  N v0 v3 v9 v10 t22 w1) E
noncomputable def C99_j8 : Code := cR (cR (cR (cB (cB (cR (cL (cR (cR (bodyOf Tryz.f99)))))))))
theorem K99_j8 (g : Env) (w : World) (N : K5) (E : Ev) :
  vcF P Z0 Z0 C99_j8 (QC (fun a w => N (a 0) (a 3) (a 9) (a 10) (a 11) w) (fun _ _ => False) Y0 E) g w = S99_j8 (g 0) (g 3) (g 9) (g 10) (g 11) w N E := by kernel_rfl
theorem T99_j8 (hs : a.tmps.size = 36) (N : K5) (E : Ev) (hN : ∀ a' w', Ag (wr C99_j8) a a' → N (gt a' 0) (gt a' 3) (gt a' 9) (gt a' 10) (gt a' 11) w' → Q .normal a' w') (hE : HE Q E)
  (h : S99_j8 (gt a 0) (gt a 3) (gt a 9) (gt a 10) (gt a 11) w N E) : C99_j8.wpIn (Fw r) 0 P (Qs (wr C99_j8) a Q) a w :=
  piece' (HJ := Z0) (HL := Z0) hmix hs (by decide +kernel) (fun a w => N (a 0) (a 3) (a 9) (a 10) (a 11) w) (fun _ _ => False) Y0 E hN (fun _ _ _ h => h.elim)
  (fun _ _ _ _ h => h.elim) hE
  trivial (Eq.mpr (K99_j8 (gt a) w N E) h)
def S99_b3 (v0 v3 v9 v10 v11 : Value) (w : World) (N : K5) (X0 : K2) (E : Ev) : Prop :=
  X P (.bin .lss 3 false false v11 v10) 0 w (fun t12 w1 =>
  Cnd t12 (
  X P (.indexAddr 208 v9 v11) 0 w1 (fun t13 w2 =>
  X P (.load 34 t13) 34 w2 (fun t14 w3 =>
  X P (.callB .len #[34] #[false] #[t14]) 3 w3 (fun t17 w4 =>
  X P (.bin .add 3 false false v3 t17) 3 w4 (fun t18 w5 =>
  X P (.bin .lss 3 false true t18 (.int .i64 0)) 4 w5 (fun t20 w6 =>
  Cnd t20 (
  X P (.mkIface 9 (Value.string { data := #[108, 101, 110, 32, 111, 117, 116, 32, 111, 102, 32, 114, 97, 110, 103, 101] })) 20 w6 (fun t21 w7 =>
  X P (.panic t21) 0 w7 (fun _ w8 =>
  S99_j8 v0 t18 v9 v10 v11 w8 N E) E) E) (
  S99_j8 v0 t18 v9 v10 v11 w6 N E)) E) E) E) E) E) (
  X0 v0 v3 w1)) E
noncomputable def C99_b3 : Code := cB (cB (cR (cL (cR (cR (bodyOf Tryz.f99))))))
noncomputable def HJ99_b3 (N : K5) (X0 : K2) (E : Ev) : Cut := fun i => match i with | some 8 => some (fun a w => S99_j8 (a 0) (a 3) (a 9) (a 10) (a 11) w N E) | _ => none
noncomputable def J99_b3 (N : K5) (X0 : K2) (E : Ev) : Nat → Env → World → Prop := fun i a w => match i with | 0 => X0 (a 0) (a 3) w | _ => False
theorem K99_b3 (g : Env) (w : World) (N : K5) (X0 : K2) (E : Ev) :
  vcF P (HJ99_b3 N X0 E) Z0 C99_b3 (QC (fun a w => N (a 0) (a 3) (a 9) (a 10) (a 11) w) (fun _ _ => False) (J99_b3 N X0 E) E) g w = S99_b3 (g 0) (g 3) (g 9) (g 10) (g 11) w N X0 E := by kernel_rfl
theorem T99_b3 (hs : a.tmps.size = 36) (N : K5) (X0 : K2) (E : Ev) (hN : ∀ a' w', Ag (wr C99_b3) a a' → N (gt a' 0) (gt a' 3) (gt a' 9) (gt a' 10) (gt a' 11) w' → Q .normal a' w') (hX0 : ∀ a' w', Ag (wr C99_b3) a a' → X0 (gt a' 0) (gt a' 3) w' → Q (.exit 0) a' w') (hE : HE Q E)
  (h : S99_b3 (gt a 0) (gt a 3) (gt a 9) (gt a 10) (gt a 11) w N X0 E) : C99_b3.wpIn (Fw r) 0 P (Qs (wr C99_b3) a Q) a w :=
  piece' (HJ := HJ99_b3 N X0 E) (HL := Z0) hmix hs (by decide +kernel) (fun a w => N (a 0) (a 3) (a 9) (a 10) (a 11) w) (fun _ _ => False) (J99_b3 N X0 E) E hN (fun _ _ _ h => h.elim)
  (fun i a' w' hag h => by
  unfold J99_b3 at h
  split at h <;> first | exact hX0 _ _ hag h | exact h.elim) hE
  ⟨pay (c := C99_j8) (W := wr C99_b3) (h := fun a w => S99_j8 (a 0) (a 3) (a 9) (a 10) (a 11) w N E) (by decide +kernel) fun a w hsz h => T99_j8 a w (hsz.trans hs) N E (fun _ _ _ h => h) (fun _ _ _ h => h) h, trivial⟩ (Eq.mpr (K99_b3 (gt a) w N X0 E) h)
def S99_l3 (v0 v3 v9 v10 v11 : Value) (w : World) (X0 : K2) (E : Ev) : Prop :=
  ∃ (I : K2) (μ : Value → Value → World → Nat), I v3 v11 w ∧ ∀ (v3 v11 : Value) (w : World), I v3 v11 w → S99_b3 v0 v3 v9 v10 v11 w (fun x0 x3 x9 x10 x11 y => I x3 x11 y ∧ μ x3 x11 y < μ v3 v11 w) X0 E
theorem T99_l3 (hs : a.tmps.size = 36) (X0 : K2) (E : Ev) (hX0 : ∀ a' w', Ag (wr (Code.loop C99_b3)) a a' → X0 (gt a' 0) (gt a' 3) w' → Q (.exit 0) a' w') (hE : HE Q E)
  (h : S99_l3 (gt a 0) (gt a 3) (gt a 9) (gt a 10) (gt a 11) w X0 E) : (Code.loop C99_b3).wpIn (Fw r) 0 P (Qs (wr (Code.loop C99_b3)) a Q) a w := by
  obtain ⟨I, μ, h0, hr⟩ := h
  refine loop_piece (c := C99_b3) (fun a w => I (gt a 3) (gt a 11) w) (fun a w => μ (gt a 3) (gt a 11) w) h0 fun a' w' hag hI => ?_
  have h' := hr (gt a' 3) (gt a' 11) w' hI
  rw [← hag.get 0 (by decide +kernel)] at h'
  rw [← hag.get 9 (by decide +kernel)] at h'
  rw [← hag.get 10 (by decide +kernel)] at h'
  exact T99_b3 a' w' (hag.size.trans hs) (fun x0 x3 x9 x10 x11 y => I x3 x11 y ∧ μ x3 x11 y < μ (gt a' 3) (gt a' 11) w') X0 E (fun _ _ _ h => h) (fun a1 w1 hag1 h => hX0 a1 w1 (hag.trans hag1) h) hE h'
def S99_0 (v0 : Value) (w : World) (R : K1) (E : Ev) : Prop :=
  X P (.callB .len #[208] #[false] #[v0]) 3 w (fun t10 w1 =>
  S99_l3 v0 (.int .i64 0) v0 t10 (.int .i64 0) w1 (fun x0 x3 y => S99_j9 x0 x3 y R E) E) E
noncomputable def C99_0 : Code := bodyOf Tryz.f99
noncomputable def HJ99_0 (R : K1) (E : Ev) : Cut := fun i => match i with | some 9 => some (fun a w => S99_j9 (a 0) (a 3) w R E) | _ => none
noncomputable def HL99_0 (R : K1) (E : Ev) : Cut := fun i => match i with | some 3 => some (fun a w => S99_l3 (a 0) (a 3) (a 9) (a 10) (a 11) w (fun x0 x3 y => S99_j9 x0 x3 y R E) E) | _ => none
theorem K99_0 (g : Env) (w : World) (R : K1) (E : Ev) :
  vcF P (HJ99_0 R E) (HL99_0 R E) C99_0 (QC (fun _ _ => False) (fun a w => resQ P Tryz.f99.results a w R) Y0 E) g w = S99_0 (g 0) w R E := by kernel_rfl
theorem T99_0 (hs : a.tmps.size = 36) (R : K1) (E : Ev) (hR : ∀ a' w', Ag (wr C99_0) a a' → resQ P Tryz.f99.results (gt a') w' R → Q .ret a' w') (hE : HE Q E)
  (h : S99_0 (gt a 0) w R E) : C99_0.wpIn (Fw r) 0 P (Qs (wr C99_0) a Q) a w :=
  piece' (HJ := HJ99_0 R E) (HL := HL99_0 R E) hmix hs (by decide +kernel) (fun _ _ => False) (fun a w => resQ P Tryz.f99.results a w R) Y0 E (fun _ _ _ h => h.elim) hR
  (fun _ _ _ _ h => h.elim) hE
  ⟨pay (c := Code.loop C99_b3) (W := wr C99_0) (h := fun a w => S99_l3 (a 0) (a 3) (a 9) (a 10) (a 11) w (fun x0 x3 y => S99_j9 x0 x3 y R E) E) (by decide +kernel) fun a w hsz h => T99_l3 a w (hsz.trans hs) (fun x0 x3 y => S99_j9 x0 x3 y R E) E (fun _ _ _ h => h) (fun _ _ _ h => h) h, pay (c := C99_j9) (W := wr C99_0) (h := fun a w => S99_j9 (a 0) (a 3) w R E) (by decide +kernel) fun a w hsz h => T99_j9 a w (hsz.trans hs) R E (fun _ _ _ h => h) (fun _ _ _ h => h) h, trivial⟩ (Eq.mpr (K99_0 (gt a) w R E) h)
theorem F99 (a0 : Value) (w : World) (R : K1) (E : Ev) (h : S99_0 a0 w R E) : C P 99 #[a0] w R E := by
  have e : S99_0 (gt (A0 Tryz.f99.ntmps #[a0]) 0) w R E = S99_0 a0 w R E := by kernel_rfl
  have t := T99_0 (r := none) (Q := QF P Tryz.f99 R E) (A0 Tryz.f99.ntmps #[a0]) w (by kernel_rfl) R E (fun _ _ _ h => h) (fun _ _ _ h => h) (Eq.mpr e h)
  exact C_of (c := C99_0) Tryz.func99 (by kernel_rfl) t
def S100_0 (v0 v1 v2 : Value) (w : World) (R : K1) (E : Ev) : Prop :=
  X P (.box 177 v1) 0 w (fun t4 w1 =>
  X P (.box 188 v2) 0 w1 (fun t5 w2 =>
  X P (.nilCheck v0) 0 w2 (fun t7 w3 =>
  X P (.fieldAddr 142 t7 2) 0 w3 (fun t8 w4 =>
  X P (.load 140 t8) 140 w4 (fun t9 w5 =>
  X P (.bin .add 140 false true t9 (.int .u64 1)) 140 w5 (fun t10 w6 =>
  X P (.nilCheck v0) 0 w6 (fun t11 w7 =>
  X P (.fieldAddr 142 t11 2) 0 w7 (fun t12 w8 =>
  X P (.store 140 t12 t10) 0 w8 (fun _ w9 =>
  XQ P (.nilCheck v0) 0 (drw w9) (fun t14 =>
  XQ P (.fieldAddr 142 t14 1) 0 (drw w9) (fun t15 =>
  XQ P (.load 139 t15) 139 (drw w9) (fun t16 =>
  XQ P (.load 177 t4) 177 (drw w9) (fun t17 =>
  XQ P (.load 188 t5) 188 (drw w9) (fun t18 =>
  XQ P (.nilCheck v0) 0 (drw w9) (fun t20 =>
  XQ P (.fieldAddr 142 t20 2) 0 (drw w9) (fun t21 =>
  XQ P (.load 140 t21) 140 (drw w9) (fun t22 =>
  XQ P (.build 212 #[(0, t18), (1, t22)]) 212 (drw w9) (fun t23 =>
  (X P (.mapUpdate 139 t16 t17 t23) 0 (drw w9) (fun _ w10 =>
  R (Value.tuple #[]) w10) E))))))))))) E) E) E) E) E) E) E) E) E
noncomputable def C100_0 : Code := bodyOf Tryz.f100
theorem K100_0 (g : Env) (w : World) (R : K1) (E : Ev) :
  vcF P Z0 Z0 C100_0 (QC (fun a w => resQ P Tryz.f100.results a w R) (fun a w => resQ P Tryz.f100.results a w R) Y0 E) g w = S100_0 (g 0) (g 1) (g 2) w R E := by kernel_rfl
theorem T100_0 (hs : a.tmps.size = 24) (R : K1) (E : Ev) (hN : ∀ a' w', Ag (wr C100_0) a a' → resQ P Tryz.f100.results (gt a') w' R → Q .normal a' w') (hR : ∀ a' w', Ag (wr C100_0) a a' → resQ P Tryz.f100.results (gt a') w' R → Q .ret a' w') (hE : HE Q E)
  (h : S100_0 (gt a 0) (gt a 1) (gt a 2) w R E) : C100_0.wpIn (Fw r) 0 P (Qs (wr C100_0) a Q) a w :=
  piece' (HJ := Z0) (HL := Z0) hmix hs (by decide +kernel) (fun a w => resQ P Tryz.f100.results a w R) (fun a w => resQ P Tryz.f100.results a w R) Y0 E hN hR
  (fun _ _ _ _ h => h.elim) hE
  trivial (Eq.mpr (K100_0 (gt a) w R E) h)
theorem F100 (a0 a1 a2 : Value) (w : World) (R : K1) (E : Ev) (h : S100_0 a0 a1 a2 w R E) : C P 100 #[a0, a1, a2] w R E := by
  have e : S100_0 (gt (A0 Tryz.f100.ntmps #[a0, a1, a2]) 0) (gt (A0 Tryz.f100.ntmps #[a0, a1, a2]) 1) (gt (A0 Tryz.f100.ntmps #[a0, a1, a2]) 2) w R E = S100_0 a0 a1 a2 w R E := by kernel_rfl
  have t := T100_0 (r := none) (Q := QF P Tryz.f100 R E) (A0 Tryz.f100.ntmps #[a0, a1, a2]) w (by kernel_rfl) R E (fun _ _ _ h => h) (fun _ _ _ h => h) (fun _ _ _ h => h) (Eq.mpr e h)
  exact C_of (c := C100_0) Tryz.func100 (by kernel_rfl) t
def S101_0 (v0 v1 : Value) (w : World) (R : K1) (E : Ev) : Prop :=
  X P (.bin .gtr 89 false true v1 (.int .i64 0)) 4 w (fun t6 w1 =>
  XG (some t6) true P (.val v1) 89 w1 (fun t8 w2 =>
  XG (some t6) true P (.callF 107 #[]) 223 w2 (fun t9 w3 =>
  XG (some t6) true P (.val (.int .i64 4)) 3 w3 (fun t10 w4 =>
  XG (some t6) true P (.bin .lss 3 false false t8 t10) 4 w4 (fun t11 w5 =>
  X P (.pick t6 t11 (.bool false)) 4 w5 (fun t12 w6 =>
  XG (some t12) true P (.val v0) 58 w6 (fun t14 w7 =>
  XG (some t12) true P (.callF 107 #[]) 223 w7 (fun t15 w8 =>
  XG (some t12) true P (.val v1) 89 w8 (fun t16 w9 =>
  XG (some t12) true P (.index 223 t15 t16) 58 w9 (fun t17 w10 =>
  XG (some t12) true P (.bin .and 58 false false t14 t17) 58 w10 (fun t18 w11 =>
  XG (some t12) true P (.bin .neq 58 false true t18 (.int .u8 0)) 4 w11 (fun t19 w12 =>
  X P (.pick t12 t19 (.bool false)) 4 w12 (fun t20 w13 =>
  R t20 w13) E) E) E) E) E) E) E) E) E) E) E) E) E
noncomputable def C101_0 : Code := bodyOf Tryz.f101
theorem K101_0 (g : Env) (w : World) (R : K1) (E : Ev) :
  vcF P Z0 Z0 C101_0 (QC (fun _ _ => False) (fun a w => resQ P Tryz.f101.results a w R) Y0 E) g w = S101_0 (g 0) (g 1) w R E := by kernel_rfl
theorem T101_0 (hs : a.tmps.size = 21) (R : K1) (E : Ev) (hR : ∀ a' w', Ag (wr C101_0) a a' → resQ P Tryz.f101.results (gt a') w' R → Q .ret a' w') (hE : HE Q E)
  (h : S101_0 (gt a 0) (gt a 1) w R E) : C101_0.wpIn (Fw r) 0 P (Qs (wr C101_0) a Q) a w :=
  piece' (HJ := Z0) (HL := Z0) hmix hs (by decide +kernel) (fun _ _ => False) (fun a w => resQ P Tryz.f101.results a w R) Y0 E (fun _ _ _ h => h.elim) hR
  (fun _ _ _ _ h => h.elim) hE
  trivial (Eq.mpr (K101_0 (gt a) w R E) h)
theorem F101 (a0 a1 : Value) (w : World) (R : K1) (E : Ev) (h : S101_0 a0 a1 w R E) : C P 101 #[a0, a1] w R E := by
  have e : S101_0 (gt (A0 Tryz.f101.ntmps #[a0, a1]) 0) (gt (A0 Tryz.f101.ntmps #[a0, a1]) 1) w R E = S101_0 a0 a1 w R E := by kernel_rfl
  have t := T101_0 (r := none) (Q := QF P Tryz.f101 R E) (A0 Tryz.f101.ntmps #[a0, a1]) w (by kernel_rfl) R E (fun _ _ _ h => h) (fun _ _ _ h => h) (Eq.mpr e h)
  exact C_of (c := C101_0) Tryz.func101 (by kernel_rfl) t
def S102_0 (v0 : Value) (w : World) (R : K1) (E : Ev) : Prop :=
  Cnd (.bool false) (
  X P (.conv 93 38 v0) 38 w (fun t4 w1 =>
  X P (.callF 108 #[t4]) 3 w1 (fun t5 w2 =>
  R t5 w2) E) E) (
  X P (.callF 109 #[v0]) 3 w (fun t7 w1 =>
  R t7 w1) E)
noncomputable def C102_0 : Code := bodyOf Tryz.f102
theorem K102_0 (g : Env) (w : World) (R : K1) (E : Ev) :
  vcF P Z0 Z0 C102_0 (QC (fun _ _ => False) (fun a w => resQ P Tryz.f102.results a w R) Y0 E) g w = S102_0 (g 0) w R E := by kernel_rfl
theorem T102_0 (hs : a.tmps.size = 8) (R : K1) (E : Ev) (hR : ∀ a' w', Ag (wr C102_0) a a' → resQ P Tryz.f102.results (gt a') w' R → Q .ret a' w') (hE : HE Q E)
  (h : S102_0 (gt a 0) w R E) : C102_0.wpIn (Fw r) 0 P (Qs (wr C102_0) a Q) a w :=
  piece' (HJ := Z0) (HL := Z0) hmix hs (by decide +kernel) (fun _ _ => False) (fun a w => resQ P Tryz.f102.results a w R) Y0 E (fun _ _ _ h => h.elim) hR
  (fun _ _ _ _ h => h.elim) hE
  trivial (Eq.mpr (K102_0 (gt a) w R E) h)
theorem F102 (a0 : Value) (w : World) (R : K1) (E : Ev) (h : S102_0 a0 w R E) : C P 102 #[a0] w R E := by
  have e : S102_0 (gt (A0 Tryz.f102.ntmps #[a0]) 0) w R E = S102_0 a0 w R E := by kernel_rfl
  have t := T102_0 (r := none) (Q := QF P Tryz.f102 R E) (A0 Tryz.f102.ntmps #[a0]) w (by kernel_rfl) R E (fun _ _ _ h => h) (fun _ _ _ h => h) (Eq.mpr e h)
  exact C_of (c := C102_0) Tryz.func102 (by kernel_rfl) t
def S103_j7 (w : World) (R : K1) (E : Ev) : Prop :=
  R (.int .i64 (-1)) w
noncomputable def C103_j7 : Code := cR (cR (bodyOf Tryz.f103))
theorem K103_j7 (g : Env) (w : World) (R : K1) (E : Ev) :
  vcF P Z0 Z0 C103_j7 (QC (fun _ _ => False) (fun a w => resQ P Tryz.f103.results a w R) Y0 E) g w = S103_j7 w R E := by kernel_rfl
theorem T103_j7 (hs : a.tmps.size = 19) (R : K1) (E : Ev) (hR : ∀ a' w', Ag (wr C103_j7) a a' → resQ P Tryz.f103.results (gt a') w' R → Q .ret a' w') (hE : HE Q E)
  (h : S103_j7 w R E) : C103_j7.wpIn (Fw r) 0 P (Qs (wr C103_j7) a Q) a w :=
  piece' (HJ := Z0) (HL := Z0) hmix hs (by decide +kernel) (fun _ _ => False) (fun a w => resQ P Tryz.f103.results a w R) Y0 E (fun _ _ _ h => h.elim) hR
  (fun _ _ _ _ h => h.elim) hE
  trivial (Eq.mpr (K103_j7 (gt a) w R E) h)
def S103_b2 (v0 v1 v7 v8 : Value) (w : World) (N : K4) (X0 : K0) (R : K1) (E : Ev) : Prop :=
  X P (.bin .lss 3 false false v8 v7) 0 w (fun t9 w1 =>
  Cnd t9 (
  X P (.indexAddr 210 v0 v8) 0 w1 (fun t14 w2 =>
  X P (.load 147 t14) 147 w2 (fun t15 w3 =>
  X P (.callV v1 #[t15]) 4 w3 (fun t16 w4 =>
  Cnd t16 (
  R v8 w4) (
  X P (.bin .add 3 false true v8 (.int .i64 1)) 3 w4 (fun t18 w5 =>
  N v0 v1 v7 t18 w5) E)) E) E) E) (
  X0 w1)) E
noncomputable def C103_b2 : Code := cB (cB (cR (cL (cR (bodyOf Tryz.f103)))))
noncomputable def J103_b2 (N : K4) (X0 : K0) (R : K1) (E : Ev) : Nat → Env → World → Prop := fun i a w => match i with | 0 => X0 w | _ => False
theorem K103_b2 (g : Env) (w : World) (N : K4) (X0 : K0) (R : K1) (E : Ev) :
  vcF P Z0 Z0 C103_b2 (QC (fun a w => N (a 0) (a 1) (a 7) (a 8) w) (fun a w => resQ P Tryz.f103.results a w R) (J103_b2 N X0 R E) E) g w = S103_b2 (g 0) (g 1) (g 7) (g 8) w N X0 R E := by kernel_rfl
theorem T103_b2 (hs : a.tmps.size = 19) (N : K4) (X0 : K0) (R : K1) (E : Ev) (hN : ∀ a' w', Ag (wr C103_b2) a a' → N (gt a' 0) (gt a' 1) (gt a' 7) (gt a' 8) w' → Q .normal a' w') (hX0 : ∀ a' w', Ag (wr C103_b2) a a' → X0 w' → Q (.exit 0) a' w') (hR : ∀ a' w', Ag (wr C103_b2) a a' → resQ P Tryz.f103.results (gt a') w' R → Q .ret a' w') (hE : HE Q E)
  (h : S103_b2 (gt a 0) (gt a 1) (gt a 7) (gt a 8) w N X0 R E) : C103_b2.wpIn (Fw r) 0 P (Qs (wr C103_b2) a Q) a w :=
  piece' (HJ := Z0) (HL := Z0) hmix hs (by decide +kernel) (fun a w => N (a 0) (a 1) (a 7) (a 8) w) (fun a w => resQ P Tryz.f103.results a w R) (J103_b2 N X0 R E) E hN hR
  (fun i a' w' hag h => by
  unfold J103_b2 at h
  split at h <;> first | exact hX0 _ _ hag h | exact h.elim) hE
  trivial (Eq.mpr (K103_b2 (gt a) w N X0 R E) h)
def S103_l2 (v0 v1 v7 v8 : Value) (w : World) (X0 : K0) (R : K1) (E : Ev) : Prop :=
  ∃ (I : K1) (μ : Value → World → Nat), I v8 w ∧ ∀ (v8 : Value) (w : World), I v8 w → S103_b2 v0 v1 v7 v8 w (fun x0 x1 x7 x8 y => I x8 y ∧ μ x8 y < μ v8 w) X0 R E
theorem T103_l2 (hs : a.tmps.size = 19) (X0 : K0) (R : K1) (E : Ev) (hX0 : ∀ a' w', Ag (wr (Code.loop C103_b2)) a a' → X0 w' → Q (.exit 0) a' w') (hR : ∀ a' w', Ag (wr (Code.loop C103_b2)) a a' → resQ P Tryz.f103.results (gt a') w' R → Q .ret a' w') (hE : HE Q E)
  (h : S103_l2 (gt a 0) (gt a 1) (gt a 7) (gt a 8) w X0 R E) : (Code.loop C103_b2).wpIn (Fw r) 0 P (Qs (wr (Code.loop C103_b2)) a Q) a w := by
  obtain ⟨I, μ, h0, hr⟩ := h
  refine loop_piece (c := C103_b2) (fun a w => I (gt a 8) w) (fun a w => μ (gt a 8) w) h0 fun a' w' hag hI => ?_
  have h' := hr (gt a' 8) w' hI
  rw [← hag.get 0 (by decide +kernel)] at h'
  rw [← hag.get 1 (by decide +kernel)] at h'
  rw [← hag.get 7 (by decide +kernel)] at h'
  exact T103_b2 a' w' (hag.size.trans hs) (fun x0 x1 x7 x8 y => I x8 y ∧ μ x8 y < μ (gt a' 8) w') X0 R E (fun _ _ _ h => h) (fun a1 w1 hag1 h => hX0 a1 w1 (hag.trans hag1) h) (fun a1 w1 hag1 h => hR a1 w1 (hag.trans hag1) h) hE h'
def S103_0 (v0 v1 : Value) (w : World) (R : K1) (E : Ev) : Prop :=
  X P (.callB .len #[210] #[false] #[v0]) 3 w (fun t7 w1 =>
  S103_l2 v0 v1 t7 (.int .i64 0) w1 (fun y => S103_j7 y R E) R E) E
noncomputable def C103_0 : Code := bodyOf Tryz.f103
noncomputable def HJ103_0 (R : K1) (E : Ev) : Cut := fun i => match i with | some 7 => some (fun a w => S103_j7 w R E) | _ => none
noncomputable def HL103_0 (R : K1) (E : Ev) : Cut := fun i => match i with | some 2 => some (fun a w => S103_l2 (a 0) (a 1) (a 7) (a 8) w (fun y => S103_j7 y R E) R E) | _ => none
theorem K103_0 (g : Env) (w : World) (R : K1) (E : Ev) :
  vcF P (HJ103_0 R E) (HL103_0 R E) C103_0 (QC (fun _ _ => False) (fun a w => resQ P Tryz.f103.results a w R) Y0 E) g w = S103_0 (g 0) (g 1) w R E := by kernel_rfl
theorem T103_0 (hs : a.tmps.size = 19) (R : K1) (E : Ev) (hR : ∀ a' w', Ag (wr C103_0) a a' → resQ P Tryz.f103.results (gt a') w' R → Q .ret a' w') (hE : HE Q E)
  (h : S103_0 (gt a 0) (gt a 1) w R E) : C103_0.wpIn (Fw r) 0 P (Qs (wr C103_0) a Q) a w :=
  piece' (HJ := HJ103_0 R E) (HL := HL103_0 R E) hmix hs (by decide +kernel) (fun _ _ => False) (fun a w => resQ P Tryz.f103.results a w R) Y0 E (fun _ _ _ h => h.elim) hR
  (fun _ _ _ _ h => h.elim) hE
  ⟨pay (c := Code.loop C103_b2) (W := wr C103_0) (h := fun a w => S103_l2 (a 0) (a 1) (a 7) (a 8) w (fun y => S103_j7 y R E) R E) (by decide +kernel) fun a w hsz h => T103_l2 a w (hsz.trans hs) (fun y => S103_j7 y R E) R E (fun _ _ _ h => h) (fun _ _ _ h => h) (fun _ _ _ h => h) h, pay (c := C103_j7) (W := wr C103_0) (h := fun a w => S103_j7 w R E) (by decide +kernel) fun a w hsz h => T103_j7 a w (hsz.trans hs) R E (fun _ _ _ h => h) (fun _ _ _ h => h) h, trivial⟩ (Eq.mpr (K103_0 (gt a) w R E) h)
theorem F103 (a0 a1 : Value) (w : World) (R : K1) (E : Ev) (h : S103_0 a0 a1 w R E) : C P 103 #[a0, a1] w R E := by
  have e : S103_0 (gt (A0 Tryz.f103.ntmps #[a0, a1]) 0) (gt (A0 Tryz.f103.ntmps #[a0, a1]) 1) w R E = S103_0 a0 a1 w R E := by kernel_rfl
  have t := T103_0 (r := none) (Q := QF P Tryz.f103 R E) (A0 Tryz.f103.ntmps #[a0, a1]) w (by kernel_rfl) R E (fun _ _ _ h => h) (fun _ _ _ h => h) (Eq.mpr e h)
  exact C_of (c := C103_0) Tryz.func103 (by kernel_rfl) t
def S104_0 (v0 v1 : Value) (w : World) (R : K1) (E : Ev) : Prop :=
  X P (.box 147 v0) 0 w (fun t2 w1 =>
  X P (.fieldAddr 147 t2 0) 0 w1 (fun t4 w2 =>
  X P (.load 38 t4) 38 w2 (fun t5 w3 =>
  X P (.load 38 v1) 38 w3 (fun t6 w4 =>
  X P (.bin .eql 38 false false t5 t6) 4 w4 (fun t7 w5 =>
  R t7 w5) E) E) E) E) E
noncomputable def C104_0 : Code := bodyOf Tryz.f104
theorem K104_0 (g : Env) (w : World) (R : K1) (E : Ev) :
  vcF P Z0 Z0 C104_0 (QC (fun _ _ => False) (fun a w => resQ P Tryz.f104.results a w R) Y0 E) g w = S104_0 (g 0) (g 1) w R E := by kernel_rfl
theorem T104_0 (hs : a.tmps.size = 8) (R : K1) (E : Ev) (hR : ∀ a' w', Ag (wr C104_0) a a' → resQ P Tryz.f104.results (gt a') w' R → Q .ret a' w') (hE : HE Q E)
  (h : S104_0 (gt a 0) (gt a 1) w R E) : C104_0.wpIn (Fw r) 0 P (Qs (wr C104_0) a Q) a w :=
  piece' (HJ := Z0) (HL := Z0) hmix hs (by decide +kernel) (fun _ _ => False) (fun a w => resQ P Tryz.f104.results a w R) Y0 E (fun _ _ _ h => h.elim) hR
  (fun _ _ _ _ h => h.elim) hE
  trivial (Eq.mpr (K104_0 (gt a) w R E) h)
theorem F104 (a0 a1 : Value) (w : World) (R : K1) (E : Ev) (h : S104_0 a0 a1 w R E) : C P 104 #[a0, a1] w R E := by
  have e : S104_0 (gt (A0 Tryz.f104.ntmps #[a0, a1]) 0) (gt (A0 Tryz.f104.ntmps #[a0, a1]) 1) w R E = S104_0 a0 a1 w R E := by kernel_rfl
  have t := T104_0 (r := none) (Q := QF P Tryz.f104 R E) (A0 Tryz.f104.ntmps #[a0, a1]) w (by kernel_rfl) R E (fun _ _ _ h => h) (fun _ _ _ h => h) (Eq.mpr e h)
  exact C_of (c := C104_0) Tryz.func104 (by kernel_rfl) t
def S105_0 (v0 v1 : Value) (w : World) (R : K1) (E : Ev) : Prop :=
  Cnd (.bool false) (
  X P (.conv 93 38 v0) 38 w (fun t12 w1 =>
  X P (.conv 93 38 v1) 38 w1 (fun t14 w2 =>
  X P (.callF 110 #[t12, t14]) 226 w2 (fun t15 w3 =>
  X P (.extract t15 0) 38 w3 (fun t16 w4 =>
  X P (.extract t15 1) 38 w4 (fun t17 w5 =>
  X P (.conv 38 93 t16) 93 w5 (fun t19 w6 =>
  X P (.conv 38 93 t17) 93 w6 (fun t21 w7 =>
  R (Value.tuple #[t19, t21]) w7) E) E) E) E) E) E) E) (
  X P (.callF 111 #[v0, v1]) 228 w (fun t25 w1 =>
  X P (.extract t25 0) 140 w1 (fun t26 w2 =>
  X P (.extract t25 1) 140 w2 (fun t27 w3 =>
  R (Value.tuple #[t26, t27]) w3) E) E) E)
noncomputable def C105_0 : Code := bodyOf Tryz.f105
theorem K105_0 (g : Env) (w : World) (R : K1) (E : Ev) :
  vcF P Z0 Z0 C105_0 (QC (fun _ _ => False) (fun a w => resQ P Tryz.f105.results a w R) Y0 E) g w = S105_0 (g 0) (g 1) w R E := by kernel_rfl
theorem T105_0 (hs : a.tmps.size = 30) (R : K1) (E : Ev) (hR : ∀ a' w', Ag (wr C105_0) a a' → resQ P Tryz.f105.results (gt a') w' R → Q .ret a' w') (hE : HE Q E)
  (h : S105_0 (gt a 0) (gt a 1) w R E) : C105_0.wpIn (Fw r) 0 P (Qs (wr C105_0) a Q) a w :=
  piece' (HJ := Z0) (HL := Z0) hmix hs (by decide +kernel) (fun _ _ => False) (fun a w => resQ P Tryz.f105.results a w R) Y0 E (fun _ _ _ h => h.elim) hR
  (fun _ _ _ _ h => h.elim) hE
  trivial (Eq.mpr (K105_0 (gt a) w R E) h)
theorem F105 (a0 a1 : Value) (w : World) (R : K1) (E : Ev) (h : S105_0 a0 a1 w R E) : C P 105 #[a0, a1] w R E := by
  have e : S105_0 (gt (A0 Tryz.f105.ntmps #[a0, a1]) 0) (gt (A0 Tryz.f105.ntmps #[a0, a1]) 1) w R E = S105_0 a0 a1 w R E := by kernel_rfl
  have t := T105_0 (r := none) (Q := QF P Tryz.f105 R E) (A0 Tryz.f105.ntmps #[a0, a1]) w (by kernel_rfl) R E (fun _ _ _ h => h) (fun _ _ _ h => h) (Eq.mpr e h)
  exact C_of (c := C105_0) Tryz.func105 (by kernel_rfl) t
def S106_j6 (v0 : Value) (w : World) (R : K1) (E : Ev) : Prop :=
  R v0 w
noncomputable def C106_j6 : Code := cR (cR (cR (bodyOf Tryz.f106)))
theorem K106_j6 (g : Env) (w : World) (R : K1) (E : Ev) :
  vcF P Z0 Z0 C106_j6 (QC (fun _ _ => False) (fun a w => resQ P Tryz.f106.results a w R) Y0 E) g w = S106_j6 (g 0) w R E := by kernel_rfl
theorem T106_j6 (hs : a.tmps.size = 27) (R : K1) (E : Ev) (hR : ∀ a' w', Ag (wr C106_j6) a a' → resQ P Tryz.f106.results (gt a') w' R → Q .ret a' w') (hE : HE Q E)
  (h : S106_j6 (gt a 0) w R E) : C106_j6.wpIn (Fw r) 0 P (Qs (wr C106_j6) a Q) a w :=
  piece' (HJ := Z0) (HL := Z0) hmix hs (by decide +kernel) (fun _ _ => False) (fun a w => resQ P Tryz.f106.results a w R) Y0 E (fun _ _ _ h => h.elim) hR
  (fun _ _ _ _ h => h.elim) hE
  trivial (Eq.mpr (K106_j6 (gt a) w R E) h)
def S106_j3 (v0 v1 : Value) (w : World) (R : K1) (E : Ev) : Prop :=
  X P (.callB .cap #[34] #[false] #[v0]) 3 w (fun t10 w1 =>
  X P (.callB .len #[34] #[false] #[v0]) 3 w1 (fun t12 w2 =>
  X P (.bin .sub 3 false false t10 t12) 3 w2 (fun t13 w3 =>
  X P (.bin .sub 3 false false v1 t13) 3 w3 (fun t14 w4 =>
  X P (.bin .gtr 3 false true t14 (.int .i64 0)) 4 w4 (fun t16 w5 =>
  Cnd t16 (
  X P (.callB .cap #[34] #[false] #[v0]) 3 w5 (fun t19 w6 =>
  X P (.slice 34 v0 none (some t19) none) 34 w6 (fun t20 w7 =>
  X P (.callB .append #[34, 3] #[false, false] #[t20, t14]) 34 w7 (fun t22 w8 =>
  X P (.callB .len #[34] #[false] #[v0]) 3 w8 (fun t24 w9 =>
  X P (.slice 34 t22 none (some t24) none) 34 w9 (fun t25 w10 =>
  S106_j6 t25 w10 R E) E) E) E) E) E) (
  S106_j6 v0 w5 R E)) E) E) E) E) E
noncomputable def C106_j3 : Code := cR (cR (bodyOf Tryz.f106))
noncomputable def HJ106_j3 (R : K1) (E : Ev) : Cut := fun i => match i with | some 6 => some (fun a w => S106_j6 (a 0) w R E) | _ => none
theorem K106_j3 (g : Env) (w : World) (R : K1) (E : Ev) :
  vcF P (HJ106_j3 R E) Z0 C106_j3 (QC (fun _ _ => False) (fun a w => resQ P Tryz.f106.results a w R) Y0 E) g w = S106_j3 (g 0) (g 1) w R E := by kernel_rfl
theorem T106_j3 (hs : a.tmps.size = 27) (R : K1) (E : Ev) (hR : ∀ a' w', Ag (wr C106_j3) a a' → resQ P Tryz.f106.results (gt a') w' R → Q .ret a' w') (hE : HE Q E)
  (h : S106_j3 (gt a 0) (gt a 1) w R E) : C106_j3.wpIn (Fw r) 0 P (Qs (wr C106_j3) a Q) a w :=
  piece' (HJ := HJ106_j3 R E) (HL := Z0) hmix hs (by decide +kernel) (fun _ _ => False) (fun a w => resQ P Tryz.f106.results a w R) Y0 E (fun _ _ _ h => h.elim) hR
  (fun _ _ _ _ h => h.elim) hE
  ⟨pay (c := C106_j6) (W := wr C106_j3) (h := fun a w => S106_j6 (a 0) w R E) (by decide +kernel) fun a w hsz h => T106_j6 a w (hsz.trans hs) R E (fun _ _ _ h => h) (fun _ _ _ h => h) h, trivial⟩ (Eq.mpr (K106_j3 (gt a) w R E) h)
def S106_0 (v0 v1 : Value) (w : World) (R : K1) (E : Ev) : Prop :=
  X P (.bin .lss 3 false true v1 (.int .i64 0)) 4 w (fun t6 w1 =>
  Cnd t6 (
  X P (.mkIface 9 (Value.string { data := #[99, 97, 110, 110, 111, 116, 32, 98, 101, 32, 110, 101, 103, 97, 116, 105, 118, 101] })) 20 w1 (fun t7 w2 =>
  X P (.panic t7) 0 w2 (fun _ w3 =>
  S106_j3 v0 v1 w3 R E) E) E) (
  S106_j3 v0 v1 w1 R E)) E
noncomputable def C106_0 : Code := bodyOf Tryz.f106
noncomputable def HJ106_0 (R : K1) (E : Ev) : Cut := fun i => match i with | some 3 => some (fun a w => S106_j3 (a 0) (a 1) w R E) | _ => none
theorem K106_0 (g : Env) (w : World) (R : K1) (E : Ev) :
  vcF P (HJ106_0 R E) Z0 C106_0 (QC (fun _ _ => False) (fun a w => resQ P Tryz.f106.results a w R) Y0 E) g w = S106_0 (g 0) (g 1) w R E := by kernel_rfl
theorem T106_0 (hs : a.tmps.size = 27) (R : K1) (E : Ev) (hR : ∀ a' w', Ag (wr C106_0) a a' → resQ P Tryz.f106.results (gt a') w' R → Q .ret a' w') (hE : HE Q E)
  (h : S106_0 (gt a 0) (gt a 1) w R E) : C106_0.wpIn (Fw r) 0 P (Qs (wr C106_0) a Q) a w :=
  piece' (HJ := HJ106_0 R E) (HL := Z0) hmix hs (by decide +kernel) (fun _ _ => False) (fun a w => resQ P Tryz.f106.results a w R) Y0 E (fun _ _ _ h => h.elim) hR
  (fun _ _ _ _ h => h.elim) hE
  ⟨pay (c := C106_j3) (W := wr C106_0) (h := fun a w => S106_j3 (a 0) (a 1) w R E) (by decide +kernel) fun a w hsz h => T106_j3 a w (hsz.trans hs) R E (fun _ _ _ h => h) (fun _ _ _ h => h) h, trivial⟩ (Eq.mpr (K106_0 (gt a) w R E) h)
theorem F106 (a0 a1 : Value) (w : World) (R : K1) (E : Ev) (h : S106_0 a0 a1 w R E) : C P 106 #[a0, a1] w R E := by
  have e : S106_0 (gt (A0 Tryz.f106.ntmps #[a0, a1]) 0) (gt (A0 Tryz.f106.ntmps #[a0, a1]) 1) w R E = S106_0 a0 a1 w R E := by kernel_rfl
  have t := T106_0 (r := none) (Q := QF P Tryz.f106 R E) (A0 Tryz.f106.ntmps #[a0, a1]) w (by kernel_rfl) R E (fun _ _ _ h => h) (fun _ _ _ h => h) (Eq.mpr e h)
  exact C_of (c := C106_0) Tryz.func106 (by kernel_rfl) t
def S107_0 (w : World) (R : K1) (E : Ev) : Prop :=
  X P (.alloc 223) 0 w (fun t0 w1 =>
  X P (.build 223 #[(1, (.int .u8 1)), (2, (.int .u8 2)), (3, (.int .u8 4))]) 223 w1 (fun t1 w2 =>
  X P (.store 223 t0 t1) 0 w2 (fun _ w3 =>
  XRes P [(t0, some 223)] w3 R) E) E) E
noncomputable def C107_0 : Code := bodyOf Tryz.f107
theorem K107_0 (g : Env) (w : World) (R : K1) (E : Ev) :
  vcF P Z0 Z0 C107_0 (QC (fun _ _ => False) (fun a w => resQ P Tryz.f107.results a w R) Y0 E) g w = S107_0 w R E := by kernel_rfl
theorem T107_0 (hs : a.tmps.size = 2) (R : K1) (E : Ev) (hR : ∀ a' w', Ag (wr C107_0) a a' → resQ P Tryz.f107.results (gt a') w' R → Q .ret a' w') (hE : HE Q E)
  (h : S107_0 w R E) : C107_0.wpIn (Fw r) 0 P (Qs (wr C107_0) a Q) a w :=
  piece' (HJ := Z0) (HL := Z0) hmix hs (by decide +kernel) (fun _ _ => False) (fun a w => resQ P Tryz.f107.results a w R) Y0 E (fun _ _ _ h => h.elim) hR
  (fun _ _ _ _ h => h.elim) hE
  trivial (Eq.mpr (K107_0 (gt a) w R E) h)
theorem F107 (w : World) (R : K1) (E : Ev) (h : S107_0 w R E) : C P 107 #[] w R E := by
  have e : S107_0 w R E = S107_0 w R E := by kernel_rfl
  have t := T107_0 (r := none) (Q := QF P Tryz.f107 R E) (A0 Tryz.f107.ntmps #[]) w (by kernel_rfl) R E (fun _ _ _ h => h) (fun _ _ _ h => h) (Eq.mpr e h)
  exact C_of (c := C107_0) Tryz.func107 (by kernel_rfl) t
def S109_0 (v0 : Value) (w : World) (R : K1) (E : Ev) : Prop :=
  X P (.bin .eql 140 false true v0 (.int .u64 0)) 4 w (fun t4 w1 =>
  Cnd t4 (
  R (.int .i64 64) w1) (
  X P (.un .neg v0) 140 w1 (fun t7 w2 =>
  X P (.bin .and 140 false false v0 t7) 140 w2 (fun t8 w3 =>
  X P (.bin .mul 140 false true t8 (.int .u64 285870213051353865)) 140 w3 (fun t9 w4 =>
  X P (.bin .shr 140 false true t9 (.int .u64 58)) 140 w4 (fun t10 w5 =>
  X P (.indexAddr 231 (Value.pointer (some ⟨1, 0, none⟩)) t10) 0 w5 (fun t11 w6 =>
  X P (.load 5 t11) 5 w6 (fun t12 w7 =>
  X P (.conv 5 3 t12) 3 w7 (fun t13 w8 =>
  R t13 w8) E) E) E) E) E) E) E)) E
noncomputable def C109_0 : Code := bodyOf Tryz.f109
theorem K109_0 (g : Env) (w : World) (R : K1) (E : Ev) :
  vcF P Z0 Z0 C109_0 (QC (fun _ _ => False) (fun a w => resQ P Tryz.f109.results a w R) Y0 E) g w = S109_0 (g 0) w R E := by kernel_rfl
theorem T109_0 (hs : a.tmps.size = 14) (R : K1) (E : Ev) (hR : ∀ a' w', Ag (wr C109_0) a a' → resQ P Tryz.f109.results (gt a') w' R → Q .ret a' w') (hE : HE Q E)
  (h : S109_0 (gt a 0) w R E) : C109_0.wpIn (Fw r) 0 P (Qs (wr C109_0) a Q) a w :=
  piece' (HJ := Z0) (HL := Z0) hmix hs (by decide +kernel) (fun _ _ => False) (fun a w => resQ P Tryz.f109.results a w R) Y0 E (fun _ _ _ h => h.elim) hR
  (fun _ _ _ _ h => h.elim) hE
  trivial (Eq.mpr (K109_0 (gt a) w R E) h)
theorem F109 (a0 : Value) (w : World) (R : K1) (E : Ev) (h : S109_0 a0 w R E) : C P 109 #[a0] w R E := by
  have e : S109_0 (gt (A0 Tryz.f109.ntmps #[a0]) 0) w R E = S109_0 a0 w R E := by kernel_rfl
  have t := T109_0 (r := none) (Q := QF P Tryz.f109 R E) (A0 Tryz.f109.ntmps #[a0]) w (by kernel_rfl) R E (fun _ _ _ h => h) (fun _ _ _ h => h) (Eq.mpr e h)
  exact C_of (c := C109_0) Tryz.func109 (by kernel_rfl) t
def S111_0 (v0 v1 : Value) (w : World) (R : K1) (E : Ev) : Prop :=
  X P (.bin .and 140 false true v0 (.int .u64 4294967295)) 140 w (fun t15 w1 =>
  X P (.bin .shr 140 false true v0 (.int .u64 32)) 140 w1 (fun t17 w2 =>
  X P (.bin .and 140 false true v1 (.int .u64 4294967295)) 140 w2 (fun t19 w3 =>
  X P (.bin .shr 140 false true v1 (.int .u64 32)) 140 w3 (fun t21 w4 =>
  X P (.bin .mul 140 false false t15 t19) 140 w4 (fun t24 w5 =>
  X P (.bin .mul 140 false false t17 t19) 140 w5 (fun t27 w6 =>
  X P (.bin .shr 140 false true t24 (.int .u64 32)) 140 w6 (fun t29 w7 =>
  X P (.bin .add 140 false false t27 t29) 140 w7 (fun t30 w8 =>
  X P (.bin .and 140 false true t30 (.int .u64 4294967295)) 140 w8 (fun t32 w9 =>
  X P (.bin .shr 140 false true t30 (.int .u64 32)) 140 w9 (fun t34 w10 =>
  X P (.bin .mul 140 false false t15 t21) 140 w10 (fun t38 w11 =>
  X P (.bin .add 140 false false t32 t38) 140 w11 (fun t39 w12 =>
  X P (.bin .mul 140 false false t17 t21) 140 w12 (fun t42 w13 =>
  X P (.bin .add 140 false false t42 t34) 140 w13 (fun t44 w14 =>
  X P (.bin .shr 140 false true t39 (.int .u64 32)) 140 w14 (fun t46 w15 =>
  X P (.bin .add 140 false false t44 t46) 140 w15 (fun t47 w16 =>
  X P (.bin .mul 140 false false v0 v1) 140 w16 (fun t50 w17 =>
  R (Value.tuple #[t47, t50]) w17) E) E) E) E) E) E) E) E) E) E) E) E) E) E) E) E) E
noncomputable def C111_0 : Code := bodyOf Tryz.f111
theorem K111_0 (g : Env) (w : World) (R : K1) (E : Ev) :
  vcF P Z0 Z0 C111_0 (QC (fun _ _ => False) (fun a w => resQ P Tryz.f111.results a w R) Y0 E) g w = S111_0 (g 0) (g 1) w R E := by kernel_rfl
theorem T111_0 (hs : a.tmps.size = 51) (R : K1) (E : Ev) (hR : ∀ a' w', Ag (wr C111_0) a a' → resQ P Tryz.f111.results (gt a') w' R → Q .ret a' w') (hE : HE Q E)
  (h : S111_0 (gt a 0) (gt a 1) w R E) : C111_0.wpIn (Fw r) 0 P (Qs (wr C111_0) a Q) a w :=
  piece' (HJ := Z0) (HL := Z0) hmix hs (by decide +kernel) (fun _ _ => False) (fun a w => resQ P Tryz.f111.results a w R) Y0 E (fun _ _ _ h => h.elim) hR
  (fun _ _ _ _ h => h.elim) hE
  trivial (Eq.mpr (K111_0 (gt a) w R E) h)
theorem F111 (a0 a1 : Value) (w : World) (R : K1) (E : Ev) (h : S111_0 a0 a1 w R E) : C P 111 #[a0, a1] w R E := by
  have e : S111_0 (gt (A0 Tryz.f111.ntmps #[a0, a1]) 0) (gt (A0 Tryz.f111.ntmps #[a0, a1]) 1) w R E = S111_0 a0 a1 w R E := by kernel_rfl
  have t := T111_0 (r := none) (Q := QF P Tryz.f111 R E) (A0 Tryz.f111.ntmps #[a0, a1]) w (by kernel_rfl) R E (fun _ _ _ h => h) (fun _ _ _ h => h) (Eq.mpr e h)
  exact C_of (c := C111_0) Tryz.func111 (by kernel_rfl) t
end Go.Eng
