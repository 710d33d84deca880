/- A part (6 of 6) of the proof that the law of MMUSees answers true for every input and that each argument reads afterwards as before. Conditions: those of the card alone (the two tables of math/bits read as the program text lays them). -/
import Derived.Test.YtcjcbgeogaighaaGreatDoorP5
import Derived.Carry
import Derived.Deep.Slices
import Derived.ProofKit
import Derived.Test.YtcjcbgeogaighaaGreatDoorRows
import Derived.LaidMore
import Derived.OpenShut
import Derived.Stop.Joined
import Derived.Test.YtcjcbgeogaighaaGreatDoorCards
import Derived.Test.YtcjcbgeogaighaaGreatDoorTie
import Derived.SevenTiedAt
set_option linter.all false
namespace Go.Eng
open Go.Proofs Go.MapKept
variable {w : World} {K : Value → World → Prop} {E : List PanicEntry → World → Prop}
def scan0 (M : Nat → Nat) (n root : Nat) (l : List Rg) : Option SS1 := scan M n root (pgNos l) ([], (fun _ => none), [])
open Classical in
noncomputable def mapR (M : Nat → Nat) (n root base pages taken : Nat) (sl : Bool) (l : List Rg) : Int × (Nat → Nat) × Nat :=
  if ¬ (∀ r ∈ l, mayBeR r = true) then (70, M, taken) else
  match scan0 M n root l with
  | none => (71, M, taken)
  | some st =>
    if st.2.2 ≠ [] ∧ sl = true then (73, M, taken) else if pages - taken < st.2.2.length then (72, M, taken) else
    (0, layAll (takeAll root base st.2.2 (M, taken, st.2.1)).2.2 (pgs l) (takeAll root base st.2.2 (M, taken, st.2.1)).1, (takeAll root base st.2.2 (M, taken, st.2.1)).2.1)
theorem take1_tabs {root base f n pages : Nat} {t : TS} (hb : base % 4096 = 0) (hbp : base / 4096 + pages ≤ n) (ht : t.2.1 < pages) (h : ∀ k x, t.2.2 k = some x → x % 4096 = 0 ∧ x + 4096 ≤ 4096 * n) : ∀ k x, (take1 root base f t).2.2 k = some x → x % 4096 = 0 ∧ x + 4096 ≤ 4096 * n := by
  intro k x hx
  simp only [take1] at hx
  split at hx
  · simp only [Option.some.injEq] at hx; omega
  · exact h k x hx
theorem takeAll_tabs {root base n pages : Nat} (hb : base % 4096 = 0) (hbp : base / 4096 + pages ≤ n) : ∀ (l : List Nat) (t : TS), t.2.1 + l.length ≤ pages → (∀ k x, t.2.2 k = some x → x % 4096 = 0 ∧ x + 4096 ≤ 4096 * n) → ∀ k x, (takeAll root base l t).2.2 k = some x → x % 4096 = 0 ∧ x + 4096 ≤ 4096 * n
  | [], t, _, h => h
  | f :: l, t, hl, h => takeAll_tabs hb hbp l (take1 root base f t) (by simp only [List.length_cons] at hl; simp only [take1]; omega) (take1_tabs hb hbp (by simp only [List.length_cons] at hl; omega) h)
theorem takeAll_taken {root base : Nat} : ∀ (l : List Nat) (t : TS), (takeAll root base l t).2.1 = t.2.1 + l.length
  | [], t => rfl
  | f :: l, t => by simp only [takeAll, List.length_cons]; rw [takeAll_taken l]; simp only [take1]; omega
theorem Map_c {s a m n root base pages taken : Nat} {sl : Bool} {v : Value} {l : List Rg} {M : Nat → Nat} {F : Nat → Prop}
   (hm : Mem w m n M F) (hs : w.heap[s]? = some (spaceO a root)) (hroot : root < 4294967296) (ha : w.heap[a]? = some (arenaO m base pages taken sl)) (haF : ¬ F a) (hsF : ¬ F s) (hb4 : base % 4096 = 0) (hbp : base / 4096 + pages ≤ n) (ht : taken ≤ pages)
   (hl : RgAt w v l) (hrk : ∀ r ∈ l, r.Ok) (hlen : l.length ≤ 1000000) (hpl : (∀ r ∈ l, mayBeR r = true) → (pgs l).length ≤ 90000) (hg : ∀ g o n c, v = .slice (some ⟨g, o, none⟩) n c → ¬ F g ∧ g < w.heap.size ∧ g ≠ a)
   (hK : ∀ w' F', Fr (fun r => F r ∨ r = a) w w' → (∀ r, F' r → F r ∨ w.heap.size ≤ r) → (∀ r, F r → F' r) → Mem w' m n (mapR M n root base pages taken sl l).2.1 F' → w'.heap[a]? = some (arenaO m base pages (mapR M n root base pages taken sl l).2.2 sl) → K (.int .i64 (mapR M n root base pages taken sl l).1) w') :
   C P 22 #[ptr s, v] w K E := by
  have hn : 1 ≤ n ∧ n ≤ 4096 := by obtain ⟨mb, f, hm⟩ := hm; exact hm.hn
  have hfin : ∀ r, F r → r < w.heap.size := by obtain ⟨mb, f, h⟩ := hm; exact h.fin
  have hsa : s ≠ a := ne_blk hs ha (by simp)
  have ls := lt_of_blk hs
  have la := lt_of_blk ha
  apply F22
  unfold R22_0 S22_s0
  with_reducible refine x_box1 oneP ?_; refine x_alloc ?_
  generalize hw1 : World.alloc (World.alloc _ _) _ = w1
  have e1 : Ext w w1 := by rw [← hw1]; exact ((Fr.refl _ w).alloc _).alloc _
  have h2 : w1.heap[w.heap.size]? = some (.cells #[ptr s] 72 (0, 0)) := by rw [← hw1]; refine blk_alloc_old' ?_; exact blk_alloc_new
  have h4 : w1.heap[w.heap.size + 1]? = some (.cells #[.int .i64 0] 53 (0, 0)) := by rw [← hw1]; exact blk_alloc_eq (by rw [size_alloc])
  have hs1 : w1.heap.size = w.heap.size + 2 := by rw [← hw1]; simp only [size_alloc]
  simp only [size_alloc]
  clear hw1
  unfold R22_1 S22_s1
  refine x_callF (badRg_c (hl.keep (Keep60.ext e1)) hrk hlen fun w2 b e2 hb => ?_)
  have e02 := e1.trans e2
  have h22 := e2.get h2
  have h42 := e2.get h4
  cases b with
  | true =>
    have hbad : ¬ (∀ r ∈ l, mayBeR r = true) := fun h => by have := hb.2 h; cases this
    with_reducible refine Cnd.yes ?_; refine x_store1 ‹_› oneI set_0 ?_
    unfold XM
    refine xres_1 (rv_load1 (by exact blk_set_same (by exact lt_of_blk ‹_›)) at_0) ?_
    have e03 : Ext w (setBlk w2 (w.heap.size + 1) (.cells #[.int .i64 70] 53 (0, 0))) := e02.set (fun h => by omega) _
    have := hK _ F (Fr.of_ext e03) (fun r hr => .inl hr) (fun r hr => hr)
    simp only [mapR, if_pos hbad] at this
    exact this (hm.ext e03) (e03.get ha)
  | false =>
    have hok : ∀ r ∈ l, mayBeR r = true := hb.1 rfl
    have hplen := hpl hok
    have s2 := e2.size
    have hs2 := e02.get hs
    have ha2 := e02.get ha
    refine Cnd.no ?_
    unfold R22_2 S22_s2
    with_reducible refine x_load1 ‹_› at_0 ?_; refine x_nil ?_; refine x_field0 ?_; refine x_load1 ‹_› at_0 ?_
    refine x_callF (arenaMem_c ha2 ?_)
    with_reducible refine x_alloc ?_; refine x_store1 blk_alloc_new oneP set_0 ?_
    generalize hw3 : setBlk _ _ _ = w3
    have e3 : Ext w2 w3 := by rw [← hw3]; exact ((Fr.refl _ w2).alloc _).set (fun h => by omega) _
    have h5 : w3.heap[w2.heap.size]? = some (.cells #[ptr m] 41 (0, 0)) := by rw [← hw3]; exact blk_set_same lt_alloc_new
    have s3 : w3.heap.size = w2.heap.size + 1 := by rw [← hw3]; simp only [size_set, size_alloc]
    clear hw3
    unfold R22_3 S22_s3
    with_reducible refine x_makeMap ?_; refine x_alloc ?_; refine x_store1 blk_alloc_new oneM set_0 ?_
    generalize hw4 : setBlk _ _ _ = w4
    have e4 : Ext w3 w4 := by rw [← hw4]; exact (((Fr.refl _ w3).alloc _).alloc _).set (fun h => by rw [size_alloc] at h; omega) _
    have hsm : w4.heap[w3.heap.size]? = some (.map #[] 0) := by rw [← hw4]; refine blk_set_ne' ?_ (by exact Nat.ne_of_lt lt_alloc_new); refine blk_alloc_old' ?_; exact blk_alloc_new
    have h6 : w4.heap[w3.heap.size + 1]? = some (.cells #[.map (some w3.heap.size)] 115 (0, 0)) := by rw [← hw4]; simp only [size_alloc]; exact blk_set_same (by simp only [size_alloc]; omega)
    have s4 : w4.heap.size = w3.heap.size + 2 := by rw [← hw4]; simp only [size_set, size_alloc]
    simp only [size_alloc]
    clear hw4
    unfold R22_4 S22_s4
    with_reducible refine x_makeMap ?_; refine x_alloc ?_; refine x_store1 blk_alloc_new oneM set_0 ?_
    generalize hw5 : setBlk _ _ _ = w5
    have e5 : Ext w4 w5 := by rw [← hw5]; exact (((Fr.refl _ w4).alloc _).alloc _).set (fun h => by rw [size_alloc] at h; omega) _
    have htm : w5.heap[w4.heap.size]? = some (.map #[] 0) := by rw [← hw5]; refine blk_set_ne' ?_ (by exact Nat.ne_of_lt lt_alloc_new); refine blk_alloc_old' ?_; exact blk_alloc_new
    have h7 : w5.heap[w4.heap.size + 1]? = some (.cells #[.map (some w4.heap.size)] 116 (0, 0)) := by rw [← hw5]; simp only [size_alloc]; exact blk_set_same (by simp only [size_alloc]; omega)
    have s5 : w5.heap.size = w4.heap.size + 2 := by rw [← hw5]; simp only [size_set, size_alloc]
    simp only [size_alloc]
    clear hw5
    unfold R22_5 S22_s5
    with_reducible refine x_alloc ?_
    generalize hw6 : World.alloc _ _ = w6
    have e6 : Ext w5 w6 := by rw [← hw6]; exact (Fr.refl _ w5).alloc _
    have h8 : w6.heap[w5.heap.size]? = some (.cells #[.slice none 0 0] 117 (0, 0)) := by rw [← hw6]; exact blk_alloc_new
    have s6 : w6.heap.size = w5.heap.size + 1 := by rw [← hw6]; simp only [size_alloc]
    clear hw6
    unfold R22_6 S22_s6
    have hv1 : v.oneCell' = true := by obtain ⟨a', c', rfl, _⟩ := hl; rfl
    refine x_callF (pages_rf hv1 ?_)
    generalize hw7 : World.alloc _ _ = w7
    have e7 : Ext w6 w7 := by rw [← hw7]; exact (Fr.refl _ w6).alloc _
    have hb1 : w7.heap[w6.heap.size]? = some (.cells #[v] 57 (0, 0)) := by rw [← hw7]; exact blk_alloc_new
    have s7 : w7.heap.size = w6.heap.size + 1 := by rw [← hw7]; simp only [size_alloc]
    clear hw7
    unfold R22_7
    have e27 : Ext w2 w7 := (((e3.trans e4).trans e5).trans e6).trans e7
    have e07 : Ext w w7 := e02.trans e27
    have e57 := e6.trans e7
    have e47 := e5.trans e57
    have e37 := e4.trans e47
    refine f7_c (w0 := w) (a := a) (m := m) (n := n) (M := M) (F := F) (hm.ext e07) (e07.get hs) hroot e07 (hl.keep (Keep60.ext e07)) hrk hok hlen hplen hb1 (e27.get h22) (e27.get h42) (e37.get h5) (e47.get h6) (e57.get h7) (e7.get h8) (e47.get hsm) (e57.get htm) (by omega) hfin (Nat.le_refl _) (fun g o n c hx => (hg g o n c hx).2.1)
      (fun y8 v8 st hsc e08 hS y2 y4 y5 yD yz yl => ?_) fun y8 hsc e08 y4 yD => ?_
    · -- the first pass went through
      have hsok := scan_ok _ _ _ hsc ⟨by simp, by simp⟩
      have hm8 := hm.ext e08
      have ha8 := e08.get ha
      have hs8 := e08.get hs
      unfold R22_8
      refine s8_c (a := a) (root := root) (base := base) (pages := pages) (taken := taken) (sl := sl) (m := m) hs8 ha8 ht (by omega) y2 y4 hS.h8 hS.want (by omega) (fun y9 hx1 hx2 e9 => ?_) fun y9 e e9 y94 he => ?_
      · -- tables are taken
        unfold R22_9
        have e09 := e08.trans e9
        obtain ⟨es, ck, ft, q1, q2⟩ := hS.tabs
        have hs9 : st.2.2 = [] ∨ sl = false := by
          by_cases h : st.2.2 = []
          · exact .inl h
          · right; cases sl with
            | false => rfl
            | true => exact absurd ⟨h, rfl⟩ hx1
        have yD9 := e9.get yD
        refine s9_c (s := s) (a := a) (m := m) (n := n) (root := root) (base := base) (pages := pages) (taken := taken) (M := M) (F := F) (st := st) (tm := w4.heap.size) (bo := w7.heap.size + 2) (hm8.ext e9) (e9.get hs8) hroot (by rcases hs9 with h | h; exact .inr h; subst h; exact .inl (e9.get ha8)) hb4 hbp (by omega) (e9.get y2) (e9.get y5) (e9.get hS.h7) (e9.get hS.h8) (hS.want.frame e9 fun r _ _ hq => hq) ⟨es, ck, ft, e9.get q1, q2⟩
          (fun f hf => by have := hsok.want f hf; omega) (by omega) hfin haF hsF hsa fun y10 F10 e10 i1 i2 hm10 ha10 htm10 => ?_
        have hr := takeAll_tabs (root := root) hb4 hbp st.2.2 (M, taken, st.2.1) (by simp only; omega) hsok.tabs
        have htk := takeAll_taken (root := root) (base := base) st.2.2 (M, taken, st.2.1)
        have hres : mapR M n root base pages taken sl l = (0, layAll (takeAll root base st.2.2 (M, taken, st.2.1)).2.2 (pgs l) (takeAll root base st.2.2 (M, taken, st.2.1)).1, (takeAll root base st.2.2 (M, taken, st.2.1)).2.1) := by
          simp only [mapR, scan0]
          rw [if_neg (fun h => h hok), hsc]
          simp only
          rw [if_neg hx1, if_neg (by omega)]
        rw [hres] at hK
        have ha10' : y10.heap[a]? = some (arenaO m base pages (takeAll root base st.2.2 (M, taken, st.2.1)).2.1 sl) := by
          rcases hs9 with h | h
          · rw [h]
            exact e10.get (by rw [h]; rintro (hq | hq | hq); exact haF hq; exact hq.2 rfl; omega) (e9.get ha8)
          · subst h; exact ha10 (e9.get ha8)
        generalize takeAll root base st.2.2 (M, taken, st.2.1) = T at *
        have n10 : ∀ r, w.heap.size ≤ r → r ≠ w4.heap.size → ¬ (F r ∨ (r = a ∧ st.2.2 ≠ []) ∨ r = w4.heap.size) := fun r h1 h2 hq => by
          rcases hq with hq | hq | hq
          · have := hfin _ hq; omega
          · omega
          · exact h2 hq
        have s8' := e08.size
        have s9' := e9.size
        have yD10 := e10.get (n10 _ (by omega) (by omega)) yD9
        have y410 := e10.get (n10 _ (by omega) (by omega)) (e9.get y4)
        have y510 := e10.get (n10 _ (by omega) (by omega)) (e9.get y5)
        have y710 := e10.get (n10 _ (by omega) (by omega)) (e9.get hS.h7)
        have s10' := e10.size
        have F10n : ∀ r, F10 r → F r ∨ w7.heap.size + 2 ≤ r := fun r hr => by
          rcases i1 r hr with hq | hq
          · exact .inl hq
          · exact .inr (by omega)
        have e010 : Fr (fun r => F r ∨ r = a) w y10 := (Fr.of_ext e09).trans' e10 fun r hr hlt => by
          rcases hr with hq | hq | hq
          · exact .inl hq
          · exact .inr hq.1
          · omega
        have hl10 : RgAt y10 v l := (hl.keep (Keep60.ext e09)).frame e10 fun g o n c hx hq => by
          have := hg g o n c hx
          rcases hq with hq | hq | hq
          · exact this.1 hq
          · exact this.2.2 hq.1
          · omega
        unfold R22_10 S22_s10
        refine x_callF (pages_rf hv1 ?_)
        generalize hw11 : World.alloc _ _ = y11
        have e11 : Ext y10 y11 := by rw [← hw11]; exact (Fr.refl _ y10).alloc _
        have hb11 : y11.heap[y10.heap.size]? = some (.cells #[v] 57 (0, 0)) := by rw [← hw11]; exact blk_alloc_new
        have s11 : y11.heap.size = y10.heap.size + 1 := by rw [← hw11]; simp only [size_alloc]
        clear hw11
        obtain ⟨et, ct, ft', t1, t2⟩ := htm10
        unfold R22_11
        have nF10 : ∀ r, w.heap.size ≤ r → r < w7.heap.size + 2 → ¬ F10 r := fun r h1 h2 h3 => by
          rcases F10n r h3 with hq | hq
          · have := hfin _ hq; omega
          · omega
        refine f11_c (m := m) (n := n) (tabs := T.2.2) (tm := w4.heap.size) (hm10.ext e11) hr (hl10.keep (Keep60.ext e11)) hrk hok hlen hb11 (e11.get y510) (e11.get y710) ⟨et, ct, ft', e11.get t1, t2⟩
          ⟨nF10 _ (by omega) (by omega), nF10 _ (by omega) (by omega), nF10 _ (by omega) (by omega)⟩ (fun g o n c hx => ?_) fun y12 F12 e12 k1 k2 hm12 yD12 => ?_
        · have := hg g o n c hx
          exact ⟨fun hq => by rcases F10n g hq with hq | hq; exact this.1 hq; omega, by omega⟩
        · unfold R22_12 S22_s12
          have y412 := e12.get (nF10 _ (by omega) (by omega)) (e11.get y410)
          have yD12' := e12.get (nF10 _ (by omega) (by omega)) (e11.get yD10)
          with_reducible refine x_store1 ‹_› oneI set_0 ?_
          generalize hw13 : setBlk y12 _ _ = y13
          have e13 : Fr (fun r => r = w.heap.size + 1) y12 y13 := by rw [← hw13]; exact Fr.set1 (Fr.refl _ _)
          have y413 : y13.heap[w.heap.size + 1]? = some (.cells #[.int .i64 0] 53 (0, 0)) := by rw [← hw13]; exact blk_set_same (lt_of_blk y412)
          clear hw13
          unfold R22_13 XM
          have yD13 := e13.get (by omega) yD12
          refine ⟨yD13, ?_⟩
          unfold XM
          generalize hw14 : setBlk y13 _ _ = y14
          have e14 : Fr (fun r => r = y11.heap.size) y13 y14 := by rw [← hw14]; exact Fr.set1 (Fr.refl _ _)
          clear hw14
          refine ⟨e14.get (by omega) (e13.get (by omega) yD12'), ?_⟩
          unfold XM
          generalize hw15 : setBlk y14 _ _ = y15
          have e15 : Fr (fun r => r = w7.heap.size) y14 y15 := by rw [← hw15]; exact Fr.set1 (Fr.refl _ _)
          clear hw15
          have y415 := e15.get (by omega) (e14.get (by omega) y413)
          refine xres_1 (rv_load1 y415 at_0) ?_
          have F12n : ∀ r, F12 r → F r ∨ w7.heap.size + 2 ≤ r := fun r hr => by
            rcases k1 r hr with hq | hq
            · exact F10n r hq
            · exact .inr (by omega)
          have e1215 : Fr (fun r => r = w.heap.size + 1 ∨ r = y11.heap.size ∨ r = w7.heap.size) y12 y15 := ((e13.mono fun r _ hr => .inl hr).trans (e14.mono fun r _ hr => .inr (.inl hr))).trans (e15.mono fun r _ hr => .inr (.inr hr))
          have e012 : Fr (fun r => F r ∨ r = a) w y12 := (e010.trans (Fr.of_ext e11)).trans' e12 fun r hr hlt => by
            rcases F10n r hr with hq | hq
            · exact .inl hq
            · omega
          refine hK y15 F12 (e012.trans' e1215 fun r hr hlt => by omega) (fun r hr => ?_) (fun r hr => k2 r (i2 r hr)) (hm12.frame e1215 fun r hr he => ?_) ?_
          · rcases F12n r hr with hq | hq
            · exact .inl hq
            · exact .inr (by omega)
          · rcases k1 r hr with hq | hq
            · rcases F10n r hq with hq' | hq'
              · have := hfin _ hq'; omega
              · have : r < y10.heap.size := by obtain ⟨mb, f, h⟩ := hm10; exact h.fin r hq
                omega
            · omega
          · refine e1215.get (by omega) (e12.get (fun hq => ?_) (e11.get ha10'))
            rcases F10n a hq with hq | hq
            · exact haF hq
            · omega
      · -- refused by the arena
        have hres : mapR M n root base pages taken sl l = (e, M, taken) := by
          simp only [mapR, scan0]
          rw [if_neg (fun h => h hok), hsc]
          simp only
          rcases he with ⟨h1, h2, rfl⟩ | ⟨h1, h2, rfl⟩
          · rw [if_pos ⟨h1, h2⟩]
          · rw [if_neg h1, if_pos h2]
        rw [hres] at hK
        have yD9 := e9.get (by omega) yD
        unfold XM
        refine ⟨yD9, ?_⟩
        unfold XM
        generalize hw14 : setBlk y9 _ _ = y14
        have e14 : Fr (fun r => r = w7.heap.size) y9 y14 := by rw [← hw14]; exact Fr.set1 (Fr.refl _ _)
        clear hw14
        have y414 := e14.get (by omega) y94
        refine xres_1 (rv_load1 y414 at_0) ?_
        have e814 : Fr (fun r => r = w.heap.size + 1 ∨ r = w7.heap.size) y8 y14 := (e9.mono fun r _ hr => .inl hr).trans (e14.mono fun r _ hr => .inr hr)
        have e014 : Ext w y14 := e08.trans' e814 fun r hr hlt => by omega
        exact hK y14 F (Fr.of_ext e014) (fun r hr => .inl hr) (fun r hr => hr) (hm.ext e014) (e014.get ha)
    · -- refused by the first pass
      have hres : mapR M n root base pages taken sl l = (71, M, taken) := by
        simp only [mapR, scan0]
        rw [if_neg (fun h => h hok), hsc]
      rw [hres] at hK
      unfold XM
      refine ⟨yD, ?_⟩
      unfold XM
      generalize hw14 : setBlk y8 _ _ = y14
      have e14 : Fr (fun r => r = w7.heap.size) y8 y14 := by rw [← hw14]; exact Fr.set1 (Fr.refl _ _)
      clear hw14
      have y414 := e14.get (by omega) y4
      refine xres_1 (rv_load1 y414 at_0) ?_
      have e014 : Ext w y14 := e08.trans' e14 fun r hr hlt => by omega
      exact hK y14 F (Fr.of_ext e014) (fun r hr => .inl hr) (fun r hr => hr) (hm.ext e014) (e014.get ha)
end Go.Eng
namespace Go.Eng
open Go.Proofs Go.MapKept
variable {w : World} {K : Value → World → Prop} {E : List PanicEntry → World → Prop}
def pickR (c : Int) (n : Nat) : Nat := (if c < 0 then -(c + 1) else c).toNat % n
theorem pickR_lt {c : Int} {n : Nat} (h : 0 < n) : pickR c n < n := Nat.mod_lt _ h
theorem pick_c {c : Int} {n : Nat} (hc : -9223372036854775808 ≤ c ∧ c ≤ 9223372036854775807) (hn : 0 < n ∧ n ≤ 1000000) (h : K (.int .i64 (pickR c n : Nat)) w) : C P 9 #[.int .i64 c, .int .i64 n] w K E := by
  have key : ∀ x : Int, 0 ≤ x → x ≤ 9223372036854775807 → pickR c n = x.toNat % n → S9_j3 (.int .i64 x) (.int .i64 n) w K E := fun x h0 h1 he => by
    unfold S9_j3
    refine x_remN (by omega) (by omega) ?_
    rw [he] at h
    have : ((x.toNat % n : Nat) : Int) = x % (n : Int) := by rw [Int.natCast_emod, Int.toNat_of_nonneg h0]
    rw [this] at h
    exact h
  apply F9
  unfold S9_0
  refine x_lss (fun hc => ?_) (fun hc => ?_)
  with_reducible refine Cnd.yes ?_; refine x_addN (by rw [IntKind.wrap_i64]; omega) ?_
  rotate_left
  with_reducible refine Cnd.no ?_
  rotate_left
  · refine .run r_neg ?_
    rw [show IntKind.i64.wrap (0 - (c + 1)) = -(c + 1) by rw [IntKind.wrap_i64]; omega]
    exact key _ (by omega) (by omega) (by unfold pickR; rw [if_pos (by omega)])
  · exact key c (by omega) (by omega) (by unfold pickR; rw [if_neg (by omega)])
theorem shape_c {a b : Int} (ha : -9223372036854775808 ≤ a ∧ a ≤ 9223372036854775807) (hb : -9223372036854775808 ≤ b ∧ b ≤ 9223372036854775807)
   (h : ∀ w', Ext w w' → K (.agg #[.int .i64 (2 ^ pickR a 4 : Nat), .int .i64 (1 + pickR b 3 : Nat), .int .i64 (2 ^ 4 : Nat)]) w') : C P 8 #[.int .i64 a, .int .i64 b] w K E := by
  have h4 := pickR_lt (c := a) (n := 4) (by omega)
  have h3 := pickR_lt (c := b) (n := 3) (by omega)
  have hlt : 2 ^ pickR a 4 < 16 := by
    have : 2 ^ pickR a 4 < 2 ^ 4 := Nat.pow_lt_pow_right (by omega) h4
    simpa using this
  have hp : ((1 : Int) * 2 ^ pickR a 4) = ((2 ^ pickR a 4 : Nat) : Int) := by push_cast; rw [Int.one_mul]
  have hshl : ∀ (w : World) (K : Value → World → Prop) (E : List PanicEntry → World → Prop), K (.int .i64 (2 ^ pickR a 4 : Nat)) w → X P (.bin .shl 3 true false (.int .i64 1) (.int .i64 (pickR a 4 : Nat))) 3 w K E := fun w K E hk => by
    refine x_shl (by omega) (by simp only [IntKind.bits]; omega) ?_
    rw [Int.toNat_natCast, hp]
    generalize 2 ^ pickR a 4 = A at *
    rw [show IntKind.i64.wrap ((A : Nat) : Int) = ((A : Nat) : Int) by rw [IntKind.wrap_i64]; omega]
    exact hk
  generalize 2 ^ pickR a 4 = A at *
  apply F8
  unfold S8_0
  with_reducible refine x_alloc ?_
  generalize hw1 : World.alloc _ _ = w1
  have e1 : Ext w w1 := by rw [← hw1]; exact (Fr.refl _ w).alloc _
  have b1 : ∃ o, w1.heap[w.heap.size]? = some (.cells o 28 (0, 0)) ∧ o.size = 3 := by rw [← hw1]; exact ⟨_, blk_alloc_new, rfl⟩
  clear hw1
  obtain ⟨o, b1, ho⟩ := b1
  refine x_callF (pick_c ha (n := 4) (by omega) ?_)
  refine XQ.of rfl (hshl _ _ _ (qstep ?_))
  refine x_callF (pick_c hb (n := 3) (by omega) ?_)
  refine ⟨XQ.of rfl (hshl _ _ _ (qstep rfl)), ?_⟩
  with_reducible refine XQ.of rfl ?_; refine x_addN (by rw [IntKind.wrap_i64]; omega) ?_; refine qstep ?_; refine XQ.of rfl ?_; refine x_buildS (by apply fill_1; exact inferInstance; exact oneI; exact set_0; apply fill_1; exact inferInstance; exact oneI; apply set_S; exact set_0; rotate_left; apply fill_1; exact inferInstance; exact oneI; apply set_S; apply set_S; exact set_0; rotate_left; rotate_left; exact fill_nil; rotate_left; rotate_left; rotate_left; rotate_left; rotate_left; rotate_left) ?_; refine qstep ?_
  refine x_storeW b1 rfl (by simp [Value.oneCell']) ho ?_
  refine xres_1 (rv_loadA (by exact blk_set_same (by exact lt_of_blk ‹_›)) (sub_cons (sub_cons (sub_cons sub_nil)))) ?_
  rw [show (1 : Int) + (pickR b 3 : Int) = ((1 + pickR b 3 : Nat) : Int) by omega]
  exact h _ ((e1.drw).set (fun h => by omega) _)
theorem x_bs_w {t e : TypeId} {len : Nat} {by' : Nat} {z : Array Value} {ty : TypeId} {l : List Value} {ps : List (Nat × Value)} [hu : UT P t (.slice e)] [hs : EL P e 1 by' z] (h0 : 0 < len) (hlen : len ≤ 2 ^ 20) {z' : Array Value} (hz : (Array.range (len * 1)).map (z[· % z.size]!) = z') (hf : Fill (fun i off n => off = i * 1 ∧ n = 1) z' ps l.toArray)
   (h : K (.slice (some ⟨w.heap.size, 0, none⟩) len len) (w.alloc (.cells l.toArray e (0, 0)))) : X P (.buildSlice t len (List.toArray ps)) ty w K E :=
  x_buildSlice (sz := 1) (by omega) h0 hz hf h
def permL : List Nat := [1, 3, 4, 5, 7]
def permR (n : Int) : Nat := permL.getD (pickR n 5) 0
theorem perms_c {n : Int} (hn : -9223372036854775808 ≤ n ∧ n ≤ 9223372036854775807) (h : ∀ w', Ext w w' → K (.int .u8 (permR n : Nat)) w') : C P 18 #[.int .i64 n] w K E := by
  have h5 := pickR_lt (c := n) (n := 5) (by omega)
  apply F18
  unfold S18_0
  refine x_bs_w (l := [.int .u8 1, .int .u8 3, .int .u8 4, .int .u8 5, .int .u8 7]) (by omega) (by omega) (z' := #[.int .u8 0, .int .u8 0, .int .u8 0, .int .u8 0, .int .u8 0]) (by kernel_rfl) (by apply fill_1; exact ⟨rfl, rfl⟩; exact oneI; exact set_0; apply fill_1; exact ⟨rfl, rfl⟩; exact oneI; apply set_S; exact set_0; rotate_left; apply fill_1; exact ⟨rfl, rfl⟩; exact oneI; apply set_S; apply set_S; exact set_0; rotate_left; rotate_left; apply fill_1; exact ⟨rfl, rfl⟩; exact oneI; apply set_S; apply set_S; apply set_S; exact set_0; rotate_left; rotate_left; rotate_left; apply fill_1; exact ⟨rfl, rfl⟩; exact oneI; apply set_S; apply set_S; apply set_S; apply set_S; exact set_0; rotate_left; rotate_left; rotate_left; rotate_left; exact fill_nil; rotate_left; rotate_left; rotate_left; rotate_left; rotate_left; rotate_left; rotate_left; rotate_left; rotate_left; rotate_left) ?_
  generalize hw1 : World.alloc _ _ = w1
  have e1 : Ext w w1 := by rw [← hw1]; exact (Fr.refl _ w).alloc _
  have b1 : w1.heap[w.heap.size]? = some (.cells #[.int .u8 1, .int .u8 3, .int .u8 4, .int .u8 5, .int .u8 7] 58 (0, 0)) := by rw [← hw1]; exact blk_alloc_new
  clear hw1
  with_reducible refine x_lenS ?_
  refine x_callF (pick_c (n := 5) hn (by omega) ?_)
  refine x_idxS (by omega) ?_
  refine x_load1 (v := .int .u8 (permR n : Nat)) b1 ?_ (h w1 e1)
  unfold permR permL
  generalize pickR n 5 = i at *
  have : i = 0 ∨ i = 1 ∨ i = 2 ∨ i = 3 ∨ i = 4 := by omega
  rcases this with rfl | rfl | rfl | rfl | rfl <;> rfl
structure DoV where
  kind : Int
  cell : Int
  page : Int
  off : Int
  size : Int
  v : Nat
def i64 (n : Int) : Prop := -9223372036854775808 ≤ n ∧ n ≤ 9223372036854775807
structure DoV.Ok (d : DoV) : Prop where
  kind : i64 d.kind
  cell : i64 d.cell
  page : i64 d.page
  off : i64 d.off
  size : i64 d.size
  v : d.v < 4294967296
def DoV.val (d : DoV) : List Value := [.int .i64 d.kind, .int .i64 d.cell, .int .i64 d.page, .int .i64 d.off, .int .i64 d.size, .int .u32 d.v]
def vaR (k : Nat) : Nat := if 15 ≤ k then 4096 * k + 4194304 else 4096 * k
def DoV.at_ (d : DoV) : Nat := vaR (pickR d.page 33) + pickR d.off 4096
def sizeL : List Nat := [1, 2, 4]
def DoV.sz (d : DoV) : Nat := sizeL.getD (pickR d.size 3) 0
theorem at_c {d : DoV} (hd : d.Ok) (h : ∀ w', Ext w w' → K (.int .u32 (d.at_ : Nat)) w') : C P 13 #[.agg d.val.toArray] w K E := by
  have h33 := pickR_lt (c := d.page) (n := 33) (by omega)
  have h40 := pickR_lt (c := d.off) (n := 4096) (by omega)
  have fin : ∀ (x b1 : Nat) w1, Ext w w1 → w1.heap[b1]? = some (.cells d.val.toArray 40 (0, 0)) → x = vaR (pickR d.page 33) → S13_j4 (ptr b1) (.int .u32 x) w1 K E := fun x b1 w1 e1 hb hx => by
    unfold S13_j4
    unfold DoV.val at hb
    have hx2 : x ≤ 4096 * 33 + 4194304 := by rw [hx]; unfold vaR; split <;> omega
    with_reducible refine x_field0 ?_; refine x_load1 ‹_› (at_S at_2) ?_
    refine x_callF (pick_c (n := 4096) hd.off (by omega) ?_)
    with_reducible refine x_convN (by rw [IntKind.wrap_u32]; omega) ?_; refine x_addN (by rw [IntKind.wrap_u32]; omega) ?_
    have := h w1 e1
    unfold DoV.at_ at this
    rw [← hx] at this
    exact this
  apply F13
  unfold S13_0
  refine x_boxA ?_
  generalize hw1 : World.alloc _ _ = w1
  have e1 : Ext w w1 := by rw [← hw1]; exact (Fr.refl _ w).alloc _
  have b1 : w1.heap[w.heap.size]? = some (.cells d.val.toArray 40 (0, 0)) := by rw [← hw1]; exact blk_alloc_new
  clear hw1
  have b1' := b1
  unfold DoV.val at b1'
  with_reducible refine x_field0 ?_; refine x_load1 ‹_› at_2 ?_
  refine x_callF (pick_c (n := 33) hd.page (by omega) ?_)
  with_reducible refine x_convN (by rw [IntKind.wrap_u32]; omega) ?_; refine x_mulN (by rw [IntKind.wrap_u32]; omega) ?_
  refine x_geq (fun hc => ?_) (fun hc => ?_)
  with_reducible refine Cnd.yes ?_; refine x_addN (by rw [IntKind.wrap_u32]; omega) ?_
  rotate_left
  with_reducible refine Cnd.no ?_
  rotate_left
  · rw [show (pickR d.page 33 : Int) * 4096 + 4194304 = ((4096 * pickR d.page 33 + 4194304 : Nat) : Int) by omega]
    exact fin _ _ w1 e1 b1 (by unfold vaR; rw [if_pos (by omega)])
  · rw [show (pickR d.page 33 : Int) * 4096 = ((4096 * pickR d.page 33 : Nat) : Int) by omega]
    exact fin _ _ w1 e1 b1 (by unfold vaR; rw [if_neg (by omega)])
theorem dsize_c {d : DoV} (hd : d.Ok) (h : ∀ w', Ext w w' → K (.int .i64 (d.sz : Nat)) w') : C P 25 #[.agg d.val.toArray] w K E := by
  have h3 := pickR_lt (c := d.size) (n := 3) (by omega)
  apply F25
  unfold S25_0
  refine x_boxA ?_
  generalize hw1 : World.alloc _ _ = w1
  have e1 : Ext w w1 := by rw [← hw1]; exact (Fr.refl _ w).alloc _
  have b1 : w1.heap[w.heap.size]? = some (.cells d.val.toArray 40 (0, 0)) := by rw [← hw1]; exact blk_alloc_new
  clear hw1
  unfold DoV.val at b1
  refine x_bs_w (l := [.int .i64 1, .int .i64 2, .int .i64 4]) (by omega) (by omega) (z' := #[.int .i64 0, .int .i64 0, .int .i64 0]) (by kernel_rfl) (by apply fill_1; exact ⟨rfl, rfl⟩; exact oneI; exact set_0; apply fill_1; exact ⟨rfl, rfl⟩; exact oneI; apply set_S; exact set_0; rotate_left; apply fill_1; exact ⟨rfl, rfl⟩; exact oneI; apply set_S; apply set_S; exact set_0; rotate_left; rotate_left; exact fill_nil; rotate_left; rotate_left; rotate_left; rotate_left; rotate_left; rotate_left) ?_
  generalize hw2 : World.alloc _ _ = w2
  have e2 : Ext w1 w2 := by rw [← hw2]; exact (Fr.refl _ w1).alloc _
  have b2 : w2.heap[w1.heap.size]? = some (.cells #[.int .i64 1, .int .i64 2, .int .i64 4] 3 (0, 0)) := by rw [← hw2]; exact blk_alloc_new
  clear hw2
  have b12 := e2.get b1
  with_reducible refine x_field0 ?_; refine x_load1 ‹_› (at_S (at_S at_2)) ?_
  refine x_callF (pick_c (n := 3) hd.size (by omega) ?_)
  refine x_idxS (by omega) ?_
  refine x_load1 (v := .int .i64 (d.sz : Nat)) b2 ?_ (h w2 (e1.trans e2))
  unfold DoV.sz sizeL
  generalize pickR d.size 3 = i at *
  have : i = 0 ∨ i = 1 ∨ i = 2 := by omega
  rcases this with rfl | rfl | rfl <;> rfl
end Go.Eng
namespace Go.Eng
open Go.Proofs Go.MapKept
variable {w : World} {K : Value → World → Prop} {E : List PanicEntry → World → Prop}
def foundR (l : List Rg) (at_ : Nat) : Option Rg := l.find? fun r => decide (at_ / 4096 = r.v / 4096)
def rgOf (o : Option Rg) : List Value := match o with | some r => rgV r | none => [.int .u32 0, .int .u32 0, .int .i64 0, .int .u8 0]
theorem found_c {v : Value} {l : List Rg} {at_ : Nat} (hl : RgAt w v l) (hlen : l.length ≤ 1000000) (hv : at_ < 4294967296) (hrk : ∀ r ∈ l, r.Ok)
   (h : ∀ w', Ext w w' → K (.tuple #[.agg (rgOf (foundR l at_)).toArray, .bool (foundR l at_).isSome]) w') : C P 61 #[v, .int .u32 at_] w K E := by
  obtain ⟨a, cap, rfl, hcap, hg⟩ := hl
  apply F61
  unfold S61_0
  with_reducible refine x_alloc ?_
  generalize hw1 : World.alloc _ _ = w1
  have e1 : Ext w w1 := by rw [← hw1]; exact (Fr.refl _ w).alloc _
  have b4 : w1.heap[w.heap.size]? = some (.cells #[.int .u32 0, .int .u32 0, .int .i64 0, .int .u8 0] 60 (0, 0)) := by rw [← hw1]; exact blk_alloc_new
  clear hw1
  unfold S61_l2
  refine ⟨fun v6 w' => ∃ j : Nat, v6 = .int .i64 j ∧ j ≤ l.length ∧ w1 = w' ∧ ∀ r ∈ l.take j, ¬ at_ / 4096 = r.v / 4096, fun v6 _ => match v6 with | .int _ j => l.length - j.toNat | _ => 0, ⟨0, rfl, by omega, rfl, by simp⟩, ?_⟩
  rintro _ w0 ⟨j, rfl, hj, hw0, hno⟩
  subst hw0
  unfold S61_b2
  with_reducible refine x_lenS ?_
  refine x_lss (fun hc => ?_) (fun hc => ?_)
  with_reducible refine Cnd.yes ?_; refine x_quoN (by omega) (by omega) (by rw [IntKind.wrap_u32]; omega) ?_
  rotate_left
  with_reducible refine Cnd.no ?_
  rotate_left
  · have hjl : j < l.length := by omega
    obtain ⟨g, o, c, rfl, hgb, hs⟩ := hg (fun h => by rw [h] at hjl; simp at hjl)
    have hsub := hs j hjl
    have hrv := (hrk _ (List.getElem_mem hjl)).v
    have hgb1 := e1.get hgb
    have hc0 : c[o + 4 * j + 0]? = some (.int .u32 (l[j].v : Nat)) := sub_at (j := 0) hsub (by omega) (v := .int .u32 (l[j].v : Nat)) (by unfold rgV; exact at_0)
    have htk : l.take (j + 1) = l.take j ++ [l[j]] := List.take_succ_eq_append_getElem hjl
    have hfr : (at_ / 4096 = l[j].v / 4096 → foundR l at_ = some l[j]) := fun he => by
      unfold foundR
      rw [List.find?_eq_some_iff_getElem]
      refine ⟨by simp [he], j, hjl, rfl, fun k hk => ?_⟩
      have := hno l[k] (List.mem_take_iff_getElem.2 ⟨k, by omega, rfl⟩)
      simpa using this
    generalize l[j] = r at *
    refine x_idxS (by omega) ?_
    rw [show o + (j : Int).toNat * 4 = o + 4 * j by omega]
    with_reducible refine x_field ?_; refine x_load1 ‹_› ‹_› ?_; refine x_quoN (by omega) (by omega) (by rw [IntKind.wrap_u32]; omega) ?_
    refine x_eql (fun hc => ?_) (fun hc => ?_)
    with_reducible refine Cnd.yes ?_
    rotate_left
    with_reducible refine Cnd.no ?_; refine x_addN (by rw [IntKind.wrap_i64]; omega) ?_
    rotate_left
    · have hfd := hfr (by omega)
      refine x_idxS (by omega) ?_
      rw [show o + (j : Int).toNat * 4 = o + 4 * j by omega]
      refine x_loadA hgb1 hsub ?_
      unfold rgV
      with_reducible refine x_storeA ‹_› rfl (by simp [Value.oneCell']) (lay_cons (lay_cons (lay_cons (lay_cons lay_nil)))) ?_
      refine xres_2 (rv_loadA (by exact blk_set_same (by exact lt_of_blk ‹_›)) (sub_cons (sub_cons (sub_cons (sub_cons sub_nil))))) rv_val ?_
      have := h _ (e1.set (S := fun _ => False) (r := w.heap.size) (fun h => by omega) (.cells #[.int .u32 r.v, .int .u32 r.p, .int .i64 r.n, .int .u8 r.perm] 60 (0, 0)))
      rw [hfd] at this
      exact this
    · refine ⟨⟨j + 1, by congr 1, by omega, rfl, fun r' hr' => ?_⟩, by simp only; omega⟩
      rw [htk] at hr'
      rcases List.mem_append.1 hr' with hr' | hr'
      · exact hno r' hr'
      · rw [List.mem_singleton.1 hr']; omega
  · unfold S61_j6
    have hfd : foundR l at_ = none := by
      unfold foundR
      rw [List.find?_eq_none]
      intro r hr
      have := hno r (by rwa [show l.take j = l from List.take_of_length_le (by omega)])
      simpa using this
    with_reducible refine x_buildS fill_nil ?_; refine x_storeW ‹_› rfl (by decide) rfl ?_
    refine xres_2 (rv_loadA (by exact blk_set_same (by exact lt_of_blk ‹_›)) (sub_cons (sub_cons (sub_cons (sub_cons sub_nil))))) rv_val ?_
    have := h _ (e1.set (S := fun _ => False) (r := w.heap.size) (fun h => by omega) (.cells #[.int .u32 0, .int .u32 0, .int .i64 0, .int .u8 0] 60 (0, 0)))
    rw [hfd] at this
    exact this
def wantR (l : List Rg) (at_ b : Nat) : Nat × Int := match foundR l at_ with
  | none => (0, 3)
  | some r => if r.perm &&& b = 0 then (0, 5) else (r.p + at_ % 4096, 0)
theorem want_c {v : Value} {l : List Rg} {at_ b : Nat} (hl : RgAt w v l) (hlen : l.length ≤ 1000000) (hv : at_ < 4294967296) (hrk : ∀ r ∈ l, r.Ok) (hp : ∀ r ∈ l, r.p ≤ 16777216) (hb : b < 256)
   (h : ∀ w', Ext w w' → K (.tuple #[.int .u32 (wantR l at_ b).1, .int .i64 (wantR l at_ b).2]) w') : C P 26 #[v, .int .u32 at_, .int .u8 b] w K E := by
  apply F26
  unfold S26_0
  refine x_callF (found_c hl hlen hv hrk fun w1 e1 => ?_)
  unfold wantR at h
  cases hf : foundR l at_ with
  | none =>
    rw [hf] at h
    unfold rgOf
    rw [show (none : Option Rg).isSome = false from rfl]
    with_reducible refine x_extract at_0 ?_; refine x_extract at_1 ?_; refine x_alloc ?_; refine x_storeW blk_alloc_new rfl (by decide) rfl ?_; refine x_notF ?_; refine Cnd.yes ?_
    exact h _ ((e1.alloc _).set (fun h => by have := e1.size; omega) _)
  | some r =>
    rw [hf] at h
    simp only at h
    have hrm : r ∈ l := List.mem_of_find?_eq_some hf
    have hrp := hp r hrm
    have hperm := (hrk r hrm).perm
    unfold rgOf rgV
    simp only
    rw [show (some r).isSome = true from rfl]
    with_reducible refine x_extract at_0 ?_; refine x_extract at_1 ?_; refine x_alloc ?_; refine x_storeA blk_alloc_new rfl (by simp [Value.oneCell']) (lay_cons (lay_cons (lay_cons (lay_cons lay_nil)))) ?_; refine x_notT ?_; refine Cnd.no ?_; refine x_field0 ?_; refine x_load1 (by exact blk_set_same lt_alloc_new) (at_S at_2) ?_
    generalize hw2 : setBlk _ _ _ = w2
    have e2 : Ext w1 w2 := by rw [← hw2]; exact ((Fr.refl _ w1).alloc _).set (fun h => by omega) _
    have b2 : w2.heap[w1.heap.size]? = some (.cells #[.int .u32 r.v, .int .u32 r.p, .int .i64 r.n, .int .u8 r.perm] 60 (0, 0)) := by rw [← hw2]; exact blk_set_same lt_alloc_new
    clear hw2
    have fin := h w2 (e1.trans e2)
    skip
    refine x_and8 (b' := b) (by omega) rfl (by omega) rfl ?_
    have hle : r.perm &&& b ≤ r.perm := Nat.and_le_left
    refine x_eql (fun hc => ?_) (fun hc => ?_)
    with_reducible refine Cnd.yes ?_
    rotate_left
    with_reducible refine Cnd.no ?_; refine x_field0 ?_; refine x_load1 ‹_› at_1 ?_; refine x_remN (by omega) (by omega) ?_; refine x_addN (by rw [IntKind.wrap_u32]; omega) ?_
    rotate_left
    · rw [if_pos (by omega)] at fin
      exact fin
    · rw [if_neg (by omega)] at fin
      rw [show (r.p : Int) + (at_ : Int) % 4096 = ((r.p + at_ % 4096 : Nat) : Int) by omega]
      exact fin
structure PlainAt (w : World) (p pb : Nat) (M : Nat → Nat) : Prop where
  hp : w.heap[p]? = some (.cells #[.slice (some ⟨pb, 0, none⟩) 131072 131072] 36 (0, 0))
  hb : w.heap[pb]? = some (.cells (bytes M 0 131072).toArray 5 (0, 0))
theorem PlainAt.frame {w' : World} {p pb : Nat} {M : Nat → Nat} {S : Nat → Prop} (h : PlainAt w p pb M) (hf : Fr S w w') (h1 : ¬ S p) (h2 : ¬ S pb) : PlainAt w' p pb M := ⟨hf.get h1 h.hp, hf.get h2 h.hb⟩
theorem pword_c {p pb at_ s : Nat} {M : Nat → Nat} (h : PlainAt w p pb M) (hM : ∀ x, M x < 256) (hs : s ≤ 4) (hin : at_ + s ≤ 131072)
   (hK : K (.int .u32 (ldv M at_ s : Nat)) w) : C P 28 #[ptr p, .int .u32 at_, .int .i64 s] w K E := by
  have hp := h.hp
  have hb := h.hb
  apply F28
  unfold S28_0 S28_l3
  refine ⟨fun v7 v8 w' => ∃ j : Nat, v7 = .int .u32 (ldv M at_ j : Nat) ∧ v8 = .int .i64 j ∧ j ≤ s ∧ w = w', fun _ v8 _ => match v8 with | .int _ j => s - j.toNat | _ => 0, ⟨0, rfl, rfl, by omega, rfl⟩, ?_⟩
  rintro _ _ w0 ⟨j, rfl, rfl, hj, hw0⟩
  subst hw0
  have hlt1 := ldv_lt hM at_ (j + 1)
  unfold S28_b3
  refine x_lss (fun hc => ?_) (fun hc => ?_)
  with_reducible refine Cnd.yes ?_; refine x_nil ?_; refine x_field0 ?_; refine x_load1 ‹_› at_0 ?_; refine x_convN (by rw [IntKind.wrap_i64]; omega) ?_; refine x_addN (by rw [IntKind.wrap_i64]; omega) ?_
  rotate_left
  with_reducible refine Cnd.no ?_
  rotate_left
  · have hjs : j < s := by omega
    have hMj := hM (at_ + j)
    have hpw : 2 ^ (8 * (j + 1)) ≤ 4294967296 := by
      have : 2 ^ (8 * (j + 1)) ≤ 2 ^ 32 := Nat.pow_le_pow_right (by omega) (by omega)
      simpa using this
    simp only [ldv] at hlt1
    rw [show (at_ : Int) + (j : Int) = ((at_ + j : Nat) : Int) by omega]
    refine x_idxS (by omega) ?_
    refine x_load1 (v := .int .u8 (M (at_ + j) : Nat)) hb ?_ ?_
    · have := bytes_get (M := M) (a := 0) (n := 131072) (i := at_ + j) (by omega)
      rw [List.getElem?_toArray, show 0 + ((at_ + j : Nat) : Int).toNat * 1 = at_ + j by omega, this, Nat.zero_add]
    with_reducible refine x_convN (by rw [IntKind.wrap_u32]; omega) ?_; refine x_mulN (by rw [IntKind.wrap_i64]; omega) ?_
    refine x_shlN' (s := 8 * j) (by omega) (by omega) (by omega) ?_
    with_reducible refine x_addN (by rw [IntKind.wrap_u32]; omega) ?_; refine x_addN (by rw [IntKind.wrap_i64]; omega) ?_
    refine ⟨⟨j + 1, ?_, by congr 1, by omega, rfl⟩, by simp only; omega⟩
    simp only [ldv]
    congr 1
  · unfold S28_j6
    rwa [show s = j by omega] at hK
theorem pput_c {p pb at_ s v : Nat} {M : Nat → Nat} (h : PlainAt w p pb M) (hs : s ≤ 4) (hin : at_ + s ≤ 131072) (hv : v < 4294967296)
   (hK : ∀ w', Fr (fun r => r = pb) w w' → PlainAt w' p pb (put M at_ ((stb v).take s)) → K (.tuple #[]) w') : C P 29 #[ptr p, .int .u32 at_, .int .i64 s, .int .u32 v] w K E := by
  have hpp : p ≠ pb := ne_blk h.hp h.hb (by simp)
  apply F29
  unfold S29_0 S29_l1
  refine ⟨fun v8 w' => ∃ j : Nat, v8 = .int .i64 j ∧ j ≤ s ∧ Fr (fun r => r = pb) w w' ∧ PlainAt w' p pb (put M at_ ((stb v).take j)), fun v8 _ => match v8 with | .int _ j => s - j.toNat | _ => 0, ⟨0, rfl, by omega, Fr.refl _ _, by rw [List.take_zero, put_nil]; exact h⟩, ?_⟩
  rintro _ w1 ⟨j, rfl, hj, e1, h1⟩
  have hp1 := h1.hp
  have hb1 := h1.hb
  unfold S29_b1
  refine x_lss (fun hc => ?_) (fun hc => ?_)
  with_reducible refine Cnd.yes ?_; refine XQ.of rfl ?_; refine x_nil ?_; refine qstep ?_; refine XQ.of rfl ?_; refine x_field0 ?_; refine qstep ?_; refine XQ.of rfl ?_; refine x_load1 ‹_› at_0 ?_; refine qstep ?_; refine XQ.of rfl ?_; refine x_convN (by rw [IntKind.wrap_i64]; omega) ?_; refine qstep ?_; refine XQ.of rfl ?_; refine x_addN (by rw [IntKind.wrap_i64]; omega) ?_; refine qstep ?_; refine XQ.of rfl ?_; refine x_mulN (by rw [IntKind.wrap_i64]; omega) ?_; refine qstep ?_; refine XQ.of rfl ?_
  rotate_left
  with_reducible refine Cnd.no ?_
  rotate_left
  · have hjs : j < s := by omega
    have hpw : 2 ^ (8 * j) ≤ 2 ^ 24 := Nat.pow_le_pow_right (by omega) (by omega)
    skip
    rw [show (8 : Int) * (j : Int) = ((8 * j : Nat) : Int) by omega]
    refine x_shrN (s := 8 * j) (by simp only [IntKind.bits]; omega) (qstep ?_)
    refine XQ.of rfl (x_conv (qstep ?_))
    rw [show IntKind.u8.wrap ((v / 2 ^ (8 * j) : Nat) : Int) = ((v / 2 ^ (8 * j) % 256 : Nat) : Int) by rw [IntKind.wrap_u8]; omega]
    rw [show (at_ : Int) + (j : Int) = ((at_ + j : Nat) : Int) by omega]
    refine XQ.of rfl (x_idxS (by omega) (qstep ?_))
    have hsz : (bytes (put M at_ ((stb v).take j)) 0 131072).toArray.size = 131072 := by simp [bytes_len]
    refine x_store1 (w := drw w1) hb1 oneI (set_any (by rw [hsz]; omega)) ?_
    rw [show 0 + ((at_ + j : Nat) : Int).toNat * 1 = at_ + j by omega]
    generalize hw2 : setBlk _ _ _ = w2
    have e2 : Fr (fun r => r = pb) w1 w2 := by rw [← hw2]; exact Fr.set1 ((Fr.refl _ w1).drw)
    have hb2 : w2.heap[pb]? = some (.cells ((bytes (put M at_ ((stb v).take j)) 0 131072).toArray.setIfInBounds (at_ + j) (.int .u8 (v / 2 ^ (8 * j) % 256 : Nat))) 5 (0, 0)) := by rw [← hw2]; exact blk_set_same (w := drw w1) (lt_of_blk hb1)
    clear hw2
    with_reducible refine x_addN (by rw [IntKind.wrap_i64]; omega) ?_
    refine ⟨⟨j + 1, by congr 1, by omega, e1.trans e2, ⟨e2.get hpp hp1, ?_⟩⟩, by simp only; omega⟩
    rw [hb2]
    refine congrArg (fun c => some (Obj.cells c 5 (0, 0))) (Array.ext' ?_)
    have hst : (stb v).take (j + 1) = (stb v).take j ++ [v / 2 ^ (8 * j) % 256] := by
      have : j = 0 ∨ j = 1 ∨ j = 2 ∨ j = 3 := by omega
      rcases this with rfl | rfl | rfl | rfl <;> simp [stb]
    have hlj : ((stb v).take j).length = j := by rw [List.length_take]; simp [stb]; omega
    have hpp' : put M at_ ((stb v).take (j + 1)) = put (put M at_ ((stb v).take j)) (at_ + j) [v / 2 ^ (8 * j) % 256] := by
      rw [hst]
      conv => rhs; rw [show at_ + j = at_ + ((stb v).take j).length by rw [hlj]]
      rw [put_put]
    have hbp := bytes_put (M := put M at_ ((stb v).take j)) (a0 := 0) (n := 131072) (a := at_ + j) (l := [v / 2 ^ (8 * j) % 256]) (by omega) (by simp; omega)
    rw [hpp', hbp]
    generalize put M at_ ((stb v).take j) = M' at *
    simp only [Array.toList_setIfInBounds, List.toList_toArray]
    rw [List.set_eq_take_append_cons_drop]
    rw [if_pos (by rw [bytes_len]; omega)]
    simp [u8s]
  · have hq := hK w1 e1
    rw [show s = j by omega] at hq
    exact hq h1
end Go.Eng
namespace Go.Eng
open Go.Proofs Go.MapKept
variable {w : World} {K : Value → World → Prop} {E : List PanicEntry → World → Prop}
def ms0 (n slots la ways : Nat) : MS := { n := n, M := fun _ => 0, slots := slots, now := 0, L := [], la := la, lb := 4, ways := ways, S := fun _ => [] }
abbrev setO (m c t u : Nat) : Obj := .cells #[ptr m, ptr c, ptr t, ptr u] 46 (0, 0)
theorem set_c {n slots la ways : Nat} (hg : Glob w) (hn : 1 ≤ n ∧ n ≤ 4096) (hs : 1 ≤ slots ∧ slots ≤ 64) (hla : la ≤ 8) (hw : 1 ≤ ways ∧ ways ≤ 8)
   (h : ∀ w' x u m c t tb rb FM, Ext w w' → w.heap.size ≤ x → w.heap.size ≤ u → w.heap.size ≤ m → w.heap.size ≤ c → w.heap.size ≤ t → w.heap.size ≤ tb → w.heap.size ≤ rb → (∀ r, FM r → w.heap.size ≤ r) → ¬ FM x → x ≠ c ∧ x ≠ t ∧ x ≠ tb ∧ x ≠ rb → w'.heap[x]? = some (setO m c t u) →
     Mm w' u m c t tb rb (ms0 n slots la ways) (fun _ => none) FM → K (ptr x) w') :
   C P 19 #[.int .i64 n, .agg #[.int .i64 (2 ^ la : Nat), .int .i64 ways, .int .i64 (2 ^ 4 : Nat)], .int .i64 slots] w K E := by
  apply F19
  unfold S19_0
  refine x_boxA ?_
  generalize hw1 : World.alloc _ _ = w1
  have e1 : Ext w w1 := by rw [← hw1]; exact (Fr.refl _ w).alloc _
  have b4 : w1.heap[w.heap.size]? = some (.cells #[.int .i64 (2 ^ la : Nat), .int .i64 ways, .int .i64 (2 ^ 4 : Nat)] 28 (0, 0)) := by rw [← hw1]; exact blk_alloc_new
  clear hw1
  have s1 := e1.size
  refine x_callF (newMem_c (n := n) (by omega) (fun hx => by omega) fun N w2 m FM hN _ _ e2 hfm hm hFm => ?_)
  obtain rfl : n = N := by omega
  have b42 := e2.get b4
  have s2 := e2.size
  have hmlt := hm.lt
  have hmfin : ∀ r, FM r → r < w2.heap.size := by obtain ⟨mb, f, h⟩ := hm; exact h.fin
  with_reducible refine x_extract at_0 ?_; refine x_extract at_1 ?_; refine x_loadA ‹_› (sub_cons (sub_cons (sub_cons sub_nil))) ?_
  refine x_callF (cacheNew_c (la := la) (lb := 4) (ways := ways) (by omega) fun w3 c e3 hc1 hc2 hca => ?_)
  have s3 := e3.size
  with_reducible refine x_extract at_0 ?_; refine x_extract at_1 ?_
  refine x_callF (TlbNew_c (n := slots) (by omega) (fun hx => by omega) fun N w4 t FT hN _ _ e4 hft htl hFt => ?_)
  obtain rfl : slots = N := by omega
  obtain ⟨tb, htl, hFt', hFtb, hftfin⟩ := htl
  have s4 := e4.size
  have ht := hft _ hFt
  have htb := hft _ hFtb
  have hg4 := hg.fr (((e1.trans e2).trans e3).trans e4) id
  have lg : 1 < w.heap.size := by obtain ⟨T, fz, hg⟩ := hg; exact lt_of_blk hg
  have hca4 := hca.frame e4 id
  have hm4 := hm.ext (e3.trans e4)
  have htne : t ≠ tb := by
    obtain ⟨es, ck, f, k1, _⟩ := htl.map
    exact ne_blk htl.blk k1 (by simp)
  have hsys : Sys w4 m c t tb (ms0 n slots la ways) FM := ⟨hm4, htl, hca4, hg4, by simp [ms0], ⟨fun hq => by have := hmfin _ hq; omega, fun hq => by have := hmfin _ hq; omega, fun hq => by have := hmfin _ hq; omega, fun hq => by have := hfm _ hq; omega⟩, by omega⟩
  with_reducible refine x_extract at_0 ?_; refine x_extract at_1 ?_
  refine x_neq (fun hc => by omega) (fun hc => ?_)
  with_reducible refine XG.yes ?_; refine x_val ?_; refine XG.yes ?_
  refine x_neq (fun hc => by omega) (fun hc => ?_)
  with_reducible refine x_pickF ?_; refine XG.yes ?_; refine x_val ?_; refine XG.yes ?_
  refine x_neq (fun hc => by omega) (fun hc => ?_)
  with_reducible refine x_pickF ?_; refine XG.yes ?_; refine x_val ?_; refine XG.yes ?_; refine x_eqlP ?_; refine x_pickF ?_; refine XG.yes ?_; refine x_val ?_; refine XG.yes ?_; refine x_eqlP ?_; refine x_pickF ?_; refine XG.yes ?_; refine x_val ?_; refine XG.yes ?_; refine x_eqlP ?_; refine x_pickF ?_; refine Cnd.no ?_
  refine x_callF (New_m hsys (by omega) fun w5 u rb e5 hu hrb h5 => ?_)
  have s5 := e5.size
  with_reducible refine x_extract at_0 ?_; refine x_extract at_1 ?_
  refine x_neq (fun hc => by omega) (fun hc => ?_)
  with_reducible refine XG.yes ?_; refine x_val ?_; refine XG.yes ?_; refine x_eqlP ?_; refine x_pickF ?_; refine Cnd.no ?_; refine x_buildS (by apply fill_1; exact inferInstance; exact oneP; exact set_0; apply fill_1; exact inferInstance; exact oneP; apply set_S; exact set_0; rotate_left; apply fill_1; exact inferInstance; exact oneP; apply set_S; apply set_S; exact set_0; rotate_left; rotate_left; apply fill_1; exact inferInstance; exact oneP; apply set_S; apply set_S; apply set_S; exact set_0; rotate_left; rotate_left; rotate_left; exact fill_nil; rotate_left; rotate_left; rotate_left; rotate_left; rotate_left; rotate_left; rotate_left; rotate_left) ?_; refine x_boxA ?_
  have hl5 := h5.lts
  have lu := hl5 u (by simp)
  have e6 : Ext w5 (w5.alloc (setO m c t u)) := (Fr.refl _ w5).alloc _
  refine h _ w5.heap.size u m c t tb rb FM ((((((e1.trans e2).trans e3).trans e4).trans e5)).trans e6) (by omega) (by omega) (by have := hfm m hFm; omega) (by omega) (by omega) (by omega) (by omega) (fun r hr => by have := hfm r hr; omega) (fun hq => by have := hl5 _ (.inl hq); omega) ?_ blk_alloc_new (h5.ext e6)
  have := hl5 c (by simp)
  have := hl5 t (by simp)
  have := hl5 tb (by simp)
  have := hl5 rb (by simp)
  omega
end Go.Eng
namespace Go.Eng
open Go.Proofs Go.MapKept
theorem ldv4 {M : Nat → Nat} {a : Nat} : ldv M a 4 = M a + M (a + 1) * 256 + M (a + 2) * 65536 + M (a + 3) * 16777216 := by simp [ldv]
theorem ldv_put_same {M : Nat → Nat} {a v : Nat} (hv : v < 4294967296) : ldv (put M a (stb v)) a 4 = v := by
  have h0 := put_in (M := M) (a := a) (i := 0) (l := stb v) (by simp [stb])
  have h1 := put_in (M := M) (a := a) (i := 1) (l := stb v) (by simp [stb])
  have h2 := put_in (M := M) (a := a) (i := 2) (l := stb v) (by simp [stb])
  have h3 := put_in (M := M) (a := a) (i := 3) (l := stb v) (by simp [stb])
  rw [ldv4]
  rw [Nat.add_zero] at h0
  rw [h0, h1, h2, h3]
  simp only [stb, List.getElem_cons_zero, List.getElem_cons_succ]
  omega
theorem ldv_agree {M M' : Nat → Nat} {a : Nat} (h : ∀ x, a ≤ x → x < a + 4 → M' x = M x) : ldv M' a 4 = ldv M a 4 := ldv_congr fun i hi => h (a + i) (by omega) (by omega)
theorem ldv_put_ne {M : Nat → Nat} {a b : Nat} {l : List Nat} (h : a + 4 ≤ b ∨ b + l.length ≤ a) : ldv (put M b l) a 4 = ldv M a 4 := ldv_agree fun x h1 h2 => put_out (by omega)
theorem stb_len {v : Nat} : (stb v).length = 4 := rfl
theorem ldv_zero {M : Nat → Nat} {a b : Nat} (h : b ≤ a) (h2 : a + 4 ≤ b + 4096) : ldv (put M b (List.replicate 4096 0)) a 4 = 0 := by
  have hz : ∀ i, i < 4 → put M b (List.replicate 4096 0) (a + i) = 0 := fun i hi => by
    have := put_in (M := M) (a := b) (i := a + i - b) (l := List.replicate 4096 0) (by rw [List.length_replicate]; omega)
    rw [show b + (a + i - b) = a + i by omega] at this
    rw [this, List.getElem_replicate]
  have h0 := hz 0 (by omega)
  rw [Nat.add_zero] at h0
  rw [ldv4, h0, hz 1 (by omega), hz 2 (by omega), hz 3 (by omega)]
theorem dec_table {f : Nat} (h : f ≤ 4095) : decR (encR 2 0 f).1 = (2, 0, f, 0) := by
  have e : (encR 2 0 f).1 = 4096 * f + 17 := by unfold encR; rw [if_neg (by omega), if_neg (by omega), if_pos rfl, if_neg (by omega), if_neg (by omega)]
  rw [e]
  have hk : kindOf (4096 * f + 17) = 2 := by unfold kindOf; rw [if_pos (by omega)]
  have hp : (4096 * f + 17) / 2 % 8 = 0 := by omega
  have hf : (4096 * f + 17) / 4096 = f := by omega
  have e2 : (encR 2 0 f).2 = 0 := by unfold encR; rw [if_neg (by omega), if_neg (by omega), if_pos rfl, if_neg (by omega), if_neg (by omega)]
  unfold decR
  rw [if_neg (by omega), if_neg (by omega), hk, hp, hf, e2]
  simp
def okP (p : Nat) : Prop := p = 1 ∨ p = 3 ∨ p = 4 ∨ p = 5 ∨ p = 7
theorem enc_page {p f : Nat} (hp : okP p) (h : f ≤ 4095) : encR 1 p f = (4096 * f + (1 + p * 2), 0) := by
  have : okPerm p = true := by rcases hp with rfl | rfl | rfl | rfl | rfl <;> decide
  unfold encR
  rw [if_neg (by omega), if_pos rfl, if_neg (by rw [this]; simp), if_neg (by omega)]
theorem dec_page {p f : Nat} (hp : okP p) (h : f ≤ 4095) : decR (encR 1 p f).1 = (1, p, f, 0) := by
  have hp7 : p ≤ 7 := by rcases hp with rfl | rfl | rfl | rfl | rfl <;> omega
  rw [enc_page hp h]
  simp only
  have hk : kindOf (4096 * f + (1 + p * 2)) = 1 := by unfold kindOf; rw [if_neg (by omega)]
  have hpp : (4096 * f + (1 + p * 2)) / 2 % 8 = p := by omega
  have hf : (4096 * f + (1 + p * 2)) / 4096 = f := by omega
  unfold decR
  rw [if_neg (by omega), if_neg (by omega), hk, hpp, hf, enc_page hp h]
  simp
def bitA (a : Int) : Nat := if a = 1 then 1 else if a = 2 then 2 else 4
theorem allows_bit {p : Nat} {a : Int} (hp : okP p) (ha : a = 1 ∨ a = 2 ∨ a = 3) : allows p a = !decide (p &&& bitA a = 0) := by
  rcases hp with rfl | rfl | rfl | rfl | rfl <;> rcases ha with rfl | rfl | rfl <;> decide
structure OkCell (l : List Rg) : Prop where
  each : ∀ r ∈ l, r.n = 1 ∧ r.v % 4096 = 0 ∧ r.p % 4096 = 0 ∧ r.p < 131072 ∧ okP r.perm ∧ r.v / 4096 < 2048
  apart : l.Pairwise fun a b => a.v / 4096 ≠ b.v / 4096
structure CellTab (M : Nat → Nat) (root hi : Nat) (l : List Rg) : Prop where
  rt : root % 4096 = 0 ∧ 163840 ≤ root ∧ root + 4096 ≤ hi ∧ hi ≤ 262144
  tab : ∃ T : Nat → Option Nat, (∀ f, f < 1024 → ldv M (root + 4 * f) 4 = match T f with | none => 0 | some tb => (encR 2 0 (tb / 4096)).1) ∧
    (∀ f tb, T f = some tb → tb % 4096 = 0 ∧ 163840 ≤ tb ∧ tb + 4096 ≤ hi) ∧
    ∀ pg, pg < 1048576 → match l.find? fun r => decide (pg = r.v / 4096) with
      | none => (T (pg / 1024) = none ∨ ∃ tb, T (pg / 1024) = some tb ∧ ldv M (tb + 4 * (pg % 1024)) 4 = 0)
      | some r => ∃ tb, T (pg / 1024) = some tb ∧ ldv M (tb + 4 * (pg % 1024)) 4 = (encR 1 r.perm (r.p / 4096)).1
theorem CellTab.keep {M M' : Nat → Nat} {root hi hi' : Nat} {l : List Rg} (h : CellTab M root hi l) (hh : hi ≤ hi') (hh' : hi' ≤ 262144) (hM : ∀ x, 163840 ≤ x → x < hi → M' x = M x) : CellTab M' root hi' l := by
  obtain ⟨r1, r2, r3, r4⟩ := h.rt
  obtain ⟨T, h1, h2, h3⟩ := h.tab
  refine ⟨⟨r1, r2, by omega, hh'⟩, T, fun f hf => ?_, fun f tb ht => ?_, fun pg hpg => ?_⟩
  · rw [← h1 f hf]
    exact ldv_agree fun x _ _ => hM x (by omega) (by omega)
  · have := h2 f tb ht; omega
  · have := h3 pg hpg
    have ag : ∀ tb, T (pg / 1024) = some tb → ldv M' (tb + 4 * (pg % 1024)) 4 = ldv M (tb + 4 * (pg % 1024)) 4 := fun tb ht => by
      have := h2 _ tb ht
      exact ldv_agree fun x _ _ => hM x (by omega) (by omega)
    split
    · rename_i heq
      rw [heq] at this
      simp only at this
      rcases this with h | ⟨tb, ht, h⟩
      · exact .inl h
      · exact .inr ⟨tb, ht, by rw [ag tb ht]; exact h⟩
    · rename_i r heq
      rw [heq] at this
      simp only at this
      obtain ⟨tb, ht, h⟩ := this
      exact ⟨tb, ht, by rw [ag tb ht]; exact h⟩
theorem wd_in {M : Nat → Nat} {a : Nat} (h : a % 4 = 0) (h2 : a + 4 ≤ 262144) : wd M 64 a = some (ldv M a 4) := by
  unfold wd rd
  rw [if_pos (by omega), if_pos (by omega)]
theorem decR_0 : decR 0 = (0, 0, 0, 0) := by simp [decR]
theorem walk_cell {M : Nat → Nat} {root hi : Nat} {l : List Rg} (h : CellTab M root hi l) (hok : OkCell l) {va : Nat} {a : Int} (hv : va < 4294967296) (ha : a = 1 ∨ a = 2 ∨ a = 3) :
    (walkR M 64 root va a).1 = (wantR l va (bitA a)).1 ∧ (walkR M 64 root va a).2.2 = (wantR l va (bitA a)).2 ∧
    ((walkR M 64 root va a).2.2 = 0 → ∃ r, foundR l va = some r ∧ lastE (walkR M 64 root va a).2.1 = (1, r.perm, r.p / 4096)) := by
  obtain ⟨r1, r2, r3, r4⟩ := h.rt
  obtain ⟨T, h1, h2, h3⟩ := h.tab
  have hpg := h3 (va / 4096) (by omega)
  have hroot := h1 (va / 4096 / 1024) (by omega)
  have hw1 : wd M 64 (root + 4 * (va / 4096 / 1024)) = some (ldv M (root + 4 * (va / 4096 / 1024)) 4) := wd_in (by omega) (by omega)
  unfold wantR foundR
  unfold walkR
  rw [hw1, hroot]
  simp only
  cases hT : T (va / 4096 / 1024) with
  | none =>
    rw [hT] at hpg
    simp only
    rw [decR_0]
    simp only
    cases hf : l.find? fun r => decide (va / 4096 = r.v / 4096) with
    | none => simp
    | some r => rw [hf] at hpg; simp at hpg
  | some tb =>
    obtain ⟨t1, t2, t3⟩ := h2 _ _ hT
    simp only
    rw [dec_table (by omega)]
    simp only
    rw [if_neg (by simp), if_neg (by omega), if_neg (by simp)]
    have hw2 : wd M 64 (4096 * (tb / 4096) + 4 * (va / 4096 % 1024)) = some (ldv M (tb + 4 * (va / 4096 % 1024)) 4) := by
      rw [show 4096 * (tb / 4096) = tb by omega]
      exact wd_in (by omega) (by omega)
    unfold walk2
    rw [hw2]
    simp only
    rw [hT] at hpg
    cases hf : l.find? fun r => decide (va / 4096 = r.v / 4096) with
    | none =>
      rw [hf] at hpg
      simp only [reduceCtorEq, Option.some.injEq, exists_eq_left', false_or] at hpg
      rw [hpg, decR_0]
      simp
    | some r =>
      rw [hf] at hpg
      simp only [Option.some.injEq, exists_eq_left'] at hpg
      have hr := hok.each r (List.mem_of_find?_eq_some hf)
      rw [hpg, dec_page hr.2.2.2.2.1 (by omega)]
      simp only
      rw [if_neg (by simp), if_neg (by omega), if_neg (by simp), allows_bit hr.2.2.2.2.1 ha]
      by_cases hb : r.perm &&& bitA a = 0
      · simp [hb]
      · simp only [hb, decide_false, Bool.not_false, Bool.true_eq_false, if_false]
        rw [if_neg (by omega)]
        refine ⟨by simp only; omega, rfl, fun _ => ⟨r, rfl, ?_⟩⟩
        simp only [lastE, List.getLast?_cons_cons, List.getLast?_singleton]
        rw [dec_page hr.2.2.2.2.1 (by omega)]
end Go.Eng
namespace Go.Eng
open Go.Proofs Go.MapKept
theorem OkCell.mayBe {l : List Rg} (h : OkCell l) : ∀ r ∈ l, mayBeR r = true := fun r hr => by
  obtain ⟨h1, h2, h3, h4, h5, h6⟩ := h.each r hr
  unfold mayBeR
  refine decide_eq_true ⟨by rw [enc_page h5 (by omega)], h2, h3, by omega, by omega, by omega⟩
theorem OkCell.pgs {l : List Rg} (h : OkCell l) : pgs l = l.map fun r => (r.v / 4096, r.perm, r.p / 4096) := by
  induction l with
  | nil => rfl
  | cons r l ih =>
    have h1 := (h.each r (by simp)).1
    have e : rgPgs r = [(r.v / 4096, r.perm, r.p / 4096)] := by unfold rgPgs; rw [h1]; simp [List.range_succ]
    have := ih ⟨fun x hx => h.each x (List.mem_cons_of_mem _ hx), (List.pairwise_cons.1 h.apart).2⟩
    simp only [Go.Eng.pgs, List.flatMap_cons, List.map_cons] at this ⊢
    rw [e, this]; rfl
theorem step1_zero {M : Nat → Nat} {root p : Nat} {st : SS1} (h1 : p ∉ st.1) (h2 : wd M 64 (root + 4 * (p / 1024)) = some 0) :
    step1 M 64 root p st = some (p :: st.1, st.2.1, if p / 1024 ∈ st.2.2 then st.2.2 else st.2.2 ++ [p / 1024]) := by
  unfold step1
  rw [if_neg h1, h2]
  simp [decR_0]
theorem scan_zero {M : Nat → Nat} {root : Nat} (hz : ∀ f, f < 1024 → wd M 64 (root + 4 * f) = some 0) : ∀ (ps : List Nat) (S : List Nat) (tabs : Nat → Option Nat) (W : List Nat), (∀ p ∈ ps, p < 1048576 ∧ p ∉ S) → ps.Nodup → W.Nodup →
    ∃ S' W', scan M 64 root ps (S, tabs, W) = some (S', tabs, W') ∧ (∀ f ∈ W, f ∈ W') ∧ (∀ p ∈ ps, p / 1024 ∈ W') ∧ (∀ f ∈ W', f ∈ W ∨ ∃ p ∈ ps, f = p / 1024) ∧ W'.Nodup
  | [], S, tabs, W, _, _, hW => ⟨S, W, rfl, fun _ h => h, by simp, fun _ h => .inl h, hW⟩
  | p :: ps, S, tabs, W, h, hnd, hW => by
    obtain ⟨h1, h2⟩ := h p (by simp)
    obtain ⟨hn1, hn2⟩ := List.nodup_cons.1 hnd
    have hW2 : (if p / 1024 ∈ W then W else W ++ [p / 1024]).Nodup := by
      split
      · exact hW
      · rename_i hn
        rw [List.nodup_append]
        refine ⟨hW, by simp, fun a ha b hb => ?_⟩
        rw [List.mem_singleton.1 hb]
        exact fun he => hn (he ▸ ha)
    obtain ⟨S', W', k1, k2, k3, k4, k5⟩ := scan_zero hz ps (p :: S) tabs _ (fun q hq => ⟨(h q (List.mem_cons_of_mem _ hq)).1, fun hm => by
      rcases List.mem_cons.1 hm with hm | hm
      · exact hn1 (hm ▸ hq)
      · exact (h q (List.mem_cons_of_mem _ hq)).2 hm⟩) hn2 hW2
    refine ⟨S', W', ?_, fun f hf => k2 f ?_, fun q hq => ?_, fun f hf => ?_, k5⟩
    · simp only [scan]
      rw [step1_zero h2 (hz _ (by omega))]
      exact k1
    · split
      · exact hf
      · exact List.mem_append_left _ hf
    · rcases List.mem_cons.1 hq with rfl | hq
      · refine k2 _ ?_
        split
        · assumption
        · simp
      · exact k3 q hq
    · rcases k4 f hf with hf | ⟨q, hq, rfl⟩
      · split at hf
        · exact .inl hf
        · rcases List.mem_append.1 hf with hf | hf
          · exact .inl hf
          · exact .inr ⟨p, by simp, List.mem_singleton.1 hf⟩
      · exact .inr ⟨q, List.mem_cons_of_mem _ hq, rfl⟩
structure TV (M : Nat → Nat) (root t : Nat) (T : Nat → Option Nat) : Prop where
  rw : ∀ f, f < 1024 → ldv M (root + 4 * f) 4 = match T f with | none => 0 | some tb => (encR 2 0 (tb / 4096)).1
  tb : ∀ f tb, T f = some tb → tb % 4096 = 0 ∧ root + 4096 ≤ tb ∧ tb + 4096 ≤ 163840 + 4096 * t ∧ ∀ s, s < 1024 → ldv M (tb + 4 * s) 4 = 0
  inj : ∀ f g tb, T f = some tb → T g = some tb → f = g
theorem TV.take {M : Nat → Nat} {root t f : Nat} {T : Nat → Option Nat} (h : TV M root t T) (hr : root % 4096 = 0 ∧ root + 4096 ≤ 163840 + 4096 * t ∧ t ≤ 23) (hf : f < 1024) (hT : T f = none) :
    TV (take1 root 163840 f (M, t, T)).1 root (t + 1) (take1 root 163840 f (M, t, T)).2.2 := by
  have henc : (encR 2 0 ((163840 + 4096 * t) / 4096)).1 < 4294967296 := encR_lt (by omega)
  refine ⟨fun g hg => ?_, fun g tb hg => ?_, fun g g' tb hg hg' => ?_⟩
  · simp only [take1]
    by_cases he : g = f
    · subst he
      rw [if_pos rfl, ldv_put_same henc]
    · rw [if_neg he, ldv_put_ne (by rw [stb_len]; omega), ldv_put_ne (by rw [List.length_replicate]; omega)]
      exact h.rw g hg
  · simp only [take1] at hg ⊢
    split at hg
    · simp only [Option.some.injEq] at hg
      subst hg
      refine ⟨by omega, by omega, by omega, fun s hs => ?_⟩
      rw [ldv_put_ne (by rw [stb_len]; omega)]
      exact ldv_zero (by omega) (by omega)
    · obtain ⟨q1, q2, q3, q4⟩ := h.tb g tb hg
      refine ⟨q1, q2, by omega, fun s hs => ?_⟩
      rw [ldv_put_ne (by rw [stb_len]; omega), ldv_put_ne (by rw [List.length_replicate]; omega)]
      exact q4 s hs
  · simp only [take1] at hg hg'
    split at hg <;> split at hg'
    · omega
    · simp only [Option.some.injEq] at hg
      have := (h.tb g' tb hg').2.2.1
      omega
    · simp only [Option.some.injEq] at hg'
      have := (h.tb g tb hg).2.2.1
      omega
    · exact h.inj g g' tb hg hg'
theorem take1_out {M : Nat → Nat} {root t f : Nat} {T : Nat → Option Nat} (hf : f < 1024) {x : Nat} (hx : (x < root ∨ root + 4096 ≤ x) ∧ (x < 163840 + 4096 * t ∨ 163840 + 4096 * (t + 1) ≤ x)) : (take1 root 163840 f (M, t, T)).1 x = M x := by
  simp only [take1]
  rw [put_out (by rw [stb_len]; omega), put_out (by rw [List.length_replicate]; omega)]
theorem TV.takeAll {root : Nat} : ∀ (W : List Nat) (M : Nat → Nat) (t : Nat) (T : Nat → Option Nat), TV M root t T → (root % 4096 = 0 ∧ root + 4096 ≤ 163840 + 4096 * t ∧ t + W.length ≤ 24) → W.Nodup → (∀ f ∈ W, f < 1024 ∧ T f = none) →
    TV (takeAll root 163840 W (M, t, T)).1 root (t + W.length) (takeAll root 163840 W (M, t, T)).2.2 ∧ (takeAll root 163840 W (M, t, T)).2.1 = t + W.length ∧ (∀ f, f ∈ W → ((takeAll root 163840 W (M, t, T)).2.2 f).isSome) ∧ (∀ f, f ∉ W → (takeAll root 163840 W (M, t, T)).2.2 f = T f) ∧
    ∀ x, (x < root ∨ 163840 + 4096 * (t + W.length) ≤ x) → (takeAll root 163840 W (M, t, T)).1 x = M x
  | [], M, t, T, h, _, _, _ => ⟨h, rfl, by simp, by simp [Go.Eng.takeAll], fun _ _ => rfl⟩
  | f :: W, M, t, T, h, hr, hnd, hW => by
    obtain ⟨n1, n2⟩ := List.nodup_cons.1 hnd
    obtain ⟨f1, f2⟩ := hW f (by simp)
    simp only [List.length_cons] at hr
    have h1 := h.take (f := f) ⟨hr.1, hr.2.1, by omega⟩ f1 f2
    have e : take1 root 163840 f (M, t, T) = ((take1 root 163840 f (M, t, T)).1, t + 1, (take1 root 163840 f (M, t, T)).2.2) := rfl
    have hne : ∀ g, g ≠ f → (take1 root 163840 f (M, t, T)).2.2 g = T g := fun g hg => by simp only [take1]; rw [if_neg hg]
    obtain ⟨k1, k2, k3, k4, k5⟩ := TV.takeAll W _ (t + 1) _ h1 ⟨hr.1, by omega, by omega⟩ n2 (fun g hg => ⟨(hW g (List.mem_cons_of_mem _ hg)).1, by rw [hne g (fun he => n1 (he ▸ hg))]; exact (hW g (List.mem_cons_of_mem _ hg)).2⟩)
    simp only [Go.Eng.takeAll, List.length_cons]
    rw [e]
    rw [show t + (W.length + 1) = t + 1 + W.length by omega]
    refine ⟨k1, k2, fun g hg => ?_, fun g hg => ?_, fun x hx => ?_⟩
    · by_cases hgW : g ∈ W
      · exact k3 g hgW
      · rcases List.mem_cons.1 hg with rfl | hg
        · rw [k4 g hgW, show (take1 root 163840 g (M, t, T)).2.2 g = some (163840 + 4096 * t) from if_pos rfl]; rfl
        · exact absurd hg hgW
    · rw [k4 g (fun h => hg (List.mem_cons_of_mem _ h)), hne g (fun h => hg (h ▸ by simp))]
    · rw [k5 x hx]
      exact take1_out f1 (by omega)
theorem layAll_word {T : Nat → Option Nat} {lo : Nat} (hT : ∀ f tb, T f = some tb → tb % 4096 = 0 ∧ lo ≤ tb) (inj : ∀ f g tb, T f = some tb → T g = some tb → f = g) : ∀ (l : List Rg), OkCell l → (∀ r ∈ l, (T (r.v / 4096 / 1024)).isSome) → ∀ (M : Nat → Nat) (f s tb : Nat), T f = some tb → s < 1024 →
    ldv (layAll T (l.map fun r => (r.v / 4096, r.perm, r.p / 4096)) M) (tb + 4 * s) 4 = match l.find? fun r => decide (1024 * f + s = r.v / 4096) with
      | none => ldv M (tb + 4 * s) 4
      | some r => (encR 1 r.perm (r.p / 4096)).1
  | [], _, _, M, f, s, tb, _, _ => rfl
  | r :: l, hok, hs, M, f, s, tb, ht, hs' => by
    have hok' : OkCell l := ⟨fun x hx => hok.each x (List.mem_cons_of_mem _ hx), (List.pairwise_cons.1 hok.apart).2⟩
    have ih := layAll_word hT inj l hok' (fun x hx => hs x (List.mem_cons_of_mem _ hx)) (lay1 T (r.v / 4096, r.perm, r.p / 4096) M) f s tb ht hs'
    simp only [List.map_cons, layAll]
    rw [ih]
    obtain ⟨tr, htr⟩ := Option.isSome_iff_exists.1 (hs r (by simp))
    obtain ⟨a1, a2⟩ := hT _ _ htr
    obtain ⟨b1, b2⟩ := hT _ _ ht
    have hper : r.perm < 256 := by rcases (hok.each r (by simp)).2.2.2.2.1 with h | h | h | h | h <;> omega
    have hlay : lay1 T (r.v / 4096, r.perm, r.p / 4096) M = put M (tr + 4 * (r.v / 4096 % 1024)) (stb (encR 1 r.perm (r.p / 4096)).1) := by
      simp only [lay1]; rw [htr]; rfl
    rw [hlay]
    by_cases hm : 1024 * f + s = r.v / 4096
    · have hn : l.find? (fun r => decide (1024 * f + s = r.v / 4096)) = none := by
        rw [List.find?_eq_none]
        intro x hx hq
        have := (List.pairwise_cons.1 hok.apart).1 x hx
        simp only [decide_eq_true_eq] at hq
        omega
      rw [hn]
      simp only
      rw [List.find?_cons_of_pos (by simpa using hm)]
      have hf : f = r.v / 4096 / 1024 := by omega
      have hse : s = r.v / 4096 % 1024 := by omega
      rw [hf] at ht
      rw [ht] at htr
      cases htr
      rw [hse]
      exact ldv_put_same (encR_lt hper)
    · rw [List.find?_cons_of_neg (by simpa using hm)]
      cases l.find? fun r => decide (1024 * f + s = r.v / 4096) with
      | some x => rfl
      | none =>
        simp only
        refine ldv_put_ne ?_
        rw [stb_len]
        by_cases hf : f = r.v / 4096 / 1024
        · rw [hf] at ht
          rw [ht] at htr
          cases htr
          omega
        · have : tb ≠ tr := fun he => hf (inj _ _ tb ht (he ▸ htr))
          omega
theorem layAll_out {T : Nat → Option Nat} {lo hi : Nat} (hT : ∀ f tb, T f = some tb → tb % 4096 = 0 ∧ lo ≤ tb ∧ tb + 4096 ≤ hi) : ∀ (l : List Rg), (∀ r ∈ l, (T (r.v / 4096 / 1024)).isSome) → ∀ (M : Nat → Nat) (x : Nat), (x < lo ∨ hi ≤ x) →
    layAll T (l.map fun r => (r.v / 4096, r.perm, r.p / 4096)) M x = M x
  | [], _, M, x, _ => rfl
  | r :: l, hs, M, x, hx => by
    simp only [List.map_cons, layAll]
    rw [layAll_out hT l (fun x hx => hs x (List.mem_cons_of_mem _ hx)) _ x hx]
    obtain ⟨tr, htr⟩ := Option.isSome_iff_exists.1 (hs r (by simp))
    have := hT _ _ htr
    simp only [lay1]
    rw [htr]
    exact put_out (by rw [stb_len]; simp only [Option.getD_some]; omega)
theorem nodup_two {W : List Nat} (h : W.Nodup) (h2 : ∀ f ∈ W, f < 2) : W.length ≤ 2 := by
  match W, h, h2 with
  | [], _, _ => simp
  | [_], _, _ => simp
  | [_, _], _, _ => simp
  | a :: b :: c :: l, h, h2 =>
    have ha := h2 a (by simp)
    have hb := h2 b (by simp)
    have hc := h2 c (by simp)
    simp only [List.nodup_cons, List.mem_cons, not_or] at h
    omega
theorem map_cell {M : Nat → Nat} {root t0 : Nat} {l : List Rg} (hroot : root = 163840 + 4096 * t0) (ht : t0 + 3 ≤ 24) (hz : ∀ f, f < 1024 → ldv M (root + 4 * f) 4 = 0) (hok : OkCell l) :
    ∃ M' t', mapR M 64 root 163840 24 (t0 + 1) false l = (0, M', t') ∧ t0 + 1 ≤ t' ∧ t' ≤ t0 + 3 ∧ CellTab M' root (163840 + 4096 * t') l ∧ ∀ x, (x < root ∨ 163840 + 4096 * t' ≤ x) → M' x = M x := by
  have hps := hok.pgs
  have hno : pgNos l = l.map fun r => r.v / 4096 := by unfold pgNos; rw [hps, List.map_map]; rfl
  have hnd : (pgNos l).Nodup := by
    rw [hno]
    exact List.pairwise_map.2 hok.apart
  obtain ⟨S', W, k1, _, k3, k4, k5⟩ := scan_zero (M := M) (root := root) (fun f hf => by rw [wd_in (by omega) (by omega), hz f hf]) (pgNos l) [] (fun _ => none) [] (fun p hp => by
    rw [hno] at hp
    obtain ⟨r, hr, rfl⟩ := List.mem_map.1 hp
    have := (hok.each r hr).2.2.2.2.2
    exact ⟨by omega, by simp⟩) hnd List.nodup_nil
  have hW2 : ∀ f ∈ W, f < 2 := fun f hf => by
    rcases k4 f hf with h | ⟨p, hp, rfl⟩
    · cases h
    · rw [hno] at hp
      obtain ⟨r, hr, rfl⟩ := List.mem_map.1 hp
      have := (hok.each r hr).2.2.2.2.2
      omega
  have hWl := nodup_two k5 hW2
  have hTV : TV M root (t0 + 1) (fun _ => none) := ⟨fun f hf => hz f hf, (fun _ _ h => by cases h), (fun _ _ _ h => by cases h)⟩
  obtain ⟨q1, q2, q3, q4, q5⟩ := TV.takeAll W M (t0 + 1) (fun _ => none) hTV (by omega) k5 (fun f hf => ⟨by have := hW2 f hf; omega, rfl⟩)
  have hres : mapR M 64 root 163840 24 (t0 + 1) false l = (0, layAll (takeAll root 163840 W (M, t0 + 1, fun _ => none)).2.2 (pgs l) (takeAll root 163840 W (M, t0 + 1, fun _ => none)).1, (takeAll root 163840 W (M, t0 + 1, fun _ => none)).2.1) := by
    simp only [mapR, scan0]
    rw [if_neg (fun h => h hok.mayBe), k1]
    simp only
    rw [if_neg (by simp), if_neg (by omega)]
  rw [hps] at hres
  generalize takeAll root 163840 W (M, t0 + 1, fun _ => none) = Tk at *
  obtain ⟨M1, t1, T⟩ := Tk
  simp only at *
  subst q2
  have hsome : ∀ r ∈ l, (T (r.v / 4096 / 1024)).isSome := fun r hr => q3 _ (k3 _ (by rw [hno]; exact List.mem_map.2 ⟨r, hr, rfl⟩))
  have hTb : ∀ f tb, T f = some tb → tb % 4096 = 0 ∧ root + 4096 ≤ tb ∧ tb + 4096 ≤ 163840 + 4096 * (t0 + 1 + W.length) := fun f tb h => ⟨(q1.tb f tb h).1, (q1.tb f tb h).2.1, (q1.tb f tb h).2.2.1⟩
  have hout := layAll_out hTb l hsome M1
  have hword := layAll_word (fun f tb h => ⟨(hTb f tb h).1, (hTb f tb h).2.1⟩) q1.inj l hok hsome M1
  refine ⟨_, _, hres, by omega, by omega, ⟨by omega, T, fun f hf => ?_, fun f tb h => ?_, fun pg hpg => ?_⟩, fun x hx => ?_⟩
  · exact (ldv_agree fun x _ _ => hout x (by omega)).trans (q1.rw f hf)
  · have := hTb f tb h; omega
  · have hpe : 1024 * (pg / 1024) + pg % 1024 = pg := by omega
    cases hT : T (pg / 1024) with
    | none =>
      have hf : l.find? (fun r => decide (pg = r.v / 4096)) = none := by
        rw [List.find?_eq_none]
        intro r hr hq
        simp only [decide_eq_true_eq] at hq
        have := hsome r hr
        rw [← hq, hT] at this
        cases this
      rw [hf]
      exact .inl rfl
    | some tb =>
      have hw := hword (pg / 1024) (pg % 1024) tb hT (by omega)
      rw [hpe] at hw
      cases hf : l.find? fun r => decide (pg = r.v / 4096) with
      | none =>
        rw [hf] at hw
        exact .inr ⟨tb, rfl, by rw [hw]; exact (q1.tb _ _ hT).2.2.2 _ (by omega)⟩
      | some r =>
        rw [hf] at hw
        exact ⟨tb, rfl, hw⟩
  · rw [hout x (by omega)]
    exact q5 x (by omega)
end Go.Eng
namespace Go.Eng
open Go.Proofs Go.MapKept
variable {w : World} {K : Value → World → Prop} {E : List PanicEntry → World → Prop}
def RgsAt (w : World) (lo : Nat) (v : Value) (Ls : List (List Rg)) : Prop :=
  ∃ ga cap c, v = .slice (some ⟨ga, 0, none⟩) Ls.length cap ∧ ga < lo ∧ w.heap[ga]? = some (.cells c 57 (0, 0)) ∧
    ∀ (i : Nat) (h : i < Ls.length), ∃ vi, c[i]? = some vi ∧ RgAt w vi Ls[i] ∧ ∀ g o n k, vi = .slice (some ⟨g, o, none⟩) n k → g < lo
theorem RgsAt.frame {w' : World} {lo : Nat} {v : Value} {Ls : List (List Rg)} {S : Nat → Prop} (h : RgsAt w lo v Ls) (hf : Fr S w w') (hs : ∀ r, r < lo → ¬ S r) : RgsAt w' lo v Ls := by
  obtain ⟨ga, cap, c, rfl, h1, h2, h3⟩ := h
  refine ⟨ga, cap, c, rfl, h1, hf.get (hs _ h1) h2, fun i hi => ?_⟩
  obtain ⟨vi, k1, k2, k3⟩ := h3 i hi
  exact ⟨vi, k1, k2.frame hf fun g o n k hx => hs g (k3 g o n k hx), k3⟩
theorem mm_mem2 {w' : World} {u m c t tb rb a : Nat} {s : MS} {M : Nat → Nat} {roots : Int → Option Nat} {FM F' : Nat → Prop} (h : Mm w u m c t tb rb s roots FM) (hf : Fr (fun r => FM r ∨ r = a) w w') (ha : a ≠ u ∧ a ≠ c ∧ a ≠ t ∧ a ≠ tb ∧ a ≠ rb ∧ a ≠ 1) (k1 : ∀ r, F' r → FM r ∨ w.heap.size ≤ r) (hm : Mem w' m s.n M F') :
    Mm w' u m c t tb rb { s with M := M } roots F' := by
  obtain ⟨q1, q2⟩ := h.fm
  obtain ⟨f1, f2, f3, f4⟩ := h.sys.fm
  obtain ⟨a1, a2, a3, a4, a5, a6⟩ := ha
  have hl2 := h.lts
  have notF : ∀ r, ¬ FM r → r < w.heap.size → ¬ F' r := fun r hr hlt hF => by
    rcases k1 r hF with hx | hx
    · exact hr hx
    · omega
  have nS : ∀ r, ¬ FM r → r ≠ a → ¬ (FM r ∨ r = a) := fun r h1 h2 h3 => by rcases h3 with h3 | h3; exact h1 h3; exact h2 h3
  exact ⟨⟨hm, h.sys.tlb.frame hf (nS _ f1 (Ne.symm a3)) (nS _ f2 (Ne.symm a4)), h.sys.ca.frame hf (nS _ f3 (Ne.symm a2)), h.sys.glob.fr hf (nS _ f4 (Ne.symm a6)), h.sys.te, ⟨notF _ f1 (hl2 _ (by simp)), notF _ f2 (hl2 _ (by simp)), notF _ f3 (hl2 _ (by simp)), notF _ f4 (hl2 _ (by simp))⟩, h.sys.ne⟩,
    h.mmu.frame hf (nS _ q1 (Ne.symm a1)) (nS _ q2 (Ne.symm a5)), ⟨notF _ q1 (hl2 _ (by simp)), notF _ q2 (hl2 _ (by simp))⟩, h.ne⟩
def Tabs (M : Nat → Nat) (hi : Nat) (roots : Int → Option Nat) (Ls : List (List Rg)) : Prop :=
  (∀ k : Int, k < 1 ∨ (Ls.length : Int) < k → roots k = none) ∧ ∀ (i : Nat) (h : i < Ls.length), ∃ root, roots ((i + 1 : Nat) : Int) = some root ∧ CellTab M root hi Ls[i]
theorem Tabs.keep {M M' : Nat → Nat} {hi hi' : Nat} {roots : Int → Option Nat} {Ls : List (List Rg)} (h : Tabs M hi roots Ls) (hh : hi ≤ hi') (hh' : hi' ≤ 262144) (hM : ∀ x, 163840 ≤ x → x < hi → M' x = M x) : Tabs M' hi' roots Ls :=
  ⟨h.1, fun i hi => by obtain ⟨root, h1, h2⟩ := h.2 i hi; exact ⟨root, h1, h2.keep hh hh' hM⟩⟩
noncomputable def builtR (Ls : List (List Rg)) : Nat → (Nat → Nat) × (Int → Option Nat) × Nat
  | 0 => (fun _ => 0, fun _ => none, 0)
  | i + 1 =>
    let p := builtR Ls i
    let q := mapR (put p.1 (163840 + 4096 * p.2.2) (List.replicate 4096 0)) 64 (163840 + 4096 * p.2.2) 163840 24 (p.2.2 + 1) false (Ls.getD i [])
    (q.2.1, rootsU p.2.1 ((i + 1 : Nat) : Int) (163840 + 4096 * p.2.2), q.2.2)
theorem mapped_c {lo slots la ways : Nat} {v : Value} {Ls : List (List Rg)} (hg : Glob w) (hR : RgsAt w lo v Ls) (hlo : lo ≤ w.heap.size) (hn : Ls.length ≤ 4) (hok : ∀ l ∈ Ls, OkCell l ∧ (∀ r ∈ l, r.Ok) ∧ l.length ≤ 1000) (hs : 1 ≤ slots ∧ slots ≤ 64) (hla : la ≤ 8) (hw : 1 ≤ ways ∧ ways ≤ 8)
   (h : ∀ w' x u m c t tb rb FM M roots, Ext w w' → w.heap.size ≤ x → w.heap.size ≤ u → w.heap.size ≤ m → w.heap.size ≤ c → w.heap.size ≤ t → w.heap.size ≤ tb → w.heap.size ≤ rb → (∀ r, FM r → w.heap.size ≤ r) → ¬ FM x → x ≠ c ∧ x ≠ t ∧ x ≠ tb ∧ x ≠ rb → w'.heap[x]? = some (setO m c t u) →
     Mm w' u m c t tb rb { ms0 64 slots la ways with M := M } roots FM → Tabs M 262144 roots Ls → (∀ y, y < 163840 → M y = 0) → (∃ tk, builtR Ls Ls.length = (M, roots, tk)) → K (ptr x) w') :
   C P 10 #[v, .agg #[.int .i64 (2 ^ la : Nat), .int .i64 ways, .int .i64 (2 ^ 4 : Nat)], .int .i64 slots] w K E := by
  have hg1 : 1 < w.heap.size := by obtain ⟨T, fz, hg⟩ := hg; exact lt_of_blk hg
  apply F10
  unfold S10_0
  refine x_boxA ?_
  generalize hw1 : World.alloc _ _ = w1
  have e1 : Ext w w1 := by rw [← hw1]; exact (Fr.refl _ w).alloc _
  have b4 : w1.heap[w.heap.size]? = some (.cells #[.int .i64 (2 ^ la : Nat), .int .i64 ways, .int .i64 (2 ^ 4 : Nat)] 28 (0, 0)) := by rw [← hw1]; exact blk_alloc_new
  clear hw1
  have s1 := e1.size
  refine x_loadA (n := 3) (vs := #[.int .i64 (2 ^ la : Nat), .int .i64 ways, .int .i64 (2 ^ 4 : Nat)]) b4 (sub_cons (sub_cons (sub_cons sub_nil))) ?_
  refine x_callF (set_c (n := 64) (hg.fr e1 id) (by omega) hs hla hw fun w2 x u m c t tb rb FM e2 hx hu hm hc ht htb hrb hFM hxF hxne hxb h2 => ?_)
  have s2 := e2.size
  with_reducible refine x_eqlP ?_; refine Cnd.no ?_; refine x_nil ?_; refine x_field0 ?_; refine x_load1 ‹_› at_0 ?_
  refine x_callF (ArenaNew_c (n := 64) (base := 163840) (pages := 24) h2.sys.mem (by omega) (by omega) (fun hq => by omega) fun p hp _ _ => ?_)
  obtain rfl : p = 24 := by omega
  generalize hw3 : World.alloc w2 _ = w3
  have e3 : Ext w2 w3 := by rw [← hw3]; exact (Fr.refl _ w2).alloc _
  have ba : w3.heap[w2.heap.size]? = some (arenaO m 163840 24 0 false) := by rw [← hw3]; exact blk_alloc_new
  clear hw3
  with_reducible refine x_extract at_0 ?_; refine x_extract at_1 ?_
  refine x_neq (fun hc => by omega) (fun hc => ?_)
  with_reducible refine XG.yes ?_; refine x_val ?_; refine XG.yes ?_; refine x_eqlP ?_; refine x_pickF ?_; refine Cnd.no ?_
  have s3 := e3.size
  obtain ⟨ga, cap, cc, rfl, hga, hgb, hgi⟩ := id hR
  unfold S10_l8
  have hlt2 := h2.lts
  have lx2 := lt_of_blk hxb
  refine ⟨fun v10 w' => ∃ (i : Nat) (FMi : Nat → Prop) (M : Nat → Nat) (roots : Int → Option Nat) (tk : Nat), v10 = .int .i64 i ∧ i ≤ Ls.length ∧ Ext w w' ∧ w3.heap.size ≤ w'.heap.size ∧ (∀ r, FMi r → w.heap.size ≤ r) ∧ ¬ FMi x ∧ ¬ FMi w2.heap.size ∧ w'.heap[x]? = some (setO m c t u) ∧ w'.heap[w2.heap.size]? = some (arenaO m 163840 24 tk false) ∧ tk ≤ 3 * i ∧
      Mm w' u m c t tb rb { ms0 64 slots la ways with M := M } roots FMi ∧ Tabs M (163840 + 4096 * tk) roots (Ls.take i) ∧ (∀ y, y < 163840 → M y = 0) ∧ builtR Ls i = (M, roots, tk), fun v10 _ => match v10 with | .int _ i => Ls.length - i.toNat | _ => 0,
    ⟨0, FM, fun _ => 0, fun _ => none, 0, rfl, by omega, (e1.trans e2).trans e3, Nat.le_refl _, fun r hr => by have := hFM r hr; omega, hxF, fun hq => by have := hlt2 _ (.inl hq); omega, e3.get hxb, ba, by omega, h2.ext e3, ⟨fun k hk => rfl, fun i hi => by simp at hi⟩, fun _ _ => rfl, rfl⟩, ?_⟩
  rintro _ w4 ⟨i, FMi, M, roots, tk, rfl, hi, e4, s4, hFi, hxi, hai, hxb4, ba4, htk, h4, htabs, hz, hbu⟩
  have hlt4 := h4.lts
  have hx4 := lt_of_blk hxb4
  have lba := lt_of_blk ba4
  unfold S10_b8
  with_reducible refine x_lenS ?_
  refine x_lss (fun hc => ?_) (fun hc => ?_)
  with_reducible refine Cnd.yes ?_
  rotate_left
  with_reducible refine Cnd.no ?_
  rotate_left
  · have hil : i < Ls.length := by omega
    obtain ⟨hokl, hrk, hll⟩ := hok _ (List.getElem_mem hil)
    refine x_callF (SpaceNew_c h4.sys.mem ba4 hai (by omega) (by simp [ms0]) (by omega) fun w5 F5 sp e5 k1 k2 hm5 hsp hsp2 ba5 bs5 => ?_)
    have s5 := e5.size
    have hane : w2.heap.size ≠ u ∧ w2.heap.size ≠ c ∧ w2.heap.size ≠ t ∧ w2.heap.size ≠ tb ∧ w2.heap.size ≠ rb ∧ w2.heap.size ≠ 1 := by
      have := hlt2 u (by simp)
      have := hlt2 c (by simp)
      have := hlt2 t (by simp)
      have := hlt2 tb (by simp)
      have := hlt2 rb (by simp)
      have := hlt2 1 (by simp)
      omega
    have h5 := mm_mem2 h4 e5 hane k1 hm5
    have nF5 : ∀ r, ¬ FMi r → r < w4.heap.size → ¬ F5 r := fun r h1 h2 h3 => by rcases k1 r h3 with hq | hq; exact h1 hq; omega
    have hxb5 := e5.get (by rintro (hq | hq); exact hxi hq; omega) hxb4
    have e05 : Ext w w5 := e4.trans' e5 fun r hr hlt => by
      rcases hr with hr | hr
      · have := hFi r hr; omega
      · omega
    have hR5 := hR.frame e05 fun _ _ => id
    with_reducible refine x_extract at_0 ?_; refine x_extract at_1 ?_
    refine x_neq (fun hc => by omega) (fun hc => ?_)
    with_reducible refine XG.yes ?_; refine x_val ?_; refine XG.yes ?_; refine x_eqlP ?_; refine x_pickF ?_; refine Cnd.no ?_
    obtain ⟨vi, ci, hvi, hvlo⟩ := hgi i hil
    obtain ⟨ga', cap', cc', heq, hga', hgb', hgi'⟩ := hR5
    simp only [Value.slice.injEq, Option.some.injEq, Addr.mk.injEq, and_true, true_and] at heq
    obtain ⟨rfl, rfl⟩ := heq
    obtain ⟨vi, ci, hvi5, hvlo⟩ := hgi' i hil
    refine x_idxS (by omega) ?_
    refine x_load1 hgb' (by rw [show 0 + (i : Int).toNat * 1 = i by omega]; exact ci) ?_
    have hroot : 163840 + 4096 * tk = 163840 + 4096 * tk := rfl
    have hz4 : ∀ f, f < 1024 → ldv (put M (163840 + 4096 * tk) (List.replicate 4096 0)) (163840 + 4096 * tk + 4 * f) 4 = 0 := fun f hf => ldv_zero (by omega) (by omega)
    obtain ⟨M', t', hmap, q1, q2, q3, q4⟩ := map_cell (M := put M (163840 + 4096 * tk) (List.replicate 4096 0)) (root := 163840 + 4096 * tk) (t0 := tk) rfl (by omega) hz4 hokl
    have hfin5 : ∀ r, F5 r → r < w5.heap.size := fun r hr => h5.lts r (.inl hr)
    refine x_callF (Map_c (n := 64) (base := 163840) (pages := 24) (taken := tk + 1) (root := 163840 + 4096 * tk) hm5 bs5 (by omega) ba5 (nF5 _ hai (lt_of_blk ba4)) hsp (by omega) (by omega) (by omega) hvi5 hrk (by omega) (fun _ => by rw [hokl.pgs, List.length_map]; omega) (fun g o n k hx => ?_) fun w6 F6 e6 i1 i2 hm6 ba6 => ?_)
    · have := hvlo g o n k hx
      exact ⟨fun hq => by rcases k1 g hq with hq' | hq'; (have := hFi g hq'; omega); omega, by omega, by omega⟩
    · rw [hmap] at hm6 ba6
      rw [hmap]
      simp only at hm6 ba6
      have h6 := mm_mem2 h5 e6 hane i1 hm6
      have s6 := e6.size
      have nF6 : ∀ r, ¬ F5 r → r < w5.heap.size → ¬ F6 r := fun r h1 h2 h3 => by rcases i1 r h3 with hq | hq; exact h1 hq; omega
      have hx5 : ¬ F5 x := nF5 x hxi hx4
      have hxb6 := e6.get (by rintro (hq | hq); exact hx5 hq; omega) hxb5
      have hspa : sp ≠ w2.heap.size := by omega
      have bs6 := e6.get (by rintro (hq | hq); exact hsp hq; omega) bs5
      have e06 : Ext w w6 := e05.trans' e6 fun r hr hlt => by
        rcases hr with hr | hr
        · rcases k1 r hr with hq | hq
          · have := hFi r hq; omega
          · omega
        · omega
      with_reducible refine XQ.of rfl ?_; refine x_nil ?_; refine qstep ?_; refine XQ.of rfl ?_; refine x_field0 ?_; refine qstep ?_; refine XQ.of rfl ?_; refine x_load1 ‹_› (at_S at_2) ?_; refine qstep ?_; refine XQ.of rfl ?_; refine x_addN (by rw [IntKind.wrap_i64]; omega) ?_; refine qstep ?_
      refine x_callF (root_c (w := drw w6) bs6 ?_)
      with_reducible refine And.intro ?_ ?_; refine XQ.of rfl ?_; refine x_addN (by rw [IntKind.wrap_i64]; omega) ?_; refine qstep ?_; exact rfl; refine And.intro ?_ ?_; refine XQ.of rfl ?_; refine x_load1 ‹_› (at_S at_2) ?_; refine qstep ?_; exact rfl; refine And.intro ?_ ?_; refine XQ.of rfl ?_; refine x_field0 ?_; refine qstep ?_; exact rfl; refine And.intro ?_ ?_; refine XQ.of rfl ?_; refine x_nil ?_; refine qstep ?_; exact rfl
      have h6d := h6.ext (Ext.drw_self w6)
      rw [show (i : Int) + 1 = ((i + 1 : Nat) : Int) by omega]
      refine x_callF (Root_m (cell := ((i + 1 : Nat) : Int)) (table := 163840 + 4096 * tk) h6d (by omega) (by omega) fun w7 e7 h7 => ?_)
      replace e7 : Fr (fun r => r = rb ∨ r = tb) w6 w7 := (Fr.of_ext (Ext.drw_self w6)).trans e7
      have s7 : w6.heap.size ≤ w7.heap.size := e7.size
      have hxb7 := e7.get (show ¬ (x = rb ∨ x = tb) by omega) hxb6
      have ba7 := e7.get (show ¬ (_ ∨ _) by omega) ba6
      have e07 : Ext w w7 := e06.trans' e7 fun r hr hlt => by omega
      refine x_neq (fun hc => by omega) (fun hc => ?_)
      with_reducible refine XG.yes ?_; refine x_val ?_; refine XG.yes ?_
      refine x_neq (fun hc => by omega) (fun hc => ?_)
      with_reducible refine x_pickF ?_; refine Cnd.no ?_; refine x_addN (by rw [IntKind.wrap_i64]; omega) ?_
      refine ⟨⟨i + 1, F6, M', rootsU roots ((i + 1 : Nat) : Int) (163840 + 4096 * tk), t', by congr 1, by omega, e07, by omega, fun r hr => ?_, nF6 x hx5 (by omega), nF6 _ (nF5 _ hai (lt_of_blk ba4)) (by omega), hxb7, ba7, by omega, h7, ?_, fun y hy => ?_, ?_⟩, by simp only; omega⟩
      · rcases i1 r hr with hq | hq
        · rcases k1 r hq with hq' | hq'
          · exact hFi r hq'
          · omega
        · omega
      · have hzM : ∀ y, y < 163840 + 4096 * tk → M' y = M y := fun y hy => by rw [q4 y (by omega), put_out (by omega)]
        have hlen : (Ls.take (i + 1)).length = i + 1 := by rw [List.length_take]; omega
        have hlen0 : (Ls.take i).length = i := by rw [List.length_take]; omega
        refine ⟨fun k hk => ?_, fun j hj => ?_⟩
        · unfold rootsU
          rw [if_neg (by omega)]
          exact htabs.1 k (by omega)
        · rw [hlen] at hj
          unfold rootsU
          by_cases hji : j = i
          · subst hji
            rw [if_pos rfl]
            refine ⟨_, rfl, ?_⟩
            rw [List.getElem_take]
            exact q3
          · rw [if_neg (by omega)]
            obtain ⟨root, r1, r2⟩ := htabs.2 j (by omega)
            refine ⟨root, r1, ?_⟩
            rw [List.getElem_take] at r2 ⊢
            exact r2.keep (by omega) (by omega) fun y _ hy => hzM y hy
      · rw [q4 y (by omega), put_out (by omega)]
        exact hz y hy
      · simp only [builtR]
        rw [hbu]
        simp only
        rw [List.getD_eq_getElem?_getD, List.getElem?_eq_getElem hil, Option.getD_some, hmap]
  · unfold S10_j17
    have hil : i = Ls.length := by omega
    rw [hil, List.take_length] at htabs
    refine h w4 x u m c t tb rb FMi M roots e4 (by omega) (by omega) (by omega) (by omega) (by omega) (by omega) (by omega) hFi hxi hxne hxb4 h4 (htabs.keep (by omega) (by omega) fun _ _ _ => rfl) hz ⟨tk, by rw [← hil]; exact hbu⟩
end Go.Eng
namespace Go.Eng
open Go.Proofs Go.MapKept
def cellL (Ls : List (List Rg)) (cell : Int) : List Rg := if 1 ≤ cell ∧ cell ≤ Ls.length then Ls.getD (cell.toNat - 1) [] else []
structure Good (s : MS) (roots : Int → Option Nat) (Ls : List (List Rg)) : Prop where
  n : s.n = 64
  tabs : Tabs s.M 262144 roots Ls
  tlb : ∀ e ∈ s.L, ∃ r, foundR (cellL Ls e.cell) (4096 * e.page) = some r ∧ e.frame = r.p / 4096 ∧ e.perm = r.perm
  ok : ∀ l ∈ Ls, OkCell l
theorem cellL_ok {Ls : List (List Rg)} {cell : Int} (h : ∀ l ∈ Ls, OkCell l) : OkCell (cellL Ls cell) := by
  unfold cellL
  split
  · rename_i hc
    have : cell.toNat - 1 < Ls.length := by omega
    rw [List.getD_eq_getElem?_getD, List.getElem?_eq_getElem this]
    exact h _ (List.getElem_mem this)
  · exact ⟨by simp, List.Pairwise.nil⟩
theorem cellL_root {Ls : List (List Rg)} {M : Nat → Nat} {roots : Int → Option Nat} {cell : Int} (h : Tabs M 262144 roots Ls) :
    (roots cell = none ∧ cellL Ls cell = []) ∨ ∃ root, roots cell = some root ∧ CellTab M root 262144 (cellL Ls cell) := by
  by_cases hc : 1 ≤ cell ∧ cell ≤ Ls.length
  · right
    obtain ⟨root, h1, h2⟩ := h.2 (cell.toNat - 1) (by omega)
    rw [show ((cell.toNat - 1 + 1 : Nat) : Int) = cell by omega] at h1
    refine ⟨root, h1, ?_⟩
    unfold cellL
    rw [if_pos hc, List.getD_eq_getElem?_getD, List.getElem?_eq_getElem (by omega)]
    exact h2
  · left
    exact ⟨h.1 cell (by omega), by unfold cellL; rw [if_neg hc]⟩
theorem wantR_zero {l : List Rg} {va b : Nat} (h : (wantR l va b).2 ≠ 0) : (wantR l va b).1 = 0 := by
  unfold wantR at h ⊢
  split
  · rfl
  · split
    · rfl
    · rename_i r hf hb
      rw [hf] at h
      simp only at h
      rw [if_neg hb] at h
      exact absurd rfl h
theorem foundR_page {l : List Rg} {va : Nat} : foundR l (4096 * (va / 4096)) = foundR l va := by
  unfold foundR
  rw [show 4096 * (va / 4096) / 4096 = va / 4096 by omega]
theorem found_lt {l : List Rg} (hok : OkCell l) {va : Nat} {r : Rg} (h : foundR l va = some r) : r ∈ l ∧ r.p % 4096 = 0 ∧ r.p < 131072 ∧ okP r.perm := by
  have hm := List.mem_of_find?_eq_some h
  have := hok.each r hm
  exact ⟨hm, this.2.2.1, this.2.2.2.1, this.2.2.2.2.1⟩
theorem known_want {l : List Rg} (hok : OkCell l) {va : Nat} {r : Rg} {a : Int} (ha : a = 1 ∨ a = 2 ∨ a = 3) (h : foundR l va = some r) : (knownR 64 (r.p / 4096) r.perm va a).1 = (wantR l va (bitA a)).1 ∧ (knownR 64 (r.p / 4096) r.perm va a).2 = (wantR l va (bitA a)).2 := by
  obtain ⟨_, h1, h2, h3⟩ := found_lt hok h
  unfold wantR knownR
  rw [h, allows_bit h3 ha]
  simp only
  by_cases hb : r.perm &&& bitA a = 0
  · simp [hb]
  · simp only [hb, decide_false, Bool.not_false, Bool.true_eq_false, if_false]
    rw [if_neg (by omega)]
    exact ⟨by simp only; omega, rfl⟩
theorem Good.acc {s s' : MS} {roots : Int → Option Nat} {Ls : List (List Rg)} (h : Good s roots Ls) (hs : sameBut s s') : Good s' roots Ls := by
  obtain ⟨h1, h2, h3, h4, h5, h6, h7, h8⟩ := hs
  exact ⟨h1.trans h.n, by rw [h2]; exact h.tabs, by rw [h5]; exact h.tlb, h.ok⟩
theorem tr_good {s : MS} {roots : Int → Option Nat} {Ls : List (List Rg)} (h : Good s roots Ls) {cell a : Int} {va : Nat} (hv : va < 4294967296) (ha : a = 1 ∨ a = 2 ∨ a = 3) :
    (trR s roots cell va a).1.1 = (wantR (cellL Ls cell) va (bitA a)).1 ∧ (trR s roots cell va a).1.2.2 = (wantR (cellL Ls cell) va (bitA a)).2 ∧ Good (trR s roots cell va a).2 roots Ls := by
  have hok := cellL_ok (cell := cell) h.ok
  rcases cellL_root (cell := cell) h.tabs with ⟨h1, h2⟩ | ⟨root, h1, h2⟩
  · unfold trR
    rw [h1, h2]
    exact ⟨rfl, rfl, h⟩
  · unfold trR
    rw [h1]
    simp only
    cases hf : s.L.find? (·.is cell (va / 4096)) with
    | some e =>
      simp only
      have hem := List.mem_of_find?_eq_some hf
      have hei := List.find?_some hf
      obtain ⟨hc, hp⟩ := is_iff.1 hei
      obtain ⟨r, k1, k2, k3⟩ := h.tlb e hem
      rw [hc, hp, foundR_page] at k1
      rw [h.n, k2, k3]
      obtain ⟨w1, w2⟩ := known_want hok ha k1
      refine ⟨w1, w2, ⟨h.n, h.tabs, fun x hx => ?_, h.ok⟩⟩
      simp only [useT] at hx
      rcases List.mem_cons.1 hx with rfl | hx
      · exact ⟨r, by simp only; rw [foundR_page]; exact k1, rfl, rfl⟩
      · exact h.tlb x (rm_mem.1 hx).1
    | none =>
      simp only
      rw [h.n]
      obtain ⟨w1, w2, w3⟩ := walk_cell h2 hok hv ha
      have hacc := h.acc (accAll_same ((walkR s.M 64 root va a).2.1.map (·.1)) s)
      split
      · rename_i hx
        rw [w2] at hx
        exact ⟨(wantR_zero hx).symm, w2, hacc⟩
      · rename_i hx
        have hx0 : (walkR s.M 64 root va a).2.2 = 0 := by simpa using hx
        refine ⟨w1, by simp only; rw [← w2, hx0], ⟨hacc.n, hacc.tabs, fun x hxm => ?_, h.ok⟩⟩
        obtain ⟨r, hr, hl⟩ := w3 hx0
        simp only [putT] at hxm
        rcases List.mem_cons.1 hxm with rfl | hxm
        · exact ⟨r, by simp only; rw [foundR_page]; exact hr, by simp only; rw [hl], by simp only; rw [hl]⟩
        · refine hacc.tlb x ?_
          split at hxm
          · exact (rm_mem.1 hxm).1
          · exact (List.dropLast_sublist _).subset hxm
theorem want_to {l : List Rg} (hok : OkCell l) {va b : Nat} (h : (wantR l va b).2 = 0) : ∃ r ∈ l, (wantR l va b).1 = r.p + va % 4096 ∧ r.p % 4096 = 0 ∧ r.p < 131072 := by
  unfold wantR at h ⊢
  cases hf : foundR l va with
  | none => rw [hf] at h; simp at h
  | some r =>
    rw [hf] at h
    simp only at h ⊢
    obtain ⟨h1, h2, h3, h4⟩ := found_lt hok hf
    split at h
    · simp at h
    · rename_i hb
      rw [if_neg hb]
      exact ⟨r, h1, rfl, h2, h3⟩
theorem get_good {s : MS} {roots : Int → Option Nat} {Ls : List (List Rg)} (h : Good s roots Ls) {cell a size : Int} {va : Nat} (hv : va < 4294967296) (ha : a = 1 ∨ a = 2 ∨ a = 3) (hf : fitsR va size = true) :
    (getR s roots cell va size a).1.2.2 = (wantR (cellL Ls cell) va (bitA a)).2 ∧ (getR s roots cell va size a).1.1 = (if (wantR (cellL Ls cell) va (bitA a)).2 = 0 then ldv s.M (wantR (cellL Ls cell) va (bitA a)).1 size.toNat else 0) ∧ Good (getR s roots cell va size a).2 roots Ls := by
  obtain ⟨h1, h2, h3⟩ := tr_good h (cell := cell) hv ha
  unfold getR
  rw [if_neg (by simp [hf])]
  simp only
  rw [h2]
  split
  · rename_i hx
    exact ⟨rfl, rfl, h3⟩
  · rename_i hx
    have hx0 : (wantR (cellL Ls cell) va (bitA a)).2 = 0 := by simpa using hx
    refine ⟨hx0.symm, by simp only; rw [if_pos hx0, h1], h3.acc accS_same⟩
def Apart (l : List Rg) (M M' : Nat → Nat) : Prop := ∀ y, (∀ r ∈ l, ¬ (r.p ≤ y ∧ y < r.p + 4096)) → M' y = M y
theorem Apart.refl {l : List Rg} {M : Nat → Nat} : Apart l M M := fun _ _ => rfl
theorem Apart.trans {l : List Rg} {M M' M'' : Nat → Nat} (h : Apart l M M') (k : Apart l M' M'') : Apart l M M'' := fun y hy => (k y hy).trans (h y hy)
theorem Apart.hi {l : List Rg} {M M' : Nat → Nat} (h : Apart l M M') (hok : OkCell l) : ∀ y, 131072 ≤ y → M' y = M y := fun y hy => h y fun r hr => by
  obtain ⟨_, _, h2, h3, _⟩ := hok.each r hr
  omega
theorem Good.put {s : MS} {roots : Int → Option Nat} {Ls : List (List Rg)} {M' : Nat → Nat} (h : Good s roots Ls) (hM : ∀ y, 131072 ≤ y → M' y = s.M y) : Good { s with M := M' } roots Ls :=
  ⟨h.n, h.tabs.keep (Nat.le_refl _) (Nat.le_refl _) fun x h1 _ => hM x (by omega), h.tlb, h.ok⟩
theorem apart_put {l : List Rg} {M : Nat → Nat} {r : Rg} (hr : r ∈ l) {o : Nat} {bs : List Nat} (h : o + bs.length ≤ 4096) : Apart l M (put M (r.p + o) bs) := fun y hy => put_out (by have := hy r hr; omega)
theorem st_good {s : MS} {roots : Int → Option Nat} {Ls : List (List Rg)} (h : Good s roots Ls) {cell size : Int} {va v : Nat} (hv : va < 4294967296) (hf : fitsR va size = true) :
    (stR s roots cell va size v).1.2 = (wantR (cellL Ls cell) va 2).2 ∧ (stR s roots cell va size v).2.M = (if (wantR (cellL Ls cell) va 2).2 = 0 then put s.M (wantR (cellL Ls cell) va 2).1 ((stb v).take size.toNat) else s.M) ∧ Good (stR s roots cell va size v).2 roots Ls ∧ Apart (cellL Ls cell) s.M (stR s roots cell va size v).2.M := by
  obtain ⟨h1, h2, h3⟩ := tr_good h (cell := cell) (a := 2) hv (by omega)
  rw [show bitA 2 = 2 from rfl] at h1 h2
  have hok := cellL_ok (cell := cell) h.ok
  have hsame := (@trR_same s roots cell 2 va).2.1
  unfold stR
  rw [if_neg (by simp [hf])]
  simp only
  rw [h2]
  split
  · rename_i hx
    exact ⟨rfl, hsame, h3, by simp only; rw [hsame]; exact .refl⟩
  · rename_i hx
    have hx0 : (wantR (cellL Ls cell) va 2).2 = 0 := by simpa using hx
    obtain ⟨r, hr, hto, hp1, hp2⟩ := want_to hok hx0
    obtain ⟨z, rfl, hz, _, hz2⟩ := fits_to (f := 0) hf
    have hap : Apart (cellL Ls cell) s.M (Go.Eng.put s.M (trR s roots cell va 2).1.1 ((stb v).take (z : Int).toNat)) := by
      rw [h1, hto]
      exact apart_put hr (by rw [List.length_take, Int.toNat_natCast]; omega)
    refine ⟨hx0.symm, by simp only; rw [if_pos hx0, h1], ?_, hap⟩
    refine (h3.acc (accS_same (a := (trR s roots cell va 2).1.1) (wr := true))).put fun y hy => ?_
    rw [hap.hi hok y hy]
    exact congrFun hsame.symm y
end Go.Eng
namespace Go.Eng
open Go.Proofs Go.MapKept
def wantL (l : List Rg) (b : Nat) : List Nat → List Nat × Int
  | [] => ([], 0)
  | a :: xs => if (wantR l a b).2 ≠ 0 then ([(wantR l a b).1], (wantR l a b).2) else ((wantR l a b).1 :: (wantL l b xs).1, (wantL l b xs).2)
theorem fits4 {a : Nat} (h : a % 4 = 0) : fitsR a 4 = true := by unfold fitsR; exact decide_eq_true (by omega)
theorem readL_good {roots : Int → Option Nat} {Ls : List (List Rg)} {cell : Int} : ∀ (xs : List Nat) (s : MS), Good s roots Ls → (∀ a ∈ xs, a < 4294967296 ∧ a % 4 = 0) →
    (readL s roots cell xs).1.2.1 = (wantL (cellL Ls cell) 1 xs).2 ∧ ((wantL (cellL Ls cell) 1 xs).2 = 0 → (readL s roots cell xs).1.2.2 = (wantL (cellL Ls cell) 1 xs).1.flatMap fun to => stb (ldv s.M to 4)) ∧ Good (readL s roots cell xs).2 roots Ls
  | [], s, h, _ => ⟨rfl, fun _ => rfl, h⟩
  | a :: xs, s, h, ha => by
    obtain ⟨a1, a2⟩ := ha a (by simp)
    obtain ⟨h1, h2, h3⟩ := get_good h (cell := cell) (a := 1) (size := 4) a1 (by omega) (fits4 a2)
    rw [show bitA 1 = 1 from rfl] at h1 h2
    have hM := (@getR_same s roots cell 1 4 a).2.1
    obtain ⟨k1, k2, k3⟩ := readL_good xs _ h3 (fun x hx => ha x (List.mem_cons_of_mem _ hx))
    simp only [readL, wantL]
    rw [h1]
    by_cases hx : (wantR (cellL Ls cell) a 1).2 ≠ 0
    · rw [if_pos hx, if_pos hx]
      exact ⟨rfl, fun h0 => absurd h0 hx, h3⟩
    · rw [if_neg hx, if_neg hx]
      refine ⟨k1, fun h0 => ?_, k3⟩
      simp only at h0 ⊢
      rw [k2 h0, h2, if_pos (by simpa using hx), hM]
      rfl
theorem wrL_good {roots : Int → Option Nat} {Ls : List (List Rg)} {cell : Int} : ∀ (xs : List Nat) (s : MS), Good s roots Ls → (∀ a ∈ xs, a < 4294967296 ∧ a % 4 = 0) →
    (wrL s roots cell xs).1.2.1 = (wantL (cellL Ls cell) 2 xs).2 ∧ ((wantL (cellL Ls cell) 2 xs).2 = 0 → (wrL s roots cell xs).1.2.2 = (wantL (cellL Ls cell) 2 xs).1) ∧ Good (wrL s roots cell xs).2 roots Ls
  | [], s, h, _ => ⟨rfl, fun _ => rfl, h⟩
  | a :: xs, s, h, ha => by
    obtain ⟨a1, a2⟩ := ha a (by simp)
    obtain ⟨h2, h1, h3⟩ := tr_good h (cell := cell) (a := 2) a1 (by omega)
    rw [show bitA 2 = 2 from rfl] at h1 h2
    obtain ⟨k1, k2, k3⟩ := wrL_good xs _ h3 (fun x hx => ha x (List.mem_cons_of_mem _ hx))
    simp only [wrL, wantL]
    rw [h1]
    by_cases hx : (wantR (cellL Ls cell) a 2).2 ≠ 0
    · rw [if_pos hx, if_pos hx]
      exact ⟨rfl, fun h0 => absurd h0 hx, h3⟩
    · rw [if_neg hx, if_neg hx]
      refine ⟨k1, fun h0 => ?_, k3⟩
      simp only at h0 ⊢
      rw [k2 h0, h2]
def wrM (M : Nat → Nat) : List Nat → List Nat → (Nat → Nat)
  | [], _ => M
  | to :: ps, l => wrM (put M to (l.take 4)) ps (l.drop 4)
theorem wr2_M : ∀ (ps l : List Nat) (s : MS), (wr2 s ps l).2.M = wrM s.M ps l ∧ sameBut { s with M := wrM s.M ps l } (wr2 s ps l).2
  | [], l, s => ⟨rfl, rfl, rfl, rfl, rfl, rfl, rfl, rfl, rfl⟩
  | to :: ps, l, s => by
    obtain ⟨h1, a1, a2, a3, a4, a5, a6, a7, a8⟩ := wr2_M ps (l.drop 4) { (accS s to true).2 with M := put (accS s to true).2.M to (l.take 4) }
    exact ⟨h1, a1, a2, a3, a4, a5, a6, a7, a8⟩
theorem wantL_tos {l : List Rg} (hok : OkCell l) {b : Nat} : ∀ (xs : List Nat), (∀ a ∈ xs, a % 4 = 0) → (wantL l b xs).2 = 0 → (wantL l b xs).1.length = xs.length ∧ ∀ to ∈ (wantL l b xs).1, ∃ r ∈ l, ∃ o, to = r.p + o ∧ o + 4 ≤ 4096 ∧ r.p % 4096 = 0 ∧ r.p < 131072
  | [], _, _ => by simp [wantL]
  | a :: xs, ha, h => by
    simp only [wantL] at h ⊢
    by_cases hx : (wantR l a b).2 ≠ 0
    · rw [if_pos hx] at h; exact absurd h hx
    · rw [if_neg hx] at h ⊢
      obtain ⟨k1, k2⟩ := wantL_tos hok xs (fun x hx => ha x (List.mem_cons_of_mem _ hx)) h
      refine ⟨by simp [k1], fun to hm => ?_⟩
      rcases List.mem_cons.1 hm with rfl | hm
      · obtain ⟨r, hr, h1, h2, h3⟩ := want_to hok (by simpa using hx)
        have := ha a (by simp)
        exact ⟨r, hr, a % 4096, h1, by omega, h2, h3⟩
      · exact k2 to hm
theorem wrM_apart {l : List Rg} : ∀ (ps bs : List Nat) (M : Nat → Nat), (∀ to ∈ ps, ∃ r ∈ l, ∃ o, to = r.p + o ∧ o + 4 ≤ 4096 ∧ r.p % 4096 = 0 ∧ r.p < 131072) → Apart l M (wrM M ps bs)
  | [], bs, M, _ => .refl
  | to :: ps, bs, M, h => by
    obtain ⟨r, hr, o, rfl, ho, _⟩ := h to (by simp)
    simp only [wrM]
    exact (apart_put hr (by rw [List.length_take]; omega)).trans (wrM_apart ps _ _ fun x hx => h x (List.mem_cons_of_mem _ hx))
theorem write_good {s : MS} {roots : Int → Option Nat} {Ls : List (List Rg)} {cell : Int} {at_ : Nat} {l : List Nat} (h : Good s roots Ls) (hm : msgR at_ l.length = true) (hv : at_ < 4294967296) :
    (writeR s roots cell at_ l).1.2 = (wantL (cellL Ls cell) 2 (addrs at_ l.length)).2 ∧
    (writeR s roots cell at_ l).2.M = (if (wantL (cellL Ls cell) 2 (addrs at_ l.length)).2 = 0 then wrM s.M (wantL (cellL Ls cell) 2 (addrs at_ l.length)).1 l else s.M) ∧
    Good (writeR s roots cell at_ l).2 roots Ls ∧ Apart (cellL Ls cell) s.M (writeR s roots cell at_ l).2.M := by
  have hm' := hm
  unfold msgR at hm'
  rw [decide_eq_true_eq] at hm'
  have hadr : ∀ x ∈ addrs at_ l.length, x < 4294967296 ∧ x % 4 = 0 := fun x hx => by
    simp only [addrs, List.mem_map, List.mem_range] at hx
    obtain ⟨i, hi, rfl⟩ := hx
    omega
  obtain ⟨k1, k2, k3⟩ := wrL_good (cell := cell) (addrs at_ l.length) s h hadr
  have hsame := (wrL_same (roots := roots) (cell := cell) (addrs at_ l.length) s).2.1
  unfold writeR
  rw [if_neg (by simp [hm])]
  simp only
  rw [k1]
  by_cases hx : (wantL (cellL Ls cell) 2 (addrs at_ l.length)).2 ≠ 0
  · rw [if_pos hx, if_neg hx]
    exact ⟨rfl, hsame, k3, by simp only; rw [hsame]; exact .refl⟩
  · have hx0 : (wantL (cellL Ls cell) 2 (addrs at_ l.length)).2 = 0 := by simpa using hx
    rw [if_neg hx, if_pos hx0]
    obtain ⟨m1, m2⟩ := wr2_M (wrL s roots cell (addrs at_ l.length)).1.2.2 l (wrL s roots cell (addrs at_ l.length)).2
    rw [k2 hx0, hsame] at m1 m2
    have htos := (wantL_tos (cellL_ok (cell := cell) h.ok) (addrs at_ l.length) (fun x hx => (hadr x hx).2) hx0).2
    have hap := wrM_apart (wantL (cellL Ls cell) 2 (addrs at_ l.length)).1 l s.M htos
    refine ⟨hx0.symm, by simp only; rw [k2 hx0, m1], ?_, by simp only; rw [k2 hx0, m1]; exact hap⟩
    simp only
    rw [k2 hx0]
    refine Good.acc (s := { (wrL s roots cell (addrs at_ l.length)).2 with M := wrM s.M (wantL (cellL Ls cell) 2 (addrs at_ l.length)).1 l }) (k3.put fun y hy => ?_) m2
    rw [hap.hi (cellL_ok (cell := cell) h.ok) y hy]
    exact congrFun hsame.symm y
theorem fl_good {s : MS} {roots : Int → Option Nat} {Ls : List (List Rg)} (h : Good s roots Ls) : Good (flR s).2 roots Ls := ⟨h.n, h.tabs, by simp [flR], h.ok⟩
end Go.Eng
namespace Go.Eng
open Go.Proofs Go.MapKept
variable {w : World} {K : Value → World → Prop} {E : List PanicEntry → World → Prop}
structure SpV where
  cell : Int
  page : Int
  frame : Int
  perm : Int
structure SpV.Ok (s : SpV) : Prop where
  cell : i64 s.cell
  page : i64 s.page
  frame : i64 s.frame
  perm : i64 s.perm
def SpV.val (s : SpV) : List Value := [.int .i64 s.cell, .int .i64 s.page, .int .i64 s.frame, .int .i64 s.perm]
def RowsAt (w : World) (lo : Nat) (size : Nat) (v : Value) (rows : List (List Value)) : Prop :=
  ∃ a cap, v = .slice a rows.length cap ∧ rows.length ≤ cap ∧ (rows ≠ [] → ∃ g o c T fz, a = some ⟨g, o, none⟩ ∧ g < lo ∧ w.heap[g]? = some (.cells c T fz) ∧ ∀ (i : Nat) (h : i < rows.length), SubAt c (o + size * i) size rows[i].toArray)
theorem RowsAt.frame {w' : World} {lo : Nat} {size : Nat} {v : Value} {rows : List (List Value)} {S : Nat → Prop} (h : RowsAt w lo size v rows) (hf : Fr S w w') (hs : ∀ r, r < lo → ¬ S r) : RowsAt w' lo size v rows := by
  obtain ⟨a, cap, rfl, h1, h2⟩ := h
  refine ⟨a, cap, rfl, h1, fun hn => ?_⟩
  obtain ⟨g, o, c, T, fz, k1, k2, k3, k4⟩ := h2 hn
  exact ⟨g, o, c, T, fz, k1, k2, hf.get (hs g k2) k3, k4⟩
def spR (s : SpV) : Rg := ⟨vaR (pickR s.page 30), 4096 * pickR s.frame 32, 1, permR s.perm⟩
def rngS (f : Nat → List Rg) (s : SpV) : Nat → List Rg := fun k => if k = pickR s.cell 4 ∧ (f k).all (fun r => decide (r.v ≠ (spR s).v)) = true then f k ++ [spR s] else f k
def rngs (l : List SpV) : Nat → List Rg := l.foldl rngS fun _ => []
theorem permR_ok {n : Int} : okP (permR n) ∧ permR n < 256 := by
  have h5 := pickR_lt (c := n) (n := 5) (by omega)
  unfold permR permL
  generalize pickR n 5 = i at *
  have : i = 0 ∨ i = 1 ∨ i = 2 ∨ i = 3 ∨ i = 4 := by omega
  rcases this with rfl | rfl | rfl | rfl | rfl <;> simp [okP]
theorem vaR_mod {k : Nat} (h : k < 33) : vaR k % 4096 = 0 ∧ vaR k / 4096 < 2048 ∧ vaR k < 4294967296 := by unfold vaR; split <;> omega
theorem rngs_ok (l : List SpV) (k : Nat) : OkCell (rngs l k) ∧ (∀ r ∈ rngs l k, r.Ok) ∧ (rngs l k).length ≤ l.length := by
  unfold rngs
  suffices h : ∀ (l : List SpV) (f : Nat → List Rg) (n : Nat), (∀ k, OkCell (f k) ∧ (∀ r ∈ f k, r.Ok) ∧ (f k).length ≤ n) → ∀ k, OkCell (l.foldl rngS f k) ∧ (∀ r ∈ l.foldl rngS f k, r.Ok) ∧ (l.foldl rngS f k).length ≤ n + l.length by
    have := h l (fun _ => []) 0 (fun k => ⟨⟨by simp, List.Pairwise.nil⟩, by simp, by simp⟩) k
    simpa using this
  intro l
  induction l with
  | nil => intro f n h k; simpa using h k
  | cons s l ih =>
    intro f n h k
    simp only [List.foldl_cons, List.length_cons]
    have := ih (rngS f s) (n + 1) (fun k => ?_) k
    · obtain ⟨a, b, c⟩ := this
      exact ⟨a, b, by omega⟩
    obtain ⟨h1, h2, h3⟩ := h k
    unfold rngS
    split
    · rename_i hc
      have hpg := pickR_lt (c := s.page) (n := 30) (by omega)
      have hfr := pickR_lt (c := s.frame) (n := 32) (by omega)
      obtain ⟨v1, v2, v3⟩ := vaR_mod (k := pickR s.page 30) (by omega)
      obtain ⟨p1, p2⟩ := permR_ok (n := s.perm)
      have hall := List.all_eq_true.1 hc.2
      refine ⟨⟨fun r hr => ?_, ?_⟩, fun r hr => ?_, by simp; omega⟩
      · rcases List.mem_append.1 hr with hr | hr
        · exact h1.each r hr
        · rw [List.mem_singleton.1 hr]
          exact ⟨rfl, v1, by simp only [spR]; omega, by simp only [spR]; omega, p1, v2⟩
      · rw [List.pairwise_append]
        refine ⟨h1.apart, List.pairwise_singleton _ _, fun a ha b hb => ?_⟩
        rw [List.mem_singleton.1 hb]
        have := of_decide_eq_true (hall a ha)
        obtain ⟨_, hm, _⟩ := h1.each a ha
        have hv : (spR s).v % 4096 = 0 := v1
        omega
      · rcases List.mem_append.1 hr with hr | hr
        · exact h2 r hr
        · rw [List.mem_singleton.1 hr]
          exact ⟨v3, by simp only [spR]; omega, by simp only [spR]; omega, p2⟩
    · exact ⟨h1, h2, by omega⟩
theorem rngs_take {l : List SpV} {i : Nat} (h : i < l.length) : rngs (l.take (i + 1)) = rngS (rngs (l.take i)) l[i] := by
  unfold rngs
  rw [List.take_succ_eq_append_getElem h, List.foldl_append]
  rfl
def rgs (l : List Rg) : List Value := l.flatMap rgV
theorem rgs_at {l : List Rg} {i : Nat} (h : i < l.length) : ((rgs l).drop (4 * i)).take 4 = rgV l[i] := by
  induction l generalizing i with
  | nil => simp at h
  | cons a l ih =>
    cases i with
    | zero => simp [rgs, rgV]
    | succ i =>
      have h' : i < l.length := by simpa using h
      have := ih h'
      rw [show 4 * (i + 1) = 4 * i + 4 by omega]
      simp only [rgs, List.flatMap_cons, List.getElem_cons_succ] at this ⊢
      rw [← this, show 4 * i + 4 = (rgV a).length + 4 * i by simp [rgV]; omega, List.drop_append, List.drop_eq_nil_of_le (by omega), List.nil_append, Nat.add_sub_cancel_left]
def RgsO (w : World) (base ga : Nat) (f : Nat → List Rg) : Prop :=
  ∃ c, w.heap[ga]? = some (.cells c 57 (0, 0)) ∧ c.size = 4 ∧ ∀ k, k < 4 → ∃ v, c[k]? = some v ∧ w.ownsRow base 60 4 v (f k).length (rgs (f k)) ∧ v.ownBlock ≠ some ga ∧ ∀ j v', j < 4 → j ≠ k → c[j]? = some v' → ∀ r, v.ownBlock = some r → v'.ownBlock ≠ some r
theorem own_rg {base : Nat} {v : Value} {l : List Rg} (h : w.ownsRow base 60 4 v l.length (rgs l)) : RgAt w v l := by
  rcases h.2 with ⟨rfl, h0⟩ | ⟨g, cap, cur, rfl, hb, hg, h1, h2, h3, h4⟩
  · have : l = [] := List.eq_nil_of_length_eq_zero h0
    subst this
    exact ⟨none, 0, rfl, by simp, fun h => absurd rfl h⟩
  · refine ⟨_, cap, rfl, h1, fun _ => ⟨g, 0, cur, rfl, hg, fun i hi => ?_⟩⟩
    exact sub_of_take (N := l.length * 4) (by rw [h3]; exact Nat.mul_le_mul_right _ h1) h4 (by omega) (by rw [Nat.zero_add]; exact rgs_at hi)
def rngL (f : Nat → List Rg) : List (List Rg) := [f 0, f 1, f 2, f 3]
theorem rngL_at {f : Nat → List Rg} {i : Nat} (h : i < (rngL f).length) : (rngL f)[i] = f i := by
  have h4 : i < 4 := h
  have : i = 0 ∨ i = 1 ∨ i = 2 ∨ i = 3 := by omega
  rcases this with rfl | rfl | rfl | rfl <;> rfl
theorem RgsO.at_ {base ga : Nat} {f : Nat → List Rg} (h : RgsO w base ga f) : RgsAt w w.heap.size (.slice (some ⟨ga, 0, none⟩) 4 4) (rngL f) := by
  obtain ⟨c, h1, h2, h3⟩ := h
  refine ⟨ga, 4, c, rfl, lt_of_blk h1, h1, fun i hi => ?_⟩
  obtain ⟨v, k1, k2, k3, k4⟩ := h3 i hi
  rw [rngL_at]
  refine ⟨v, k1, own_rg k2, fun g o n k hv => ?_⟩
  subst hv
  exact (World.ownsRow.lt k2 g rfl).2
theorem rngS_yes {f : Nat → List Rg} {s : SpV} (h : ((f (pickR s.cell 4)).any fun r => decide (r.v = (spR s).v)) = true) : rngS f s = f := by
  funext k
  unfold rngS
  rw [if_neg]
  rintro ⟨rfl, h2⟩
  rw [List.any_eq_true] at h
  obtain ⟨r, hr, he⟩ := h
  have := of_decide_eq_true (List.all_eq_true.1 h2 r hr)
  exact this (of_decide_eq_true he)
theorem rngS_no {f : Nat → List Rg} {s : SpV} (h : ((f (pickR s.cell 4)).any fun r => decide (r.v = (spR s).v)) = false) : rngS f s = fun k => if k = pickR s.cell 4 then f k ++ [spR s] else f k := by
  funext k
  unfold rngS
  by_cases hk : k = pickR s.cell 4
  · subst hk
    rw [if_pos rfl, if_pos]
    refine ⟨rfl, List.all_eq_true.2 fun r hr => decide_eq_true fun he => ?_⟩
    rw [List.any_eq_false] at h
    exact h r hr (decide_eq_true he)
  · rw [if_neg hk, if_neg (fun hx => hk hx.1)]
theorem own_at' {base e size n cap : Nat} {a : Option Addr} {xs : List Value} (h : w.ownsRow base e size (.slice a n cap) n xs) {S : Nat → Prop} {w' : World} (hf : Fr S w w') (hs : ∀ r, (Value.slice a n cap).ownBlock = some r → ¬ S r) : w'.ownsRow base e size (.slice a n cap) n xs := by
  refine ⟨h.1, ?_⟩
  rcases h.2 with hn | ⟨g, cap', cur, hv, hb, hg, rest⟩
  · exact .inl hn
  · rw [hv]
    exact .inr ⟨g, cap', cur, rfl, hb, hf.get (hs g (by rw [hv]; rfl)) hg, rest⟩
end Go.Eng
namespace Go.Eng
open Go.Proofs Go.MapKept
variable {w : World} {K : Value → World → Prop} {E : List PanicEntry → World → Prop}
theorem ranges_c {v : Value} {l : List SpV} {lo : Nat} (hl : RowsAt w lo 4 v (l.map SpV.val)) (hlo : lo ≤ w.heap.size) (hok : ∀ s ∈ l, s.Ok) (hlen : l.length ≤ 9223372036854775807)
   (h : ∀ w', Ext w w' → RgsO w' (w.heap.size + 1) w.heap.size (rngs (l.take 60)) → K (.slice (some ⟨w.heap.size, 0, none⟩) 4 4) w') : C P 7 #[v] w K E := by
  obtain ⟨a, cap, rfl, hcap, hrow⟩ := id hl
  simp only [List.length_map] at hcap ⊢
  apply F7
  unfold S7_0
  have hz : madeCells #[Value.slice none 0 0] (4 * 1) = #[.slice none 0 0, .slice none 0 0, .slice none 0 0, .slice none 0 0] := by kernel_rfl
  refine x_makeN (n := 4) (by omega) (by omega) ?_
  generalize hw1 : World.alloc _ _ = w1
  have e1 : Ext w w1 := by rw [← hw1]; exact (Fr.refl _ w).alloc _
  have b1 : w1.heap[w.heap.size]? = some (.cells #[.slice none 0 0, .slice none 0 0, .slice none 0 0, .slice none 0 0] 57 (0, 0)) := by rw [← hw1, blk_alloc_new, hz]
  clear hw1
  have s1 := e1.size
  have lga := lt_of_blk b1
  unfold S7_l3
  refine ⟨fun v4 w' => ∃ i : Nat, v4 = .int .i64 i ∧ i ≤ 60 ∧ i ≤ l.length ∧ Ext w w' ∧ w1.heap.size ≤ w'.heap.size ∧ RgsO w' (w.heap.size + 1) w.heap.size (rngs (l.take i)), fun v4 _ => match v4 with | .int _ i => 60 - i.toNat | _ => 0, ⟨0, rfl, by omega, by omega, e1, Nat.le_refl _, _, b1, rfl, fun k hk => ⟨.slice none 0 0, ?_, World.ownsRow_nil _ _ _ _, by simp [Value.ownBlock], fun j v' hj hjk hv' r hr => by simp [Value.ownBlock] at hr⟩⟩, ?_⟩
  · have : k = 0 ∨ k = 1 ∨ k = 2 ∨ k = 3 := by omega
    rcases this with rfl | rfl | rfl | rfl <;> rfl
  rintro _ w2 ⟨i, rfl, hi, hil, e2, s2, o2⟩
  unfold S7_b3
  with_reducible refine x_lenS ?_
  refine x_lss (fun hc => ?_) (fun hc => ?_)
  with_reducible refine XG.yes ?_; refine x_val ?_; refine XG.yes ?_
  refine x_lss (fun hc => ?_) (fun hc => ?_)
  with_reducible refine x_pickT ?_; refine Cnd.yes ?_
  rotate_left
  with_reducible refine x_pickT ?_; refine Cnd.no ?_
  rotate_left
  with_reducible refine XG.no (by decide) ?_; refine XG.no (by decide) ?_; refine x_pickF ?_; refine Cnd.no ?_
  rotate_left
  · have hil' : i < l.length := by omega
    have hsk := hok _ (List.getElem_mem hil')
    obtain ⟨g, o, cc, T, fz, rfl, hg, hgb, hsub⟩ := hrow (fun hx => by rw [List.map_eq_nil_iff] at hx; rw [hx] at hil'; simp at hil')
    have hsub := hsub i (by simpa using hil')
    rw [List.getElem_map] at hsub
    have htk := rngs_take hil'
    generalize l[i] = s at *
    have hgb2 := e2.get hgb
    have at0 : cc[o + 4 * i + 0]? = some (.int .i64 s.cell) := sub_at (j := 0) hsub (by omega) rfl
    have at1 : cc[o + 4 * i + 1]? = some (.int .i64 s.page) := sub_at (j := 1) hsub (by omega) rfl
    have at2 : cc[o + 4 * i + 2]? = some (.int .i64 s.frame) := sub_at (j := 2) hsub (by omega) rfl
    have at3 : cc[o + 4 * i + 3]? = some (.int .i64 s.perm) := sub_at (j := 3) hsub (by omega) rfl
    have hk4 := pickR_lt (c := s.cell) (n := 4) (by omega)
    have hpg := pickR_lt (c := s.page) (n := 30) (by omega)
    have key : ∀ va : Nat, va = (spR s).v → S7_j9 (.slice (some ⟨g, o, none⟩) l.length cap) (.slice (some ⟨w.heap.size, 0, none⟩) 4 4) (.int .i64 (i : Nat)) (.int .i64 (pickR s.cell 4 : Nat)) (.int .u32 va) w2 (fun x0 x3 x4 y => S7_j4 x0 x3 x4 y (fun x0 x3 x4 y => (∃ i : Nat, x4 = .int .i64 i ∧ i ≤ 60 ∧ i ≤ l.length ∧ Ext w y ∧ w1.heap.size ≤ y.heap.size ∧ RgsO y (w.heap.size + 1) w.heap.size (rngs (l.take i))) ∧ (match x4 with | .int _ i => 60 - i.toNat | _ => 0) < 60 - i) E) E := fun va hva => by
      have o2' := o2
      obtain ⟨c, c1, c2, c3⟩ := o2'
      obtain ⟨v, k1, k2, k3, k4⟩ := c3 _ hk4
      have hlen := (rngs_ok (l.take i) (pickR s.cell 4)).2.2
      rw [List.length_take] at hlen
      have hvlt : va < 4294967296 := by
        rw [hva]
        exact (vaR_mod (by omega)).2.2
      generalize hf : rngs (l.take i) = f at *
      unfold S7_j9 S7_l11
      refine ⟨fun v7 v8 w' => ∃ j : Nat, v7 = .bool (((f (pickR s.cell 4)).take j).any fun r => decide (r.v = va)) ∧ v8 = .int .i64 j ∧ j ≤ (f (pickR s.cell 4)).length ∧ w2 = w', fun v7 v8 _ => match v8 with | .int _ j => 60 - j.toNat | _ => 0, ⟨0, rfl, rfl, by omega, rfl⟩, ?_⟩
      rintro _ _ w0 ⟨j, rfl, rfl, hj, hw0⟩
      subst hw0
      obtain ⟨a, cp, rfl⟩ := own_len k2
      unfold S7_b11
      refine x_idxS (by omega) ?_
      rw [show 0 + (pickR s.cell 4 : Int).toNat * 1 = pickR s.cell 4 by omega]
      with_reducible refine x_load1 ‹_› ‹_› ?_; refine x_lenS ?_
      refine x_lss (fun hc => ?_) (fun hc => ?_)
      with_reducible refine Cnd.yes ?_
      rotate_left
      with_reducible refine Cnd.no ?_
      rotate_left
      · have hjl : j < (f (pickR s.cell 4)).length := by omega
        have hd : (((f (pickR s.cell 4)).take (j + 1)).any fun r => decide (r.v = va)) = ((((f (pickR s.cell 4)).take j).any fun r => decide (r.v = va)) || decide ((f (pickR s.cell 4))[j].v = va)) := by
          rw [List.take_succ_eq_append_getElem hjl, List.any_append]; simp
        obtain ⟨gg, cur, rfl, hgg, hggb, hsz, ht, _⟩ := own_at k2 (by omega)
        have hsb : SubAt cur (4 * j) 4 (rgV (f (pickR s.cell 4))[j]).toArray := sub_of_take hsz ht (by omega) (rgs_at hjl)
        have hc0 : cur[4 * j + 0]? = some (.int .u32 ((f (pickR s.cell 4))[j].v : Nat)) := sub_at (j := 0) hsb (by omega) rfl
        have hrv := ((rngs_ok (l.take i) (pickR s.cell 4)).2.1 (f (pickR s.cell 4))[j] (by rw [hf]; exact List.getElem_mem hjl)).v
        generalize (f (pickR s.cell 4))[j].v = rv at *
        generalize (((f (pickR s.cell 4)).take j).any fun r => decide (r.v = va)) = b at *
        cases b
        · with_reducible refine XG.yes ?_; refine x_val ?_; refine XG.yes ?_; refine x_val ?_; refine XG.yes ?_
          refine x_idxS (by omega) ?_
          rw [show 0 + (pickR s.cell 4 : Int).toNat * 1 = pickR s.cell 4 by omega]
          with_reducible refine XG.yes ?_; refine x_load1 ‹_› ‹_› ?_; refine XG.yes ?_; refine x_val ?_; refine XG.yes ?_
          refine x_idxS (by omega) ?_
          rw [show 0 + (j : Int).toNat * 4 = 4 * j by omega]
          with_reducible refine XG.yes ?_; refine x_field ?_; refine XG.yes ?_; refine x_load1 ‹_› ‹_› ?_; refine XG.yes ?_; refine x_val ?_; refine XG.yes ?_
          refine x_eql (fun hc => ?_) (fun hc => ?_)
          with_reducible refine x_pickF ?_; refine x_addN (by rw [IntKind.wrap_i64]; omega) ?_
          rotate_left
          with_reducible refine x_pickF ?_; refine x_addN (by rw [IntKind.wrap_i64]; omega) ?_
          rotate_left
          · refine ⟨⟨j + 1, by rw [hd, decide_eq_true (by omega)]; rfl, by congr 1, by omega, rfl⟩, by simp only; omega⟩
          · refine ⟨⟨j + 1, by rw [hd, decide_eq_false (by omega)]; rfl, by congr 1, by omega, rfl⟩, by simp only; omega⟩
        · with_reducible refine XG.no (by decide) ?_; refine XG.no (by decide) ?_; refine XG.no (by decide) ?_; refine XG.no (by decide) ?_; refine XG.no (by decide) ?_; refine XG.no (by decide) ?_; refine XG.no (by decide) ?_; refine XG.no (by decide) ?_; refine XG.no (by decide) ?_; refine XG.no (by decide) ?_; refine x_pickT ?_; refine x_addN (by rw [IntKind.wrap_i64]; omega) ?_
          refine ⟨⟨j + 1, by rw [hd]; rfl, by congr 1, by omega, rfl⟩, by simp only; omega⟩
      · have hjl : j = (f (pickR s.cell 4)).length := by omega
        have hta : (f (pickR s.cell 4)).take j = f (pickR s.cell 4) := List.take_of_length_le (by omega)
        rw [hta]
        simp only
        unfold S7_j14
        cases hb : ((f (pickR s.cell 4)).any fun r => decide (r.v = va))
        · rw [hva] at hb
          rw [rngS_no hb] at htk
          with_reducible refine x_notF ?_; refine Cnd.yes ?_; refine XQ.of rfl ?_
          refine x_idxS (by omega) ?_
          rw [show 0 + (pickR s.cell 4 : Int).toNat * 1 = pickR s.cell 4 by omega]
          with_reducible refine qstep ?_; refine XQ.of rfl ?_; refine x_load1 ‹_› ‹_› ?_; refine qstep ?_; refine XQ.of rfl ?_
          have hfr := pickR_lt (c := s.frame) (n := 32) (by omega)
          obtain ⟨_, pl⟩ := permR_ok (n := s.perm)
          have lagI : ∀ w', X P (Cop.indexAddr 22 (.slice (some ⟨g, o, none⟩) l.length cap) (.int .i64 (i : Nat))) 0 w' (fun v w'' => w'' = w' ∧ v = .pointer (some ⟨g, o + 4 * i, none⟩)) (fun _ _ => False) := fun w' => (x_idxS (by omega) (qstep (by rw [show o + (i : Int).toNat * 4 = o + 4 * i by omega])))
          have lagK : ∀ w', X P (Cop.indexAddr 25 (.slice (some ⟨w.heap.size, 0, none⟩) 4 4) (.int .i64 (pickR s.cell 4 : Nat))) 0 w' (fun v w'' => w'' = w' ∧ v = .pointer (some ⟨w.heap.size, pickR s.cell 4, none⟩)) (fun _ _ => False) := fun w' => (x_idxS (by omega) (qstep (by rw [show 0 + (pickR s.cell 4 : Int).toNat * 1 = pickR s.cell 4 by omega])))
          refine x_idxS (by omega) ?_
          rw [show o + (i : Int).toNat * 4 = o + 4 * i by omega]
          with_reducible refine qstep ?_; refine XQ.of rfl ?_; refine x_field ?_; refine qstep ?_; refine XQ.of rfl ?_; refine x_load1 ‹_› ‹_› ?_; refine qstep ?_; refine XQ.of rfl ?_
          refine x_idxS (by omega) ?_
          rw [show o + (i : Int).toNat * 4 = o + 4 * i by omega]
          with_reducible refine qstep ?_; refine XQ.of rfl ?_; refine x_field ?_; refine qstep ?_; refine XQ.of rfl ?_; refine x_load1 ‹_› ‹_› ?_; refine qstep ?_
          refine x_callF (pick_c (n := 32) hsk.frame (by omega) ?_)
          with_reducible refine And.intro ?_ ?_; refine XQ.of rfl ?_; refine x_load1 ‹_› ‹_› ?_; refine qstep ?_; exact rfl; refine And.intro ?_ ?_; refine XQ.of rfl ?_; refine x_field ?_; refine qstep ?_; exact rfl; refine And.intro ?_ ?_; refine XQ.of rfl ?_
          rotate_left
          with_reducible refine And.intro ?_ ?_; refine XQ.of rfl ?_; refine x_load1 ‹_› ‹_› ?_; refine qstep ?_; exact rfl; refine And.intro ?_ ?_; refine XQ.of rfl ?_
          rotate_left
          with_reducible refine XQ.of rfl ?_; refine x_convN (by rw [IntKind.wrap_u32]; omega) ?_; refine qstep ?_; refine XQ.of rfl ?_; refine x_mulN (by rw [IntKind.wrap_u32]; omega) ?_; refine qstep ?_
          rotate_left
          all_goals first | exact lagI _ | exact lagK _ | skip
          have hpf : (pickR s.frame 32 : Int) * 4096 = ((4096 * pickR s.frame 32 : Nat) : Int) := by omega
          rw [hpf]
          refine x_callF (perms_c hsk.perm fun w3 e3 => ?_)
          replace e3 : Ext w2 w3 := (Ext.drw_self w2).trans e3
          have c13 := e3.get c1
          with_reducible refine And.intro ?_ ?_; refine XQ.of rfl ?_; refine x_mulN (by rw [IntKind.wrap_u32]; omega) ?_; refine qstep ?_
          rotate_left
          with_reducible refine And.intro ?_ ?_; refine XQ.of rfl ?_; refine x_convN (by rw [IntKind.wrap_u32]; omega) ?_; refine qstep ?_; exact rfl; refine And.intro ?_ ?_; refine XQ.of rfl ?_; refine x_load1 ‹_› ‹_› ?_; refine qstep ?_; exact rfl; refine And.intro ?_ ?_; refine XQ.of rfl ?_
          rotate_left
          with_reducible refine XQ.of rfl ?_; refine x_buildS (by apply fill_1; exact inferInstance; exact oneI; exact set_0; apply fill_1; exact inferInstance; exact oneI; apply set_S; exact set_0; rotate_left; apply fill_1; exact inferInstance; exact oneI; apply set_S; apply set_S; exact set_0; rotate_left; rotate_left; apply fill_1; exact inferInstance; exact oneI; apply set_S; apply set_S; apply set_S; exact set_0; rotate_left; rotate_left; rotate_left; exact fill_nil; rotate_left; rotate_left; rotate_left; rotate_left; rotate_left; rotate_left; rotate_left; rotate_left) ?_; refine qstep ?_
          rotate_left
          all_goals first | exact lagI _ | exact lagK _ | skip
          · rw [hpf]
          refine x_bsA (sz := 4) (z := #[.int .u32 0, .int .u32 0, .int .i64 0, .int .u8 0]) (by omega) rfl rfl ?_
          generalize hw4 : World.alloc _ _ = w4
          have e4 : Ext w3 w4 := by rw [← hw4]; exact (Fr.refl _ w3).alloc _
          have b4 : w4.heap[w3.heap.size]? = some (.cells (rgV (spR s)).toArray 60 (0, 0)) := by rw [← hw4, hva]; exact blk_alloc_new
          clear hw4
          have s3 := e3.size
          have s4 := e4.size
          have lt4 := lt_of_blk b4
          have hH : Holds w4 ⟨w3.heap.size, 0, none⟩ (rgs [spR s]) := by
            have := holds_blk (w := w4) (o := 0) (n := 4) b4 (by simp [rgV])
            simpa [rgV, rgs] using this
          have k24 := own_at' (own_at' k2 e3 fun _ _ => id) e4 fun _ _ => id
          have c14 := e4.get c13
          with_reducible refine And.intro ?_ ?_; refine XQ.of rfl ?_; refine x_load1 ‹_› ‹_› ?_; refine qstep ?_; exact rfl; refine And.intro ?_ ?_; refine XQ.of rfl ?_
          all_goals first | exact lagI _ | exact lagK _ | skip
          refine x_appendB (size := 4) (m := 1) (news := rgs [spR s]) (by omega) k24 (by simp [rgs, rgV]) hH (by simp [rgs, rgV, Value.oneCell']) (by simp [maxLen]; omega) (by omega) (by omega) fun v' w5 o5 g5 hvb => ?_
          have e5 : Fr (fun r => (Value.slice a (f (pickR s.cell 4)).length cp).ownBlock = some r) w4 w5 := (Fr.refl _ w4).grown g5 fun r hr _ => hr
          have c15 := e5.get (fun hq => k3 hq) c14
          have o5' : w5.ownsRow (w.heap.size + 1) 60 4 v' (f (pickR s.cell 4) ++ [spR s]).length (rgs (f (pickR s.cell 4) ++ [spR s])) := by
            have e : rgs (f (pickR s.cell 4)) ++ rgs [spR s] = rgs (f (pickR s.cell 4) ++ [spR s]) := by simp [rgs]
            rw [e] at o5
            simpa using o5
          clear o5
          obtain ⟨a', cp', rfl⟩ := own_len o5'
          with_reducible refine XQ.of rfl ?_
          refine x_idxS (by omega) ?_
          rw [show 0 + (pickR s.cell 4 : Int).toNat * 1 = pickR s.cell 4 by omega]
          refine qstep ?_
          refine x_store1 c15 oneS (set_any (by omega)) ?_
          generalize hw6 : setBlk w5 _ _ = w6
          have e6 : Fr (fun r => r = w.heap.size) w5 w6 := by rw [← hw6]; exact Fr.set1 (Fr.refl _ _)
          have c16 : w6.heap[w.heap.size]? = some (.cells (c.setIfInBounds (pickR s.cell 4) (.slice a' (f (pickR s.cell 4) ++ [spR s]).length cp')) 57 (0, 0)) := by rw [← hw6]; exact blk_set_same (lt_of_blk c15)
          clear hw6
          have s5 := e5.size
          have s6 := e6.size
          unfold S7_j4
          with_reducible refine x_addN (by rw [IntKind.wrap_i64]; omega) ?_
          refine ⟨⟨i + 1, by congr 1, by omega, by omega, ?_, by omega, ?_⟩, by simp only; omega⟩
          · refine (((e2.trans e3).trans e4).trans' e5 fun r hr hlt => ?_).trans' e6 fun r hr hlt => by omega
            have := (World.ownsRow.lt k24 r hr).1
            omega
          · rw [htk]
            have hown : ∀ r, (Value.slice a' (f (pickR s.cell 4) ++ [spR s]).length cp').ownBlock = some r → (Value.slice a (f (pickR s.cell 4)).length cp).ownBlock = some r ∨ r = w4.heap.size := fun r hr => by
              rcases hvb with hq | hq
              · rw [← hq]; exact .inl (by rw [← hr])
              · refine .inr ?_
                have : some r = some w4.heap.size := by rw [← hq, ← hr]
                exact Option.some.inj this
            have hself : (c.setIfInBounds (pickR s.cell 4) (.slice a' (f (pickR s.cell 4) ++ [spR s]).length cp'))[pickR s.cell 4]? = some (.slice a' (f (pickR s.cell 4) ++ [spR s]).length cp') := by simp [Array.getElem?_setIfInBounds, c2, hk4]
            refine ⟨_, c16, by simpa using c2, fun k hk => ?_⟩
            by_cases hkk : k = pickR s.cell 4
            · subst hkk
              simp only [if_true]
              refine ⟨_, hself, own_at' o5' e6 fun r hr he => ?_, fun hq => ?_, fun j v' hj hjk hv' r hr hr' => ?_⟩
              · have := (World.ownsRow.lt o5' r hr).1
                omega
              · have := (World.ownsRow.lt o5' _ hq).1
                omega
              · rw [Array.getElem?_setIfInBounds_ne (Ne.symm hjk)] at hv'
                obtain ⟨v'', q1, q2, q3, q4⟩ := c3 j hj
                rw [hv'] at q1
                cases q1
                rcases hown r hr with hq | hq
                · exact k4 j v' hj hjk hv' r hq hr'
                · have := (World.ownsRow.lt q2 r hr').2
                  have := e3.size
                  omega
            · simp only [if_neg hkk]
              obtain ⟨v'', q1, q2, q3, q4⟩ := c3 k hk
              obtain ⟨a'', cp'', rfl⟩ := own_len q2
              refine ⟨_, by rw [Array.getElem?_setIfInBounds_ne (Ne.symm hkk)]; exact q1, own_at' (own_at' (own_at' (own_at' q2 e3 fun _ _ => id) e4 fun _ _ => id) e5 fun r hr hq => ?_) e6 fun r hr hq => ?_, q3, fun j v' hj hjk hv' r hr hr' => ?_⟩
              · exact q4 _ _ hk4 (Ne.symm hkk) k1 r hr hq
              · exact q3 (by rw [hr, hq])
              · by_cases hjj : j = pickR s.cell 4
                · subst hjj
                  have : v' = .slice a' (f (pickR s.cell 4) ++ [spR s]).length cp' := by
                    rw [hself] at hv'
                    exact (Option.some.inj hv').symm
                  subst this
                  rcases hown r hr' with hq | hq
                  · exact q4 _ _ hk4 hjk k1 r hr hq
                  · have := (World.ownsRow.lt q2 r hr).2
                    have := e3.size
                    omega
                · rw [Array.getElem?_setIfInBounds_ne (Ne.symm hjj)] at hv'
                  exact q4 j v' hj hjk hv' r hr hr'
        · rw [hva] at hb
          rw [rngS_yes hb] at htk
          with_reducible refine x_notT ?_; refine Cnd.no ?_
          unfold S7_j4
          with_reducible refine x_addN (by rw [IntKind.wrap_i64]; omega) ?_
          refine ⟨⟨i + 1, by congr 1, by omega, by omega, e2, s2, by rw [htk]; exact o2⟩, by simp only; omega⟩
    have spv : (spR s).v = vaR (pickR s.page 30) := rfl
    skip
    refine x_idxS (by omega) ?_
    rw [show o + (i : Int).toNat * 4 = o + 4 * i by omega]
    with_reducible refine x_field ?_; refine x_load1 ‹_› ‹_› ?_
    refine x_callF (pick_c (n := 4) hsk.cell (by omega) ?_)
    refine x_idxS (by omega) ?_
    rw [show o + (i : Int).toNat * 4 = o + 4 * i by omega]
    with_reducible refine x_field ?_; refine x_load1 ‹_› ‹_› ?_
    refine x_callF (pick_c (n := 30) hsk.page (by omega) ?_)
    with_reducible refine x_convN (by rw [IntKind.wrap_u32]; omega) ?_; refine x_mulN (by rw [IntKind.wrap_u32]; omega) ?_
    refine x_geq (fun hc => ?_) (fun hc => ?_)
    with_reducible refine Cnd.yes ?_; refine x_addN (by rw [IntKind.wrap_u32]; omega) ?_
    rotate_left
    with_reducible refine Cnd.no ?_
    rotate_left
    · rw [show (pickR s.page 30 : Int) * 4096 + 4194304 = ((4096 * pickR s.page 30 + 4194304 : Nat) : Int) by omega]
      exact key _ (by rw [spv]; unfold vaR; rw [if_pos (by omega)])
    · rw [show (pickR s.page 30 : Int) * 4096 = ((4096 * pickR s.page 30 : Nat) : Int) by omega]
      exact key _ (by rw [spv]; unfold vaR; rw [if_neg (by omega)])
  · unfold S7_j16
    have : (i : Nat) = 60 := by omega
    subst this
    exact h w2 e2 o2
  · unfold S7_j16
    have : l.take i = l.take 60 := by rw [List.take_of_length_le (by omega), List.take_of_length_le (by omega)]
    rw [this] at o2
    exact h w2 e2 o2
end Go.Eng
namespace Go.Eng
open Go.Proofs Go.MapKept
structure LB where
  x : Nat
  u : Nat
  m : Nat
  c : Nat
  t : Nat
  tb : Nat
  rb : Nat
  p : Nat
  pb : Nat
  lo : Nat
  v : Value
structure Lw (w : World) (B : LB) (s : MS) (roots : Int → Option Nat) (Ls : List (List Rg)) (FM : Nat → Prop) (N : Nat → Nat) : Prop where
  set : w.heap[B.x]? = some (setO B.m B.c B.t B.u)
  mm : Mm w B.u B.m B.c B.t B.tb B.rb s roots FM
  good : Good s roots Ls
  plain : PlainAt w B.p B.pb N
  rgs : RgsAt w B.lo B.v Ls
  sx : ¬ FM B.x ∧ B.x ≠ B.c ∧ B.x ≠ B.t ∧ B.x ≠ B.tb ∧ B.x ≠ B.pb
  sp : ¬ FM B.p ∧ B.p ≠ B.c ∧ B.p ≠ B.t ∧ B.p ≠ B.tb ∧ B.p ≠ B.pb
  spb : ¬ FM B.pb ∧ B.pb ≠ B.c ∧ B.pb ≠ B.t ∧ B.pb ≠ B.tb ∧ B.pb ≠ B.u ∧ B.pb ≠ B.rb ∧ B.pb ≠ 1
  lo : (∀ r, FM r → B.lo ≤ r) ∧ B.lo ≤ B.c ∧ B.lo ≤ B.t ∧ B.lo ≤ B.tb ∧ B.lo ≤ B.pb
  n : Ls.length ≤ 4
  rok : ∀ l ∈ Ls, (∀ r ∈ l, r.Ok) ∧ l.length ≤ 60
variable {w w' : World} {B : LB} {s s' : MS} {roots : Int → Option Nat} {Ls : List (List Rg)} {FM FM' : Nat → Prop} {N N' : Nat → Nat}
theorem Lw.lts (h : Lw w B s roots Ls FM N) : B.x < w.heap.size ∧ B.p < w.heap.size ∧ B.pb < w.heap.size ∧ B.c < w.heap.size ∧ B.t < w.heap.size ∧ B.tb < w.heap.size ∧ (∀ r, FM r → r < w.heap.size) ∧ B.lo ≤ w.heap.size := by
  have hl := h.mm.lts
  have h1 := lt_of_blk h.set
  have h2 := lt_of_blk h.plain.hp
  have h3 := lt_of_blk h.plain.hb
  have := h.lo.2.1
  have := hl B.c (by simp)
  exact ⟨h1, h2, h3, hl _ (by simp), hl _ (by simp), hl _ (by simp), fun r hr => hl r (.inl hr), by omega⟩
theorem Lw.ext (h : Lw w B s roots Ls FM N) (e : Ext w w') : Lw w' B s roots Ls FM N :=
  ⟨e.get h.set, h.mm.ext e, h.good, h.plain.frame e id id, h.rgs.frame e fun _ _ => id, h.sx, h.sp, h.spb, h.lo, h.n, h.rok⟩
theorem Lw.tc (h : Lw w B s roots Ls FM N) (e : Fr (TC B.c B.t B.tb) w w') (hm : Mm w' B.u B.m B.c B.t B.tb B.rb s' roots FM) (hg : Good s' roots Ls) : Lw w' B s' roots Ls FM N := by
  obtain ⟨a1, a2, a3, a4, a5⟩ := h.sx
  obtain ⟨b1, b2, b3, b4, b5⟩ := h.sp
  obtain ⟨c1, c2, c3, c4, c5, c6, c7⟩ := h.spb
  obtain ⟨l1, l2, l3, l4, l5⟩ := h.lo
  have nS : ∀ r, r ≠ B.c → r ≠ B.t → r ≠ B.tb → ¬ TC B.c B.t B.tb r := fun r h1 h2 h3 hq => by rcases hq with hq | hq | hq; exact h1 hq; exact h2 hq; exact h3 hq
  exact ⟨e.get (nS _ a2 a3 a4) h.set, hm, hg, h.plain.frame e (nS _ b2 b3 b4) (nS _ c2 c3 c4), h.rgs.frame e fun r hr => nS _ (by omega) (by omega) (by omega), h.sx, h.sp, h.spb, h.lo, h.n, h.rok⟩
theorem Lw.st (h : Lw w B s roots Ls FM N) (e : Fr (fun r => FM r ∨ TC B.c B.t B.tb r) w w') (k1 : ∀ r, FM' r → FM r ∨ w.heap.size ≤ r) (hm : Mm w' B.u B.m B.c B.t B.tb B.rb s' roots FM') (hg : Good s' roots Ls) : Lw w' B s' roots Ls FM' N := by
  obtain ⟨a1, a2, a3, a4, a5⟩ := h.sx
  obtain ⟨b1, b2, b3, b4, b5⟩ := h.sp
  obtain ⟨c1, c2, c3, c4, c5, c6, c7⟩ := h.spb
  obtain ⟨l1, l2, l3, l4, l5⟩ := h.lo
  obtain ⟨lx, lp, lpb, lc, lt, ltb, lF, ll⟩ := h.lts
  have nS : ∀ r, ¬ FM r → r ≠ B.c → r ≠ B.t → r ≠ B.tb → ¬ (FM r ∨ TC B.c B.t B.tb r) := fun r h0 h1 h2 h3 hq => by rcases hq with hq | hq | hq | hq; exact h0 hq; exact h1 hq; exact h2 hq; exact h3 hq
  have nF : ∀ r, ¬ FM r → r < w.heap.size → ¬ FM' r := fun r h1 h2 h3 => by rcases k1 r h3 with hq | hq; exact h1 hq; omega
  exact ⟨e.get (nS _ a1 a2 a3 a4) h.set, hm, hg, h.plain.frame e (nS _ b1 b2 b3 b4) (nS _ c1 c2 c3 c4), h.rgs.frame e fun r hr => nS _ (fun hq => by have := l1 r hq; omega) (by omega) (by omega) (by omega), ⟨nF _ a1 lx, a2, a3, a4, a5⟩, ⟨nF _ b1 lp, b2, b3, b4, b5⟩, ⟨nF _ c1 lpb, c2, c3, c4, c5, c6, c7⟩, ⟨fun r hr => by rcases k1 r hr with hq | hq; exact l1 r hq; omega, l2, l3, l4, l5⟩, h.n, h.rok⟩
theorem Lw.pl (h : Lw w B s roots Ls FM N) (e : Fr (fun r => r = B.pb) w w') (hp : PlainAt w' B.p B.pb N') : Lw w' B s roots Ls FM N' := by
  obtain ⟨a1, a2, a3, a4, a5⟩ := h.sx
  obtain ⟨c1, c2, c3, c4, c5, c6, c7⟩ := h.spb
  obtain ⟨l1, l2, l3, l4, l5⟩ := h.lo
  refine ⟨e.get a5 h.set, h.mm.frame e fun r hr => ?_, h.good, hp, h.rgs.frame e fun r hr => by omega, h.sx, h.sp, h.spb, h.lo, h.n, h.rok⟩
  rcases hr with hr | rfl | rfl | rfl | rfl | rfl | rfl
  · rintro rfl; exact c1 hr
  all_goals omega
def Shp (s s' : MS) : Prop := s'.n = s.n ∧ s'.slots = s.slots ∧ s'.la = s.la ∧ s'.lb = s.lb ∧ s'.ways = s.ways
theorem Shp.refl : Shp s s := ⟨rfl, rfl, rfl, rfl, rfl⟩
structure LStep (w w' : World) (B : LB) (s s' : MS) (Ls : List (List Rg)) (FM FM' : Nat → Prop) (cell : Int) : Prop where
  fr : Fr (fun r => FM r ∨ TC B.c B.t B.tb r ∨ r = B.pb) w w'
  fm : ∀ r, FM' r → FM r ∨ w.heap.size ≤ r
  ap : Apart (cellL Ls cell) s.M s'.M
  now : s'.now ≤ s.now + 16
  shp : Shp s s'
theorem cellL_rok (h : Lw w B s roots Ls FM N) (cell : Int) : OkCell (cellL Ls cell) ∧ (∀ r ∈ cellL Ls cell, r.Ok) ∧ (cellL Ls cell).length ≤ 60 := by
  refine ⟨cellL_ok h.good.ok, ?_⟩
  unfold cellL
  split
  · rename_i hc
    have : cell.toNat - 1 < Ls.length := by omega
    rw [List.getD_eq_getElem?_getD, List.getElem?_eq_getElem this]
    exact h.rok _ (List.getElem_mem this)
  · simp
end Go.Eng
namespace Go.Eng
open Go.Proofs Go.MapKept
theorem wantL_snoc {l : List Rg} {b a : Nat} : ∀ (xs : List Nat), (wantL l b xs).2 = 0 → wantL l b (xs ++ [a]) = ((wantL l b xs).1 ++ [(wantR l a b).1], (wantR l a b).2)
  | [], _ => by
    simp only [wantL, List.nil_append]
    split
    · rfl
    · rename_i h; simp only [ne_eq, Decidable.not_not] at h; rw [h]
  | x :: xs, h => by
    simp only [wantL, List.cons_append] at h ⊢
    by_cases hx : (wantR l x b).2 ≠ 0
    · rw [if_pos hx] at h; exact absurd h hx
    · rw [if_neg hx] at h ⊢
      simp only [if_neg hx]
      rw [wantL_snoc xs h]
      rfl
theorem wantL_stop {l : List Rg} {b : Nat} {ys : List Nat} : ∀ (xs : List Nat), (wantL l b xs).2 ≠ 0 → wantL l b (xs ++ ys) = wantL l b xs
  | [], h => absurd rfl h
  | x :: xs, h => by
    simp only [wantL, List.cons_append] at h ⊢
    by_cases hx : (wantR l x b).2 ≠ 0
    · rw [if_pos hx, if_pos hx]
    · simp only [if_neg hx] at h ⊢
      rw [wantL_stop xs h]
def ad (at_ j : Nat) : List Nat := (List.range j).map fun i => at_ + 4 * i
theorem ad_succ {at_ j : Nat} : ad at_ (j + 1) = ad at_ j ++ [at_ + 4 * j] := by simp [ad, List.range_succ]
theorem ad_app {at_ j k : Nat} (h : j ≤ k) : ∃ ys, ad at_ k = ad at_ j ++ ys := by
  obtain ⟨d, rfl⟩ := Nat.le.dest h
  refine ⟨((List.range d).map (j + ·)).map fun i => at_ + 4 * i, ?_⟩
  unfold ad
  rw [← List.map_append, ← List.range_add]
theorem ad_addrs {at_ k : Nat} (h : at_ + 4 * k < 4294967296) : addrs at_ (4 * k) = ad at_ k := by
  unfold addrs ad
  rw [show 4 * k / 4 = k by omega]
  refine List.map_congr_left fun i hi => ?_
  have := List.mem_range.1 hi
  omega
theorem stb_ldv {M : Nat → Nat} (hM : ∀ x, M x < 256) {a : Nat} : stb (ldv M a 4) = [M a, M (a + 1), M (a + 2), M (a + 3)] := by
  have h0 := hM a
  have h1 := hM (a + 1)
  have h2 := hM (a + 2)
  have h3 := hM (a + 3)
  rw [ldv4]
  unfold stb
  generalize M a = x0 at *
  generalize M (a + 1) = x1 at *
  generalize M (a + 2) = x2 at *
  generalize M (a + 3) = x3 at *
  congr 1
  · omega
  congr 1
  · omega
  congr 1
  · omega
  congr 1
  omega
theorem fm_at {M : Nat → Nat} (hM : ∀ x, M x < 256) : ∀ (tos : List Nat) (i : Nat), i < 4 * tos.length → (tos.flatMap fun to => stb (ldv M to 4))[i]? = some (M (tos.getD (i / 4) 0 + i % 4))
  | [], i, h => by simp at h
  | to :: ps, i, h => by
    rw [List.flatMap_cons, stb_ldv hM]
    by_cases hi : i < 4
    · have : i = 0 ∨ i = 1 ∨ i = 2 ∨ i = 3 := by omega
      rcases this with rfl | rfl | rfl | rfl <;> rfl
    · simp only [List.length_cons] at h
      rw [List.getElem?_append_right (by simp; omega)]
      rw [show i - [M to, M (to + 1), M (to + 2), M (to + 3)].length = i - 4 by simp, fm_at hM ps (i - 4) (by omega)]
      rw [show i / 4 = (i - 4) / 4 + 1 by omega, List.getD_cons_succ, show (i - 4) % 4 = i % 4 by omega]
theorem fm_len {M : Nat → Nat} : ∀ (tos : List Nat), (tos.flatMap fun to => stb (ldv M to 4)).length = 4 * tos.length
  | [] => rfl
  | to :: ps => by rw [List.flatMap_cons, List.length_append, fm_len ps, stb_len, List.length_cons]; omega
def putB (M : Nat → Nat) (tos data : List Nat) : Nat → (Nat → Nat)
  | 0 => M
  | i + 1 => put (putB M tos data i) (tos.getD (i / 4) 0 + i % 4) [data.getD i 0]
theorem wrM_snoc {to : Nat} : ∀ (ps l : List Nat) (M : Nat → Nat), wrM M (ps ++ [to]) l = put (wrM M ps l) to ((l.drop (4 * ps.length)).take 4)
  | [], l, M => by simp [wrM]
  | p :: ps, l, M => by
    simp only [wrM, List.cons_append, List.length_cons]
    rw [wrM_snoc ps (l.drop 4), List.drop_drop, show 4 + 4 * ps.length = 4 * (ps.length + 1) by omega]
theorem putB_wrM {M : Nat → Nat} {tos data : List Nat} (hd : 4 * tos.length ≤ data.length) : ∀ k, k ≤ tos.length → putB M tos data (4 * k) = wrM M (tos.take k) data
  | 0, _ => by simp [putB, wrM]
  | k + 1, h => by
    have ih := putB_wrM (M := M) hd k (by omega)
    rw [show 4 * (k + 1) = 4 * k + 1 + 1 + 1 + 1 by omega]
    simp only [putB]
    rw [ih, List.take_succ_eq_append_getElem (by omega : k < tos.length), wrM_snoc, List.length_take, Nat.min_eq_left (by omega)]
    have e0 : (4 * k) / 4 = k := by omega
    have e1 : (4 * k + 1) / 4 = k := by omega
    have e2 : (4 * k + 1 + 1) / 4 = k := by omega
    have e3 : (4 * k + 1 + 1 + 1) / 4 = k := by omega
    have m0 : (4 * k) % 4 = 0 := by omega
    have m1 : (4 * k + 1) % 4 = 1 := by omega
    have m2 : (4 * k + 1 + 1) % 4 = 2 := by omega
    have m3 : (4 * k + 1 + 1 + 1) % 4 = 3 := by omega
    rw [e0, e1, e2, e3, m0, m1, m2, m3]
    have hto : tos.getD k 0 = tos[k] := by rw [List.getD_eq_getElem?_getD, List.getElem?_eq_getElem (by omega)]; rfl
    rw [hto]
    have gd : ∀ j (hj : j < data.length), data.getD j 0 = data[j] := fun j hj => by rw [List.getD_eq_getElem?_getD, List.getElem?_eq_getElem hj]; rfl
    rw [gd _ (by omega), gd _ (by omega), gd _ (by omega), gd _ (by omega)]
    have hdr : (data.drop (4 * k)).take 4 = [data[4 * k], data[4 * k + 1], data[4 * k + 1 + 1], data[4 * k + 1 + 1 + 1]] := by
      rw [List.drop_eq_getElem_cons (by omega : 4 * k < data.length), List.drop_eq_getElem_cons (by omega : 4 * k + 1 < data.length), List.drop_eq_getElem_cons (by omega : 4 * k + 1 + 1 < data.length), List.drop_eq_getElem_cons (by omega : 4 * k + 1 + 1 + 1 < data.length)]
      rfl
    rw [hdr]
    generalize data[4 * k] = d0
    generalize data[4 * k + 1] = d1
    generalize data[4 * k + 1 + 1] = d2
    generalize data[4 * k + 1 + 1 + 1] = d3
    generalize tos[k] = to
    generalize wrM M (tos.take k) data = M1
    have p1 := @put_put M1 to [d0] [d1]
    have p2 := @put_put M1 to [d0, d1] [d2]
    have p3 := @put_put M1 to [d0, d1, d2] [d3]
    simp only [List.length_cons, List.length_nil, List.cons_append, List.nil_append] at p1 p2 p3
    rw [show to + 0 = to from rfl]
    rw [show to + 1 = to + (0 + 1) from rfl, p1, show to + 2 = to + (0 + 1 + 1) from rfl, p2, show to + 3 = to + (0 + 1 + 1 + 1) from rfl, p3]
end Go.Eng
namespace Go.Eng
open Go.Proofs Go.MapKept
variable {w : World} {K : Value → World → Prop} {E : List PanicEntry → World → Prop}
theorem tos_l {v0 v1 v2 v3 v11 : Value} {at_ k : Nat} {rd : Bool} {l : List Rg} {X0 : Value → Value → Value → Value → Value → Value → Value → Value → Value → World → Prop} (hl : RgAt w v2 l) (hok : OkCell l) (hrk : ∀ r ∈ l, r.Ok) (hlen : l.length ≤ 60) (hat : at_ < 16777216) (hk : k ≤ 16)
   (h : ∀ w' v16, Ext w w' → OwnU w' w.heap.size v16 (wantL l (if rd then 1 else 2) (ad at_ k)).1 → X0 v0 v1 v3 (.int .u32 at_) v11 (.int .i64 (4 * k : Nat)) (.bool rd) (.int .i64 (wantL l (if rd then 1 else 2) (ad at_ k)).2) v16 w') :
   S31_l6 v0 v1 v2 v3 (.int .u32 at_) v11 (.int .i64 (4 * k : Nat)) (.bool rd) (.int .i64 0) (.slice none 0 0) (.int .i64 0) w X0 E := by
  unfold S31_l6
  have hll : ∀ j, j ≤ k → (wantL l (if rd then 1 else 2) (ad at_ j)).1.length ≤ j := fun j _ => by
    generalize (if rd then 1 else 2) = b
    have : ∀ xs : List Nat, (wantL l b xs).1.length ≤ xs.length := fun xs => by
      induction xs with
      | nil => simp [wantL]
      | cons a xs ih => simp only [wantL]; split <;> simp <;> omega
    have := this (ad at_ j)
    simpa [ad] using this
  refine ⟨fun v15 v16 v17 w' => ∃ j : Nat, v17 = .int .i64 (4 * j : Nat) ∧ j ≤ k ∧ v15 = .int .i64 (wantL l (if rd then 1 else 2) (ad at_ j)).2 ∧ Ext w w' ∧ OwnU w' w.heap.size v16 (wantL l (if rd then 1 else 2) (ad at_ j)).1, fun _ _ v17 _ => match v17 with | .int _ i => 64 - i.toNat | _ => 0, ⟨0, rfl, by omega, rfl, Fr.refl _ _, OwnU.nil⟩, ?_⟩
  rintro _ v16 _ w1 ⟨j, rfl, hj, rfl, e1, o1⟩
  have hlj := hll j hj
  have s1 := e1.size
  generalize hwf : wantL l (if rd then 1 else 2) (ad at_ j) = W at *
  unfold S31_b6
  refine x_lss (fun hc => ?_) (fun hc => ?_)
  with_reducible refine XG.yes ?_; refine x_val ?_; refine XG.yes ?_
  refine x_eql (fun hc => ?_) (fun hc => ?_)
  with_reducible refine x_pickT ?_; refine Cnd.yes ?_
  rotate_left
  with_reducible refine x_pickT ?_; refine Cnd.no ?_
  rotate_left
  with_reducible refine XG.no (by decide) ?_; refine XG.no (by decide) ?_; refine x_pickF ?_; refine Cnd.no ?_
  rotate_left
  · have hW : W.2 = 0 := by assumption
    have hsn := wantL_snoc (l := l) (b := if rd then 1 else 2) (a := at_ + 4 * j) (ad at_ j) (by rw [hwf]; exact hW)
    rw [← ad_succ, hwf] at hsn
    have hb : (if rd then 1 else 2) < 256 := by cases rd <;> simp
    have key : ∀ bv : Value, bv = .int .u8 ((if rd then 1 else 2 : Nat) : Nat) → S31_j11 v0 v1 v2 v3 (.int .u32 at_) v11 (.int .i64 (4 * k : Nat)) (.bool rd) v16 (.int .i64 (4 * j : Nat)) bv w1 (fun x0 x1 x2 x3 x4 x11 x13 x14 x15 x16 x17 y => S31_j7 x0 x1 x2 x3 x4 x11 x13 x14 x15 x16 x17 y (fun x0 x1 x2 x3 x4 x11 x13 x14 x15 x16 x17 y => (∃ j : Nat, x17 = .int .i64 (4 * j : Nat) ∧ j ≤ k ∧ x15 = .int .i64 (wantL l (if rd then 1 else 2) (ad at_ j)).2 ∧ Ext w y ∧ OwnU y w.heap.size x16 (wantL l (if rd then 1 else 2) (ad at_ j)).1) ∧ (match x17 with | .int _ i => 64 - i.toNat | _ => 0) < 64 - (4 * j : Nat)) E) E := fun bv hbv => by
      subst hbv
      generalize (if rd then 1 else 2) = b at *
      unfold S31_j11
      with_reducible refine x_convN (by rw [IntKind.wrap_u32]; omega) ?_; refine x_addN (by rw [IntKind.wrap_u32]; omega) ?_
      rw [show (at_ : Int) + ((4 * j : Nat) : Int) = ((at_ + 4 * j : Nat) : Int) by omega]
      refine x_callF (want_c (b := b) (l := l) (hl.frame e1 fun _ _ _ _ _ => id) (by omega) (by omega) hrk (fun r hr => by have := (hok.each r hr).2.2.2.1; omega) hb fun w2 e2 => ?_)
      have s2 := e2.size
      have e12 := e1.trans e2
      generalize hr : wantR l (at_ + 4 * j) b = r at *
      have o2 := o1.frame e2 fun _ _ _ => id
      with_reducible refine x_extract at_0 ?_; refine x_extract at_1 ?_; refine x_bs_1 oneI ?_
      generalize hw3 : World.alloc _ _ = w3
      have e3 : Ext w2 w3 := by rw [← hw3]; exact (Fr.refl _ w2).alloc _
      have b3 : w3.heap[w2.heap.size]? = some (.cells #[.int .u32 r.1] 38 (0, 0)) := by rw [← hw3]; exact blk_alloc_new
      clear hw3
      have s3 := e3.size
      have hH : Holds w3 ⟨w2.heap.size, 0, none⟩ (u32s [r.1]) := by
        have := holds_blk (w := w3) (o := 0) (n := 1) b3 (by simp)
        simpa [u32s] using this
      have o3 := o2.frame e3 fun _ _ _ => id
      refine x_append (size := 1) (m := 1) (news := u32s [r.1]) o3 (by simp [u32s]) hH (by simp [u32s, Value.oneCell']) (by simp [maxLen]; omega) (by omega) (by omega) fun v' w4 o4 g4 => ?_
      have e4 : Fr (fun r => w.heap.size ≤ r) w3 w4 := (Fr.refl _ w3).grown g4 fun r hr _ => (World.ownsRow.lt o3 r hr).1
      have o4' : OwnU w4 w.heap.size v' (W.1 ++ [r.1]) := by
        have e : u32s W.1 ++ u32s [r.1] = u32s (W.1 ++ [r.1]) := by simp [u32s]
        rw [e] at o4
        simpa [OwnU] using o4
      unfold S31_j7
      with_reducible refine x_addN (by rw [IntKind.wrap_i64]; omega) ?_
      refine ⟨⟨j + 1, by congr 1, by omega, by rw [hsn], (e12.trans e3).trans' e4 fun r hr hlt => by omega, by rw [hsn]; exact o4'⟩, by simp only; omega⟩
    cases rd
    · with_reducible refine Cnd.no ?_
      exact key _ rfl
    · with_reducible refine Cnd.yes ?_
      exact key _ rfl
  all_goals (
    have : j = k ∨ W.2 ≠ 0 := by omega
    have hfin : wantL l (if rd then 1 else 2) (ad at_ k) = W := by
      rcases this with rfl | hne
      · exact hwf
      · obtain ⟨ys, hy⟩ := ad_app (at_ := at_) hj
        rw [hy, wantL_stop _ (by rw [hwf]; exact hne)]
        exact hwf
    rw [hfin] at h
    exact h w1 v16 e1 o1)
end Go.Eng
namespace Go.Eng
open Go.Proofs Go.MapKept
variable {w : World} {K : Value → World → Prop} {E : List PanicEntry → World → Prop}
theorem own1 {base e n cap j : Nat} {a : Option Addr} {xs : List Value} (h : w.ownsRow base e 1 (.slice a n cap) n xs) (hj : j < n) :
    ∃ g cur, a = some ⟨g, 0, none⟩ ∧ base ≤ g ∧ w.heap[g]? = some (.cells cur e (0, 0)) ∧ cur[j]? = xs[j]? := by
  obtain ⟨g, cur, rfl, h1, h2, h3, h4, h5⟩ := own_at h (by omega)
  refine ⟨g, cur, rfl, h1, h2, ?_⟩
  rw [← h4, List.getElem?_take]
  simp
  omega
theorem rmsg_j {B : LB} {s : MS} {roots : Int → Option Nat} {Ls : List (List Rg)} {FM : Nat → Prop} {cell : Int} {at_ k base : Nat} {v11 v16 : Value}
   (h : Lw w B s roots Ls FM s.M) (hcell : i64 cell) (hat : at_ < 16777216) (hat4 : at_ % 4 = 0) (hk : k ≤ 16) (hnow : s.now < 9223372036854774000) (hbase : B.lo ≤ base ∧ base ≤ w.heap.size) (ho : OwnU w base v16 (wantL (cellL Ls cell) 1 (ad at_ k)).1) (hfr : ∀ r, base ≤ r → r < w.heap.size → ¬ TC B.c B.t B.tb r)
   (hK : ∀ w' s' FM', LStep w w' B s s' Ls FM FM' cell → Lw w' B s' roots Ls FM' s'.M → K (.bool true) w') :
   S31_j14 (ptr B.x) (ptr B.p) (.int .i64 cell) (.int .u32 at_) v11 (.int .i64 (4 * k : Nat)) (.bool true) (.int .i64 (wantL (cellL Ls cell) 1 (ad at_ k)).2) v16 w K E := by
  have hx := h.set
  have hadr : ∀ x ∈ ad at_ k, x < 4294967296 ∧ x % 4 = 0 := fun x hx => by
    simp only [ad, List.mem_map, List.mem_range] at hx
    obtain ⟨i, hi, rfl⟩ := hx
    omega
  obtain ⟨k1, k2, k3⟩ := readL_good (cell := cell) (ad at_ k) s h.good hadr
  have hsame := readL_same (roots := roots) (cell := cell) (ad at_ k) s
  have htos := wantL_tos (b := 1) (cellL_rok h cell).1 (ad at_ k) (fun x hx => (hadr x hx).2)
  have hM := h.mm.sys.mem.bytes_lt
  have hwz : (wantL (cellL Ls cell) 1 (ad at_ k)).1.length ≤ 16 ∨ True := .inr trivial
  unfold S31_j14
  with_reducible refine Cnd.yes ?_; refine x_nil ?_; refine x_field0 ?_; refine x_load1 ‹_› (at_S at_2) ?_
  refine x_callF (Read_m (n := (4 * k : Nat)) (cell := cell) h.mm (by omega) (by omega) (by omega) hcell (fun hq => ?_) fun w1 v hms e1 h1 hv0 hv1 => ?_)
  · unfold msgR at hq
    rw [decide_eq_false_iff_not] at hq
    omega
  rw [show ((4 * k : Nat) : Int).toNat = 4 * k by omega, ad_addrs (by omega)] at *
  rw [k1] at hv0 hv1 ⊢
  have hL1 := h.tc e1 h1 k3
  have ho1 := ho.frame e1 fun r hr hlt => hfr r hr hlt
  have fin : ∀ w', Ext w1 w' → K (.bool true) w' := fun w' e2 => by
    refine hK w' (readL s roots cell (ad at_ k)).2 FM ⟨(e1.mono fun r _ hr => .inr (.inl hr)).trans (Fr.of_ext e2), fun r hr => .inl hr, ?_, ?_, ?_⟩ ?_
    · rw [hsame.2.1]; exact .refl
    · have := hsame.2.2.2.2.2.2
      have hl : (ad at_ k).length = k := by simp [ad]
      omega
    · exact ⟨hsame.1, hsame.2.2.1, hsame.2.2.2.1, hsame.2.2.2.2.1, hsame.2.2.2.2.2.1⟩
    · rw [hsame.2.1]; exact hL1.ext e2
  generalize (readL s roots cell (ad at_ k)).1.1 = cy at *
  generalize (readL s roots cell (ad at_ k)).1.2.2 = bs at *
  generalize (readL s roots cell (ad at_ k)).2 = s1 at *
  generalize wantL (cellL Ls cell) 1 (ad at_ k) = W at *
  with_reducible refine x_extract at_0 ?_; refine x_extract at_1 ?_; refine x_extract at_2 ?_
  refine x_neq (fun hc => by omega) (fun hc => ?_)
  with_reducible refine XG.yes ?_; refine x_val ?_; refine XG.yes ?_
  refine x_neq (fun hc => ?_) (fun hc => ?_)
  with_reducible refine x_pickF ?_; refine Cnd.yes ?_
  refine x_eql (fun hc => ?_) (fun hc => by omega)
  with_reducible refine XG.yes ?_; refine x_val ?_; refine XG.yes ?_
  rotate_left
  with_reducible refine x_pickF ?_; refine Cnd.no ?_
  rotate_left
  · have := hv0 ‹_›
    subst this
    with_reducible refine x_lenS ?_; refine XG.yes ?_
    refine x_eql (fun hc => ?_) (fun hc => by omega)
    with_reducible refine x_pickT ?_
    exact fin w1 (Fr.refl _ _)
  · have hW : W.2 = 0 := by assumption
    have hb := k2 hW
    obtain ⟨hln, htos⟩ := htos hW
    rw [show (ad at_ k).length = k by simp [ad]] at hln
    have ob := hv1 hW
    have hbl : bs.length = 4 * k := by rw [hb, fm_len, hln]
    obtain ⟨a, cp, rfl⟩ := own_len ob
    obtain ⟨a', cp', rfl⟩ := own_len ho1
    unfold S31_l19
    refine ⟨fun v24 w' => ∃ i : Nat, v24 = .int .i64 i ∧ i ≤ 4 * k ∧ Ext w1 w', fun v24 _ => match v24 with | .int _ i => 64 - i.toNat | _ => 0, ⟨0, rfl, by omega, Fr.refl _ _⟩, ?_⟩
    rintro _ w2 ⟨i, rfl, hi, e2⟩
    unfold S31_b19
    refine x_lss (fun hc => ?_) (fun hc => ?_)
    with_reducible refine Cnd.yes ?_; refine XQ.of rfl ?_; refine x_lenS ?_; refine qstep ?_; refine XQ.of rfl ?_
    refine x_neq (fun hc => by omega) (fun hc => ?_)
    with_reducible refine qstep ?_; refine XQG.yes ?_; refine XQ.of rfl ?_; refine x_val ?_; refine qstep ?_; refine XQG.yes ?_; refine XQ.of rfl ?_; refine x_val ?_; refine qstep ?_; refine XQG.yes ?_; refine XQ.of rfl ?_
    rotate_left
    with_reducible refine Cnd.no ?_
    rotate_left
    · have hi4 : i < 4 * k := by omega
      have hlt : i / 4 < W.1.length := by omega
      obtain ⟨g, cur, rfl, hg, hgb, hci⟩ := own1 ob (j := i) (by omega)
      obtain ⟨g', cur', rfl, hg', hgb', hci'⟩ := own1 ho1 hlt
      have hbi := fm_at hM W.1 i (by omega)
      rw [← hb] at hbi
      have hT : W.1[i / 4]? = some (W.1.getD (i / 4) 0) := by rw [List.getD_eq_getElem?_getD, List.getElem?_eq_getElem hlt]; rfl
      have hTm : W.1.getD (i / 4) 0 ∈ W.1 := List.mem_of_getElem? hT
      obtain ⟨r, hr, o, hro, ho4, hrp, hrl⟩ := htos _ hTm
      have hTl : W.1.getD (i / 4) 0 + 4 ≤ 131072 := by omega
      simp only [u8s, u32s, List.getElem?_map, hbi, hT, Option.map_some] at hci hci'
      generalize W.1.getD (i / 4) 0 = T at *
      have hbl2 := e2.get hgb
      have hbl2' := e2.get hgb'
      have hm1 := hM (T + i % 4)
      have hp2 := hL1.plain.frame (e2.trans (Ext.drw_self w2)) id id
      have ldv1 : ldv s.M (T + i % 4) 1 = s.M (T + i % 4) := by simp [ldv]
      have lagV : ∀ w', X P (Cop.indexAddr 34 (.slice (some ⟨g, 0, none⟩) bs.length cp) (.int .i64 (i : Nat))) 0 w' (fun v w'' => w'' = w' ∧ v = .pointer (some ⟨g, i, none⟩)) (fun _ _ => False) := fun w' => (x_idxS (by omega) (qstep (by rw [show 0 + (i : Int).toNat * 1 = i by omega])))
      refine x_idxS (by omega) ?_
      rw [show 0 + (i : Int).toNat * 1 = i by omega]
      with_reducible refine qstep ?_; refine XQG.yes ?_; refine XQ.of rfl ?_; refine x_load1 ‹_› ‹_› ?_; refine qstep ?_; refine XQG.yes ?_; refine XQ.of rfl ?_; refine x_convN (by rw [IntKind.wrap_u32]; omega) ?_; refine qstep ?_; refine XQG.yes ?_; refine XQ.of rfl ?_; refine x_val ?_; refine qstep ?_; refine XQG.yes ?_; refine XQ.of rfl ?_; refine x_val ?_; refine qstep ?_; refine XQG.yes ?_; refine XQ.of rfl ?_; refine x_val ?_; refine qstep ?_; refine XQG.yes ?_; refine XQ.of rfl ?_; refine x_quoN (by omega) (by omega) (by rw [IntKind.wrap_i64]; omega) ?_; refine qstep ?_; refine XQG.yes ?_; refine XQ.of rfl ?_
      refine x_idxS (by omega) ?_
      rw [show 0 + ((i : Int) / 4).toNat * 1 = i / 4 by omega]
      with_reducible refine qstep ?_; refine XQG.yes ?_; refine XQ.of rfl ?_; refine x_load1 ‹_› ‹_› ?_; refine qstep ?_; refine XQG.yes ?_; refine XQ.of rfl ?_; refine x_val ?_; refine qstep ?_; refine XQG.yes ?_; refine XQ.of rfl ?_; refine x_remN (by omega) (by omega) ?_; refine qstep ?_; refine XQG.yes ?_; refine XQ.of rfl ?_; refine x_convN (by rw [IntKind.wrap_u32]; omega) ?_; refine qstep ?_; refine XQG.yes ?_; refine XQ.of rfl ?_; refine x_addN (by rw [IntKind.wrap_u32]; omega) ?_; refine qstep ?_; refine XG.yes ?_
      rw [show (T : Int) + (i : Int) % 4 = ((T + i % 4 : Nat) : Int) by omega]
      refine x_callF (pword_c (s := 1) hp2 hM (by omega) (by omega) ?_)
      rw [ldv1]
      with_reducible refine And.intro ?_ ?_; refine XQG.yes ?_; refine XQ.of rfl ?_; refine x_convN (by rw [IntKind.wrap_u32]; omega) ?_; refine qstep ?_; exact rfl; refine And.intro ?_ ?_; refine XQG.yes ?_; refine XQ.of rfl ?_; refine x_load1 ‹_› ‹_› ?_; refine qstep ?_; exact rfl; refine And.intro ?_ ?_; refine XQG.yes ?_; refine XQ.of rfl ?_
      rotate_left
      with_reducible refine And.intro ?_ ?_; refine XQG.yes ?_; refine XQ.of rfl ?_; refine x_val ?_; refine qstep ?_; exact rfl; refine And.intro ?_ ?_; refine XQG.yes ?_; refine XQ.of rfl ?_; refine x_val ?_; refine qstep ?_; exact rfl; refine XQG.yes ?_; refine XQ.of rfl ?_
      refine x_neq (fun hc => by omega) (fun hc => ?_)
      with_reducible refine qstep ?_; refine XQ.of rfl ?_; refine x_pickF ?_; refine qstep ?_; refine Cnd.no ?_; refine x_addN (by rw [IntKind.wrap_i64]; omega) ?_; refine And.intro ?_ ?_
      rotate_left
      rotate_left
      all_goals first | exact lagV _ | skip
      · exact ⟨i + 1, by congr 1, by omega, e2.trans (Ext.drw_self w2)⟩
      · simp only; omega
    · unfold S31_j23
      with_reducible refine x_lenS ?_
      refine x_eql (fun hc => ?_) (fun hc => by omega)
      exact fin w2 e2
end Go.Eng
namespace Go.Eng
open Go.Proofs Go.MapKept
variable {w : World} {K : Value → World → Prop} {E : List PanicEntry → World → Prop}
theorem writeR_shp {s : MS} {roots : Int → Option Nat} {cell : Int} {at_ : Nat} {l : List Nat} : Shp s (writeR s roots cell at_ l).2 ∧ (writeR s roots cell at_ l).2.now ≤ s.now + l.length / 4 := by
  have h := wrL_same (roots := roots) (cell := cell) (addrs at_ l.length) s
  have hl : (addrs at_ l.length).length = l.length / 4 := by simp [addrs]
  rw [hl] at h
  obtain ⟨a1, a2, a3, a4, a5, a6, a7⟩ := h
  unfold writeR
  split
  · exact ⟨Shp.refl, by simp only; omega⟩
  · simp only
    split
    · exact ⟨⟨a1, a3, a4, a5, a6⟩, a7⟩
    · obtain ⟨_, b1, b2, b3, b4, b5, b6, b7, b8⟩ := wr2_M (wrL s roots cell (addrs at_ l.length)).1.2.2 l (wrL s roots cell (addrs at_ l.length)).2
      exact ⟨⟨b1.trans a1, b3.trans a3, b6.trans a4, b7.trans a5, b8.trans a6⟩, by rw [b4]; exact a7⟩
def dataR (v n : Nat) : List Nat := (List.range n).map fun i => (v + i) % 256
theorem data_l {v0 v1 v3 v4 v15 v16 : Value} {b k : Nat} {d : DoV} {X4 : Value → Value → Value → Value → Value → Value → Value → Value → World → Prop} (hb : w.heap[b]? = some (.cells d.val.toArray 40 (0, 0))) (hd : d.v < 4294967296) (hk : k ≤ 16)
   (h : ∀ w' v25, Ext w w' → OwnB w' w.heap.size v25 (dataR d.v (4 * k)) → X4 v0 v1 v3 v4 (.int .i64 (4 * k : Nat)) v15 v16 v25 w') :
   S31_l26 v0 v1 v3 v4 (ptr b) (.int .i64 (4 * k : Nat)) v15 v16 (.slice none 0 0) (.int .i64 0) w X4 E := by
  unfold S31_l26
  refine ⟨fun v25 v26 w' => ∃ i : Nat, v26 = .int .i64 i ∧ i ≤ 4 * k ∧ Ext w w' ∧ OwnB w' w.heap.size v25 (dataR d.v i), fun _ v26 _ => match v26 with | .int _ i => 64 - i.toNat | _ => 0, ⟨0, rfl, by omega, Fr.refl _ _, OwnB.nil⟩, ?_⟩
  rintro v25 _ w1 ⟨i, rfl, hi, e1, o1⟩
  have hb1 := e1.get hb
  have s1 := e1.size
  unfold DoV.val at hb1
  have hdl : (dataR d.v i).length = i := by simp [dataR]
  unfold S31_b26
  refine x_lss (fun hc => ?_) (fun hc => ?_)
  with_reducible refine Cnd.yes ?_; refine x_field0 ?_; refine x_load1 ‹_› (at_S (at_S (at_S at_2))) ?_; refine x_convN (by rw [IntKind.wrap_i64]; omega) ?_; refine x_addN (by rw [IntKind.wrap_i64]; omega) ?_
  rotate_left
  with_reducible refine Cnd.no ?_
  rotate_left
  · refine x_conv ?_
    rw [show IntKind.u8.wrap ((d.v : Int) + (i : Int)) = (((d.v + i) % 256 : Nat) : Int) by rw [IntKind.wrap_u8]; omega]
    refine x_bs_w (l := [.int .u8 (((d.v + i) % 256 : Nat) : Int)]) (by omega) (by omega) (z' := #[.int .u8 0]) (by kernel_rfl) (by apply fill_1; exact ⟨rfl, rfl⟩; exact oneI; exact set_0; exact fill_nil) ?_
    generalize hw2 : World.alloc _ _ = w2
    have e2 : Ext w1 w2 := by rw [← hw2]; exact (Fr.refl _ w1).alloc _
    have b2 : w2.heap[w1.heap.size]? = some (.cells #[.int .u8 (((d.v + i) % 256 : Nat) : Int)] 5 (0, 0)) := by rw [← hw2]; exact blk_alloc_new
    clear hw2
    have s2 := e2.size
    have o2 := o1.frame e2 fun _ _ _ => id
    have hH : Holds w2 ⟨w1.heap.size, 0, none⟩ (u8s [(d.v + i) % 256]) := by
      have := holds_blk (w := w2) (o := 0) (n := 1) b2 (by simp)
      simpa [u8s] using this
    refine x_append (size := 1) (m := 1) (news := u8s [(d.v + i) % 256]) o2 (by simp [u8s]) hH (by simp [u8s, Value.oneCell']) (by simp [maxLen]; omega) (by omega) (by omega) fun v' w3 o3 g3 => ?_
    have e3 : Fr (fun r => w.heap.size ≤ r) w2 w3 := (Fr.refl _ w2).grown g3 fun r hr _ => (World.ownsRow.lt o2 r hr).1
    have o3' : OwnB w3 w.heap.size v' (dataR d.v (i + 1)) := by
      have e : u8s (dataR d.v i) ++ u8s [(d.v + i) % 256] = u8s (dataR d.v (i + 1)) := by simp [u8s, dataR, List.range_succ]
      rw [e] at o3
      have : (dataR d.v (i + 1)).length = (dataR d.v i).length + 1 := by simp [dataR]
      unfold OwnB
      rw [this]
      exact o3
    with_reducible refine x_addN (by rw [IntKind.wrap_i64]; omega) ?_
    exact ⟨⟨i + 1, by congr 1, by omega, (e1.trans e2).trans' e3 fun r hr hlt => by omega, o3'⟩, by simp only; omega⟩
  · have : i = 4 * k := by omega
    rw [this] at o1
    exact h w1 v25 e1 o1
end Go.Eng
namespace Go.Eng
open Go.Proofs Go.MapKept
variable {w : World} {K : Value → World → Prop} {E : List PanicEntry → World → Prop}
theorem wmsg_j {B : LB} {s : MS} {roots : Int → Option Nat} {Ls : List (List Rg)} {FM : Nat → Prop} {cell : Int} {at_ k base b : Nat} {v16 : Value} {d : DoV}
   (h : Lw w B s roots Ls FM s.M) (hcell : i64 cell) (hat : at_ < 16777216) (hat4 : at_ % 4 = 0) (hk : k ≤ 16) (hnow : s.now < 9223372036854774000) (hbase : base ≤ w.heap.size) (ho : OwnU w base v16 (wantL (cellL Ls cell) 2 (ad at_ k)).1) (hold : ∀ r, FM r ∨ TC B.c B.t B.tb r ∨ r = B.pb → r < base)
   (hb : w.heap[b]? = some (.cells d.val.toArray 40 (0, 0))) (hd : d.v < 4294967296)
   (hK : ∀ w' s' FM', LStep w w' B s s' Ls FM FM' cell → Lw w' B s' roots Ls FM' s'.M → K (.bool true) w') :
   S31_j14 (ptr B.x) (ptr B.p) (.int .i64 cell) (.int .u32 at_) (ptr b) (.int .i64 (4 * k : Nat)) (.bool false) (.int .i64 (wantL (cellL Ls cell) 2 (ad at_ k)).2) v16 w K E := by
  have hadr : ∀ x ∈ ad at_ k, x < 4294967296 ∧ x % 4 = 0 := fun x hx => by
    simp only [ad, List.mem_map, List.mem_range] at hx
    obtain ⟨i, hi, rfl⟩ := hx
    omega
  have hadl : (ad at_ k).length = k := by simp [ad]
  have hmsg : msgR at_ (dataR d.v (4 * k)).length = true := by
    unfold msgR dataR
    rw [List.length_map, List.length_range, decide_eq_true_eq]
    omega
  obtain ⟨g1, g2, g3, g4⟩ := write_good (cell := cell) (l := dataR d.v (4 * k)) h.good hmsg (by omega)
  have hdl : (dataR d.v (4 * k)).length = 4 * k := by simp [dataR]
  have hshp := @writeR_shp s roots cell at_ (dataR d.v (4 * k))
  have hd8 : ∀ x ∈ dataR d.v (4 * k), x < 256 := fun x hx => by
    simp only [dataR, List.mem_map] at hx
    obtain ⟨i, _, rfl⟩ := hx
    omega
  rw [hdl, ad_addrs (by omega)] at g1 g2
  rw [hdl] at hshp
  have htos := wantL_tos (b := 2) (cellL_rok h cell).1 (ad at_ k) (fun x hx => (hadr x hx).2)
  rw [hadl] at htos
  have hM := h.mm.sys.mem.bytes_lt
  unfold S31_j14
  with_reducible refine Cnd.no ?_
  unfold S31_j24
  refine data_l hb hd hk fun w1 v25 e1 o1 => ?_
  have hL1 := h.ext e1
  have hx := hL1.set
  have s1 := e1.size
  have ho1 := ho.frame e1 fun _ _ _ => id
  obtain ⟨a, cp, rfl⟩ := own_len o1
  have hold' := h.lts
  have hcp : 0 < 4 * k → ∃ pb po, a = some ⟨pb, po, none⟩ ∧ 4 * k ≤ cp ∧ Holds w1 ⟨pb, po, none⟩ (u8s (dataR d.v (4 * k))) ∧ pb < w1.heap.size ∧ ¬ FM pb ∧ pb ≠ B.c ∧ pb ≠ B.t ∧ pb ≠ B.tb := fun hk0 => by
    obtain ⟨g, cur, rfl, hg, hgb, hsz, ht, hc⟩ := own_at o1 (by omega)
    refine ⟨g, 0, rfl, by omega, ?_, lt_of_blk hgb, fun hq => ?_, ?_, ?_, ?_⟩
    · have := holds_blk (w := w1) (o := 0) (n := (dataR d.v (4 * k)).length * 1) hgb (by omega)
      rw [List.drop_zero, ht] at this
      exact this
    · have := hold'.2.2.2.2.2.2.1 g hq; omega
    all_goals omega
  unfold S31_j29
  with_reducible refine x_nil ?_; refine x_field0 ?_; refine x_load1 ‹_› (at_S at_2) ?_
  rw [hdl]
  refine x_callF (Write_m (l := dataR d.v (4 * k)) (cell := cell) hL1.mm (by omega) (by omega) hdl (by omega) hcp hd8 fun w2 FM' e2 k1 k2 h2 => ?_)
  have hL2 := hL1.st e2 k1 h2 g3
  have s2 := e2.size
  have o2 := o1.frame e2 fun r hr hlt hq => by
    rcases hq with hq | hq
    · have := hold r (.inl hq); omega
    · have := hold r (.inr (.inl hq)); omega
  have ho2 := ho1.frame e2 fun r hr hlt hq => by
    rcases hq with hq | hq
    · have := hold r (.inl hq); omega
    · have := hold r (.inr (.inl hq)); omega
  rw [g1]
  have fin : ∀ w', Fr (fun r => r = B.pb) w2 w' → Lw w' B (writeR s roots cell at_ (dataR d.v (4 * k))).2 roots Ls FM' (writeR s roots cell at_ (dataR d.v (4 * k))).2.M → K (.bool true) w' := fun w' e3 h3 => by
    refine hK w' _ FM' ⟨((Fr.of_ext e1).trans (e2.mono fun r _ hr => ?_)).trans (e3.mono fun r _ hr => .inr (.inr hr)), fun r hr => ?_, g4, by omega, hshp.1⟩ h3
    · rcases hr with hr | hr
      · exact .inl hr
      · exact .inr (.inl hr)
    · rcases k1 r hr with hq | hq
      · exact .inl hq
      · exact .inr (by omega)
  generalize (writeR s roots cell at_ (dataR d.v (4 * k))).1.1 = cy at *
  generalize (writeR s roots cell at_ (dataR d.v (4 * k))).2 = s' at *
  generalize wantL (cellL Ls cell) 2 (ad at_ k) = W at *
  have o2' := o2
  rw [hdl] at o2
  with_reducible refine x_extract at_0 ?_; refine x_extract at_1 ?_
  unfold S31_l31
  refine ⟨fun v29 w' => ∃ i : Nat, v29 = .int .i64 i ∧ i ≤ 4 * k ∧ (W.2 ≠ 0 → i = 0) ∧ Fr (fun r => r = B.pb) w2 w' ∧ Lw w' B s' roots Ls FM' (putB s.M W.1 (dataR d.v (4 * k)) i), fun v29 _ => match v29 with | .int _ i => 64 - i.toNat | _ => 0, ⟨0, rfl, by omega, fun _ => rfl, Fr.refl _ _, hL2⟩, ?_⟩
  rintro _ w3 ⟨i, rfl, hi, hi0, e3, h3⟩
  unfold S31_b31
  refine x_lss (fun hc => ?_) (fun hc => ?_)
  with_reducible refine XG.yes ?_; refine x_val ?_; refine XG.yes ?_
  refine x_eql (fun hc => ?_) (fun hc => ?_)
  with_reducible refine x_pickT ?_; refine Cnd.yes ?_; refine XQ.of rfl ?_; refine x_quoN (by omega) (by omega) (by rw [IntKind.wrap_i64]; omega) ?_; refine qstep ?_; refine XQ.of rfl ?_
  rotate_left
  with_reducible refine x_pickT ?_; refine Cnd.no ?_
  rotate_left
  with_reducible refine XG.no (by decide) ?_; refine XG.no (by decide) ?_; refine x_pickF ?_; refine Cnd.no ?_
  rotate_left
  · have hW : W.2 = 0 := by assumption
    have hi4 : i < 4 * k := by omega
    obtain ⟨hln, htos⟩ := htos hW
    have hlt : i / 4 < W.1.length := by omega
    have hpb : ∀ r, base ≤ r → ¬ (r = B.pb) := fun r hr hq => by have := hold r (.inr (.inr hq)); omega
    have ho3 := ho2.frame e3 fun r hr _ => hpb r hr
    have o3 := o2'.frame e3 fun r hr _ => hpb r (by omega)
    obtain ⟨a', cp', rfl⟩ := own_len ho3
    rw [← hdl] at hi4
    obtain ⟨g, cur, rfl, hg, hgb, hci⟩ := own1 o3 hi4
    obtain ⟨g', cur', rfl, hg', hgb', hci'⟩ := own1 ho3 hlt
    have hT : W.1[i / 4]? = some (W.1.getD (i / 4) 0) := by rw [List.getD_eq_getElem?_getD, List.getElem?_eq_getElem hlt]; rfl
    have hD : (dataR d.v (4 * k))[i]? = some ((dataR d.v (4 * k)).getD i 0) := by rw [List.getD_eq_getElem?_getD, List.getElem?_eq_getElem hi4]; rfl
    have hTm : W.1.getD (i / 4) 0 ∈ W.1 := List.mem_of_getElem? hT
    have hDm := hd8 _ (List.mem_of_getElem? hD)
    obtain ⟨r, hr, o, hro, ho4, hrp, hrl⟩ := htos _ hTm
    have hTl : W.1.getD (i / 4) 0 + 4 ≤ 131072 := by omega
    have hstep : putB s.M W.1 (dataR d.v (4 * k)) (i + 1) = put (putB s.M W.1 (dataR d.v (4 * k)) i) (W.1.getD (i / 4) 0 + i % 4) ((stb ((dataR d.v (4 * k)).getD i 0)).take 1) := by
      simp only [putB, stb, List.take_succ_cons, List.take_zero]
      rw [Nat.mod_eq_of_lt hDm]
    simp only [u8s, u32s, List.getElem?_map, hD, hT, Option.map_some] at hci hci'
    generalize W.1.getD (i / 4) 0 = T at *
    generalize (dataR d.v (4 * k)).getD i 0 = D at *
    rw [hdl] at hi4
    have h3d := h3.ext (Ext.drw_self w3)
    refine x_idxS (by omega) ?_
    rw [show 0 + ((i : Int) / 4).toNat * 1 = i / 4 by omega]
    with_reducible refine qstep ?_; refine XQ.of rfl ?_; refine x_load1 ‹_› ‹_› ?_; refine qstep ?_; refine XQ.of rfl ?_; refine x_remN (by omega) (by omega) ?_; refine qstep ?_; refine XQ.of rfl ?_; refine x_convN (by rw [IntKind.wrap_u32]; omega) ?_; refine qstep ?_; refine XQ.of rfl ?_; refine x_addN (by rw [IntKind.wrap_u32]; omega) ?_; refine qstep ?_; refine XQ.of rfl ?_
    refine x_idxS (by omega) ?_
    rw [show 0 + (i : Int).toNat * 1 = i by omega]
    with_reducible refine qstep ?_; refine XQ.of rfl ?_; refine x_load1 ‹_› ‹_› ?_; refine qstep ?_; refine XQ.of rfl ?_; refine x_convN (by rw [IntKind.wrap_u32]; omega) ?_; refine qstep ?_
    rw [show (T : Int) + (i : Int) % 4 = ((T + i % 4 : Nat) : Int) by omega]
    refine x_callF (pput_c (s := 1) h3d.plain (by omega) (by omega) (by omega) fun w4 e4 h4 => ?_)
    rw [← hstep] at h4
    have hL4 := h3d.pl e4 h4
    with_reducible refine x_addN (by rw [IntKind.wrap_i64]; omega) ?_
    exact ⟨⟨i + 1, by congr 1, by omega, fun hq => absurd hW hq, (e3.drw).trans e4, hL4⟩, by simp only; omega⟩
  all_goals (
    unfold S31_j34
    refine x_eql (fun _ => ?_) (fun hq => absurd rfl hq)
    refine fin w3 e3 ?_
    rw [g2]
    by_cases hW : W.2 = 0
    · have hik : i = 4 * k := by omega
      obtain ⟨hln, _⟩ := htos hW
      rw [hik, putB_wrM (by omega) k (by omega), List.take_of_length_le (by omega)] at h3
      rw [if_pos hW]
      exact h3
    · rw [if_neg hW]
      rw [hi0 hW] at h3
      exact h3)
end Go.Eng
namespace Go.Eng
open Go.Proofs Go.MapKept
variable {w : World} {K : Value → World → Prop} {E : List PanicEntry → World → Prop}
theorem messages_c {B : LB} {s : MS} {roots : Int → Option Nat} {Ls : List (List Rg)} {FM : Nat → Prop} {cell : Int} {at_ : Nat} {v2 : Value} {d : DoV}
   (h : Lw w B s roots Ls FM s.M) (hcell : i64 cell) (hat : at_ < 16777216) (hat4 : at_ % 4 = 0) (hnow : s.now < 9223372036854774000) (hl : RgAt w v2 (cellL Ls cell)) (hd : d.Ok)
   (hK : ∀ w' s' FM', LStep w w' B s s' Ls FM FM' cell → Lw w' B s' roots Ls FM' s'.M → K (.bool true) w') :
   C P 31 #[ptr B.x, ptr B.p, v2, .int .i64 cell, .int .u32 at_, .agg d.val.toArray] w K E := by
  obtain ⟨hok, hrk, hlen⟩ := cellL_rok h cell
  have hk := pickR_lt (c := d.size) (n := 17) (by omega)
  have hp := d.size
  apply F31
  unfold S31_0
  refine x_boxA ?_
  generalize hw1 : World.alloc _ _ = w1
  have e1 : Ext w w1 := by rw [← hw1]; exact (Fr.refl _ w).alloc _
  have b1 : w1.heap[w.heap.size]? = some (.cells d.val.toArray 40 (0, 0)) := by rw [← hw1]; exact blk_alloc_new
  clear hw1
  have h1 := h.ext e1
  have hl1 := hl.frame e1 fun _ _ _ _ _ => id
  have b1' := b1
  unfold DoV.val at b1'
  have hlt := h1.lts
  have hold : ∀ w2, Ext w1 w2 → ∀ r, FM r ∨ TC B.c B.t B.tb r ∨ r = B.pb → r < w1.heap.size := fun w2 e2 r hr => by
    rcases hr with hr | (hr | hr | hr) | hr
    · exact hlt.2.2.2.2.2.2.1 r hr
    all_goals omega
  have fin : ∀ w2 s' FM' w', Ext w w2 → LStep w2 w' B s s' Ls FM FM' cell → Lw w' B s' roots Ls FM' s'.M → K (.bool true) w' := fun w2 s' FM' w' e hs hL => hK w' s' FM' ⟨(Fr.of_ext e).trans hs.fr, fun r hr => by
      rcases hs.fm r hr with hq | hq
      · exact .inl hq
      · exact .inr (Nat.le_trans e.size hq), hs.ap, hs.now, hs.shp⟩ hL
  with_reducible refine x_field0 ?_; refine x_load1 ‹_› (at_S (at_S at_2)) ?_
  refine x_callF (pick_c (n := 17) hd.size (by omega) ?_)
  generalize pickR d.size 17 = k at *
  with_reducible refine x_mulN (by rw [IntKind.wrap_i64]; omega) ?_; refine x_field0 ?_; refine x_load1 ‹_› at_0 ?_
  refine x_callF (pick_c (n := 8) hd.kind (by omega) ?_)
  rw [show (4 : Int) * (k : Int) = ((4 * k : Nat) : Int) by omega]
  have key : ∀ rd : Bool, S31_l6 (ptr B.x) (ptr B.p) v2 (.int .i64 cell) (.int .u32 at_) (ptr w.heap.size) (.int .i64 (4 * k : Nat)) (.bool rd) (.int .i64 0) (.slice none 0 0) (.int .i64 0) w1 (fun x0 x1 x3 x4 x11 x13 x14 x15 x16 y => S31_j14 x0 x1 x3 x4 x11 x13 x14 x15 x16 y K E) E := fun rd => by
    refine tos_l (rd := rd) hl1 hok hrk hlen hat (by omega) fun w2 v16 e2 o2 => ?_
    have h2 := h1.ext e2
    have s2 := e2.size
    cases rd
    · exact wmsg_j h2 hcell hat hat4 (by omega) hnow s2 o2 (hold w2 e2) (e2.get b1) hd.v fun w' s' FM' => fin w2 s' FM' w' (e1.trans e2)
    · refine rmsg_j h2 hcell hat hat4 (by omega) hnow ⟨?_, s2⟩ o2 (fun r hr _ hq => ?_) fun w' s' FM' => fin w2 s' FM' w' (e1.trans e2)
      · exact hlt.2.2.2.2.2.2.2
      · have := hold w2 e2 r (.inr (.inl hq)); omega
  refine x_eql (fun hc => ?_) (fun hc => ?_)
  · exact key true
  · exact key false
end Go.Eng
namespace Go.Eng
open Go.Proofs Go.MapKept
variable {w : World} {K : Value → World → Prop} {E : List PanicEntry → World → Prop}
theorem at_lt {d : DoV} : d.at_ < 8388608 := by
  have h33 := pickR_lt (c := d.page) (n := 33) (by omega)
  have h40 := pickR_lt (c := d.off) (n := 4096) (by omega)
  unfold DoV.at_ vaR
  split <;> omega
theorem sz_or {d : DoV} : d.sz = 1 ∨ d.sz = 2 ∨ d.sz = 4 := by
  have h3 := pickR_lt (c := d.size) (n := 3) (by omega)
  unfold DoV.sz sizeL
  generalize pickR d.size 3 = i at *
  have : i = 0 ∨ i = 1 ∨ i = 2 := by omega
  rcases this with rfl | rfl | rfl <;> simp
theorem fits_al {a z : Nat} (hz : z = 1 ∨ z = 2 ∨ z = 4) : fitsR (a / z * z) z = true := by
  unfold fitsR
  rw [decide_eq_true_eq]
  rcases hz with rfl | rfl | rfl <;> omega
theorem stR_shp {s : MS} {roots : Int → Option Nat} {cell size : Int} {at_ v : Nat} : Shp s (stR s roots cell at_ size v).2 ∧ (stR s roots cell at_ size v).2.now ≤ s.now + 1 := by
  obtain ⟨a1, a2, a3, a4, a5, a6, a7⟩ := @trR_same s roots cell 2 at_
  unfold stR
  split
  · exact ⟨Shp.refl, by simp only; omega⟩
  · simp only
    split
    · exact ⟨⟨a1, a3, a4, a5, a6⟩, a7⟩
    · exact ⟨⟨a1, a3, a4, a5, a6⟩, a7⟩
theorem stR_cy {s : MS} {roots : Int → Option Nat} {cell size : Int} {at_ v : Nat} (hM : ∀ x, s.M x < 256) : (stR s roots cell at_ size v).1.1 ≤ 60 := by
  have h := trR_cy (roots := roots) (cell := cell) (a := 2) (at_ := at_) hM
  unfold stR
  split
  · simp
  · simp only
    split
    · simp only; omega
    · simp only
      have := @accS_cy (trR s roots cell at_ 2).2 (trR s roots cell at_ 2).1.1 true
      omega
theorem x_quoV {t ty : TypeId} {cx cy : Bool} {a z : Nat} (hz : 0 < z) (ha : a < 4294967296) (h : K (.int .u32 (a / z : Nat)) w) : X P (.bin .quo t cx cy (.int .u32 a) (.int .u32 z)) ty w K E := by
  have := Nat.div_le_self a z
  refine x_quoN (by omega) (by omega) ?_ ?_
  · rw [← Int.natCast_ediv, IntKind.wrap_u32]; generalize a / z = q at *; omega
  · rw [← Int.natCast_ediv]; exact h
theorem x_mulV {t ty : TypeId} {cx cy : Bool} {a z : Nat} (ha : a * z < 4294967296) (h : K (.int .u32 (a * z : Nat)) w) : X P (.bin .mul t cx cy (.int .u32 a) (.int .u32 z)) ty w K E := by
  refine x_mulN ?_ ?_
  · rw [← Int.natCast_mul, IntKind.wrap_u32]; generalize a * z = q at *; omega
  · rw [← Int.natCast_mul]; exact h
theorem plays_j5 {B : LB} {s : MS} {roots : Int → Option Nat} {Ls : List (List Rg)} {FM : Nat → Prop} {cell : Int} {b : Nat} {v10 : Value} {d : DoV}
   (h : Lw w B s roots Ls FM s.M) (hcell : i64 cell) (hnow : s.now < 9223372036854774000) (hl : RgAt w v10 (cellL Ls cell)) (hd : d.Ok) (hb : w.heap[b]? = some (.cells d.val.toArray 40 (0, 0))) (hbn : b ≠ B.pb ∧ ¬ FM b ∧ b ≠ B.c ∧ b ≠ B.t ∧ b ≠ B.tb)
   (hK : ∀ w' s' FM', LStep w w' B s s' Ls FM FM' cell → Lw w' B s' roots Ls FM' s'.M → K (.bool true) w') :
   S11_j5 (ptr B.x) (ptr B.p) (ptr b) (.int .i64 cell) v10 w K E := by
  obtain ⟨hok, hrk, hlen⟩ := cellL_rok h cell
  have hat := @at_lt d
  have hsz := @sz_or d
  have hM := h.mm.sys.mem.bytes_lt
  have hb' := hb
  unfold DoV.val at hb'
  have hrp : ∀ r ∈ cellL Ls cell, r.p ≤ 16777216 := fun r hr => by have := (hok.each r hr).2.2.2.1; omega
  have hl0 := hl
  have fin0 : ∀ w2 w' s' FM', Ext w w2 → LStep w2 w' B s s' Ls FM FM' cell → Lw w' B s' roots Ls FM' s'.M → K (.bool true) w' := fun w2 w' s' FM' e hs hL => hK w' s' FM' ⟨(Fr.of_ext e).trans hs.fr, fun r hr => by
      rcases hs.fm r hr with hq | hq
      · exact .inl hq
      · exact .inr (Nat.le_trans e.size hq), hs.ap, hs.now, hs.shp⟩ hL
  unfold S11_j5
  with_reducible refine x_loadA ‹_› (sub_cons (sub_cons (sub_cons (sub_cons (sub_cons (sub_cons sub_nil)))))) ?_
  refine x_callF (dsize_c hd fun w1 e1 => ?_)
  have hb1 := e1.get hb
  have hb1' := e1.get hb'
  with_reducible refine x_loadA ‹_› (sub_cons (sub_cons (sub_cons (sub_cons (sub_cons (sub_cons sub_nil)))))) ?_
  refine x_callF (at_c hd fun w2 e2 => ?_)
  have e12 := e1.trans e2
  have hb2 := e12.get hb
  have hb2' := e12.get hb'
  have h2 := h.ext e12
  have hl2 := hl.frame e12 fun _ _ _ _ _ => id
  have k8 := pickR_lt (c := d.kind) (n := 8) (by omega)
  with_reducible refine x_field0 ?_; refine x_load1 ‹_› at_0 ?_
  refine x_callF (pick_c (n := 8) hd.kind (by omega) ?_)
  generalize pickR d.kind 8 = kd at *
  have get_fin : ∀ (w3 w4 : World) (va size a : Nat), Ext w2 w3 → va < 4294967296 → (a = 1 ∨ a = 3) → fitsR va (size : Int) = true → Fr (TC B.c B.t B.tb) w3 w4 → Mm w4 B.u B.m B.c B.t B.tb B.rb (getR s roots cell va size a).2 roots FM → K (.bool true) w4 := fun w3 w4 va size a e3 hv ha hf e4 hm => by
    have hg := get_good (cell := cell) (a := a) (size := size) h.good hv (by omega) hf
    have hs := @getR_same s roots cell a size va
    refine fin0 w3 w4 _ FM (e12.trans e3) ⟨e4.mono fun r _ hr => .inr (.inl hr), fun r hr => .inl hr, by rw [hs.2.1]; exact .refl, by omega, ⟨hs.1, hs.2.2.1, hs.2.2.2.1, hs.2.2.2.2.1, hs.2.2.2.2.2.1⟩⟩ ?_
    rw [hs.2.1]
    exact (h2.ext e3).tc e4 hm hg.2.2
  have load : ∀ wd : Bool, S11_j15 (ptr B.x) (ptr B.p) (ptr b) (.int .i64 cell) v10 (.int .i64 (d.sz : Nat)) (.int .u32 (d.at_ : Nat)) (.int .i64 (kd : Nat)) (.bool true) w2 (fun x0 x1 x7 x9 x10 x12 y => S11_j30 x0 x1 x7 x9 x10 x12 y K E) K E := fun _ => by
    unfold S11_j15
    generalize hz : d.sz = z at *
    with_reducible refine Cnd.yes ?_; refine x_convN (by rw [IntKind.wrap_u32]; omega) ?_
    refine x_quoV (by omega) (by omega) ?_
    with_reducible refine x_convN (by rw [IntKind.wrap_u32]; omega) ?_
    refine x_mulV (by have := Nat.div_mul_le_self d.at_ z; omega) ?_
    have hva : d.at_ / z * z ≤ d.at_ := Nat.div_mul_le_self _ _
    refine x_callF (want_c (b := 1) (l := cellL Ls cell) hl2 (by omega) (by omega) hrk hrp (by omega) fun w3 e3 => ?_)
    have h3 := h2.ext e3
    have hx3 := h3.set
    with_reducible refine x_extract at_0 ?_; refine x_extract at_1 ?_; refine x_nil ?_; refine x_field0 ?_; refine x_load1 ‹_› (at_S at_2) ?_
    refine x_callF (Load_m (cell := cell) (size := (z : Nat)) h3.mm (by omega) (by omega) (by omega) fun w4 e4 h4 => ?_)
    have hg := get_good (cell := cell) (a := 1) (size := (z : Nat)) h.good (va := d.at_ / z * z) (by omega) (by omega) (fits_al hsz)
    have hs := @getR_same s roots cell 1 (z : Nat) (d.at_ / z * z)
    have hcy := @getR_cy s roots cell 1 (z : Nat) (d.at_ / z * z) hM
    have hL4 := h3.tc e4 h4 hg.2.2
    have fin : K (.bool true) w4 := by
      refine fin0 w3 w4 _ FM (e12.trans e3) ⟨e4.mono fun r _ hr => .inr (.inl hr), fun r hr => .inl hr, by rw [hs.2.1]; exact .refl, by omega, ⟨hs.1, hs.2.2.1, hs.2.2.2.1, hs.2.2.2.2.1, hs.2.2.2.2.2.1⟩⟩ ?_
      rw [hs.2.1]
      exact hL4
    have hwt := want_to (b := 1) hok (va := d.at_ / z * z)
    have hfz := fits_to (f := 0) (fits_al (a := d.at_) hsz)
    rw [show bitA 1 = 1 from rfl] at hg
    rw [hg.1, hg.2.1]
    have hpl := hL4.plain
    generalize (getR s roots cell (d.at_ / z * z) (z : Nat) 1).1.2.1 = cy at *
    rw [show ((z : Nat) : Int).toNat = z from rfl]
    by_cases hW : (wantR (cellL Ls cell) (d.at_ / z * z) 1).2 = 0
    · obtain ⟨r, hr, hto, hp1, hp2⟩ := hwt hW
      rw [if_pos hW]
      have hto2 : (wantR (cellL Ls cell) (d.at_ / z * z) 1).1 + z ≤ 131072 := by
        obtain ⟨z', hz', _, _, h4'⟩ := hfz
        omega
      generalize wantR (cellL Ls cell) (d.at_ / z * z) 1 = W at *
      with_reducible refine x_extract at_0 ?_; refine x_extract at_1 ?_; refine x_extract at_2 ?_
      refine x_eql (fun hc => ?_) (fun hc => by omega)
      with_reducible refine XG.yes ?_; refine x_val ?_; refine XG.yes ?_
      refine x_geq (fun hc => ?_) (fun hc => by omega)
      with_reducible refine x_pickT ?_; refine XG.yes ?_; refine x_val ?_; refine XG.yes ?_
      refine x_leq (fun hc => ?_) (fun hc => by omega)
      with_reducible refine x_pickT ?_; refine XG.yes ?_; refine x_val ?_; refine XG.yes ?_
      refine x_neq (fun hc => by omega) (fun hc => ?_)
      with_reducible refine XG.yes ?_; refine x_val ?_; refine XG.no (by decide) ?_; refine XG.no (by decide) ?_; refine XG.yes ?_; refine x_pickF ?_; refine XG.yes ?_; refine x_val ?_; refine XG.yes ?_; refine x_val ?_; refine XG.yes ?_
      refine x_eql (fun hc => ?_) (fun hc => by omega)
      with_reducible refine XG.yes ?_; refine x_val ?_; refine XG.yes ?_; refine x_val ?_; refine XG.yes ?_; refine x_val ?_; refine XG.yes ?_; refine x_val ?_; refine XG.yes ?_; refine x_val ?_; refine XG.yes ?_
      refine x_callF (pword_c (s := z) hpl hM (by omega) hto2 ?_)
      with_reducible refine XG.yes ?_
      refine x_eql (fun hc => ?_) (fun hc => by omega)
      with_reducible refine XG.yes ?_; refine x_pickT ?_; refine XG.yes ?_; refine x_pickF ?_; refine x_pickT ?_
      exact fin
    · rw [if_neg hW]
      generalize wantR (cellL Ls cell) (d.at_ / z * z) 1 = W at *
      with_reducible refine x_extract at_0 ?_; refine x_extract at_1 ?_; refine x_extract at_2 ?_
      refine x_eql (fun hc => ?_) (fun hc => by omega)
      with_reducible refine XG.yes ?_; refine x_val ?_; refine XG.yes ?_
      refine x_geq (fun hc => ?_) (fun hc => by omega)
      with_reducible refine x_pickT ?_; refine XG.yes ?_; refine x_val ?_; refine XG.yes ?_
      refine x_leq (fun hc => ?_) (fun hc => by omega)
      with_reducible refine x_pickT ?_; refine XG.yes ?_; refine x_val ?_; refine XG.yes ?_
      refine x_neq (fun hc => ?_) (fun hc => by omega)
      with_reducible refine XG.yes ?_; refine x_val ?_; refine XG.yes ?_; refine x_val ?_; refine XG.yes ?_
      refine x_eql (fun hc => ?_) (fun hc => by omega)
      with_reducible refine XG.yes ?_; refine x_pickT ?_; refine XG.yes ?_; refine x_val ?_; refine XG.no (by decide) ?_; refine XG.no (by decide) ?_; refine XG.no (by decide) ?_; refine XG.undef ?_; refine XG.undef ?_; refine XG.undef ?_; refine XG.undef ?_; refine XG.undef ?_; refine XG.undef ?_; refine XG.no (by decide) ?_; refine XG.yes ?_; refine x_pickT ?_; refine x_pickT ?_
      exact fin
  refine x_eql (fun hc => ?_) (fun hc => ?_)
  with_reducible refine Cnd.yes ?_
  rotate_left
  with_reducible refine Cnd.no ?_
  refine x_eql (fun hc => ?_) (fun hc => ?_)
  with_reducible refine Cnd.yes ?_
  rotate_left
  with_reducible refine Cnd.no ?_
  refine x_eql (fun hc => ?_) (fun hc => ?_)
  rotate_left
  rotate_left
  · refine x_andNot32 (j := 2) (by omega) (by omega) (by omega) ?_
    have hva : d.at_ / 2 ^ 2 * 2 ^ 2 ≤ d.at_ := Nat.div_mul_le_self _ _
    have hfa : fitsR (d.at_ / 2 ^ 2 * 2 ^ 2) (4 : Nat) = true := fits_al (.inr (.inr rfl))
    generalize d.at_ / 2 ^ 2 * 2 ^ 2 = va at *
    refine x_callF (want_c (b := 4) (l := cellL Ls cell) hl2 (by omega) (by omega) hrk hrp (by omega) fun w3 e3 => ?_)
    have h3 := h2.ext e3
    have hx3 := h3.set
    with_reducible refine x_extract at_0 ?_; refine x_extract at_1 ?_; refine x_nil ?_; refine x_field0 ?_; refine x_load1 ‹_› (at_S at_2) ?_
    refine x_callF (Fetch_m (cell := cell) h3.mm (by omega) (by omega) fun w4 e4 h4 => ?_)
    have hg := get_good (cell := cell) (a := 3) (size := 4) h.good (va := va) (by omega) (by omega) hfa
    have hs := @getR_same s roots cell 3 4 va
    have hcy := @getR_cy s roots cell 3 4 va hM
    have hL4 := h3.tc e4 h4 hg.2.2
    have fin : K (.bool true) w4 := by
      refine fin0 w3 w4 _ FM (e12.trans e3) ⟨e4.mono fun r _ hr => .inr (.inl hr), fun r hr => .inl hr, by rw [hs.2.1]; exact .refl, by omega, ⟨hs.1, hs.2.2.1, hs.2.2.2.1, hs.2.2.2.2.1, hs.2.2.2.2.2.1⟩⟩ ?_
      rw [hs.2.1]
      exact hL4
    have hwt := want_to (b := 4) hok (va := va)
    have hfz := fits_to (f := 0) hfa
    rw [show bitA 3 = 4 from rfl] at hg
    rw [hg.1, hg.2.1]
    have hpl := hL4.plain
    generalize (getR s roots cell va 4 3).1.2.1 = cy at *
    rw [show (4 : Int).toNat = 4 from rfl]
    by_cases hW : (wantR (cellL Ls cell) va 4).2 = 0
    · obtain ⟨r, hr, hto, hp1, hp2⟩ := hwt hW
      rw [if_pos hW]
      have hto2 : (wantR (cellL Ls cell) va 4).1 + 4 ≤ 131072 := by
        obtain ⟨z', hz', _, _, h4'⟩ := hfz
        omega
      generalize wantR (cellL Ls cell) va 4 = W at *
      with_reducible refine x_extract at_0 ?_; refine x_extract at_1 ?_; refine x_extract at_2 ?_
      refine x_eql (fun hc => ?_) (fun hc => by omega)
      with_reducible refine XG.yes ?_; refine x_val ?_; refine XG.yes ?_
      refine x_geq (fun hc => ?_) (fun hc => by omega)
      with_reducible refine x_pickT ?_; refine XG.yes ?_; refine x_val ?_; refine XG.yes ?_
      refine x_leq (fun hc => ?_) (fun hc => by omega)
      with_reducible refine x_pickT ?_; refine XG.yes ?_; refine x_val ?_; refine XG.yes ?_
      refine x_neq (fun hc => by omega) (fun hc => ?_)
      with_reducible refine XG.yes ?_; refine x_val ?_; refine XG.no (by decide) ?_; refine XG.no (by decide) ?_; refine XG.yes ?_; refine x_pickF ?_; refine XG.yes ?_; refine x_val ?_; refine XG.yes ?_; refine x_val ?_; refine XG.yes ?_
      refine x_eql (fun hc => ?_) (fun hc => by omega)
      with_reducible refine XG.yes ?_; refine x_val ?_; refine XG.yes ?_; refine x_val ?_; refine XG.yes ?_; refine x_val ?_; refine XG.yes ?_; refine x_val ?_; refine XG.yes ?_
      refine x_callF (pword_c (s := 4) hpl hM (by omega) hto2 ?_)
      with_reducible refine XG.yes ?_
      refine x_eql (fun hc => ?_) (fun hc => by omega)
      with_reducible refine XG.yes ?_; refine x_pickT ?_; refine XG.yes ?_; refine x_pickF ?_; refine x_pickT ?_
      exact fin
    · rw [if_neg hW]
      generalize wantR (cellL Ls cell) va 4 = W at *
      with_reducible refine x_extract at_0 ?_; refine x_extract at_1 ?_; refine x_extract at_2 ?_
      refine x_eql (fun hc => ?_) (fun hc => by omega)
      with_reducible refine XG.yes ?_; refine x_val ?_; refine XG.yes ?_
      refine x_geq (fun hc => ?_) (fun hc => by omega)
      with_reducible refine x_pickT ?_; refine XG.yes ?_; refine x_val ?_; refine XG.yes ?_
      refine x_leq (fun hc => ?_) (fun hc => by omega)
      with_reducible refine x_pickT ?_; refine XG.yes ?_; refine x_val ?_; refine XG.yes ?_
      refine x_neq (fun hc => ?_) (fun hc => by omega)
      with_reducible refine XG.yes ?_; refine x_val ?_; refine XG.yes ?_; refine x_val ?_; refine XG.yes ?_
      refine x_eql (fun hc => ?_) (fun hc => by omega)
      with_reducible refine XG.yes ?_; refine x_pickT ?_; refine XG.yes ?_; refine x_val ?_; refine XG.no (by decide) ?_; refine XG.no (by decide) ?_; refine XG.no (by decide) ?_; refine XG.undef ?_; refine XG.undef ?_; refine XG.undef ?_; refine XG.undef ?_; refine XG.undef ?_; refine XG.no (by decide) ?_; refine XG.yes ?_; refine x_pickT ?_; refine x_pickT ?_
      exact fin
  · exact load true
  · exact load true
  · have hx2 := h2.set
    have store : S11_j21 (ptr B.x) (ptr B.p) (ptr b) (.int .i64 cell) v10 (.int .i64 (d.sz : Nat)) (.int .u32 (d.at_ : Nat)) (.int .i64 (kd : Nat)) (.bool true) w2 (fun x0 x1 x7 x9 x10 x12 y => S11_j30 x0 x1 x7 x9 x10 x12 y K E) K E := by
      unfold S11_j21
      generalize hz : d.sz = z at *
      with_reducible refine Cnd.yes ?_; refine x_convN (by rw [IntKind.wrap_u32]; omega) ?_
      refine x_quoV (by omega) (by omega) ?_
      with_reducible refine x_convN (by rw [IntKind.wrap_u32]; omega) ?_
      refine x_mulV (by have := Nat.div_mul_le_self d.at_ z; omega) ?_
      have hva : d.at_ / z * z ≤ d.at_ := Nat.div_mul_le_self _ _
      refine x_callF (want_c (b := 2) (l := cellL Ls cell) hl2 (by omega) (by omega) hrk hrp (by omega) fun w3 e3 => ?_)
      have h3 := (h2.ext e3).ext (Ext.drw_self w3)
      have hx3 := h3.set
      have hb3 := e3.get hb2
      have hb3' := e3.get hb2'
      have hwt := want_to (b := 2) hok (va := d.at_ / z * z)
      have hfz := fits_to (f := 0) (fits_al (a := d.at_) hsz)
      have hst := st_good (cell := cell) (size := (z : Nat)) (v := d.v) h.good (va := d.at_ / z * z) (by omega) (fits_al hsz)
      have hcy := @stR_cy s roots cell (z : Nat) (d.at_ / z * z) d.v hM
      have hs := @stR_shp s roots cell (z : Nat) (d.at_ / z * z) d.v
      with_reducible refine x_extract at_0 ?_; refine x_extract at_1 ?_; refine XQ.of rfl ?_; refine x_nil ?_; refine qstep ?_; refine XQ.of rfl ?_; refine x_field0 ?_; refine qstep ?_; refine XQ.of rfl ?_; refine x_load1 ‹_› (at_S at_2) ?_; refine qstep ?_; refine XQ.of rfl ?_; refine x_field0 ?_; refine qstep ?_; refine XQ.of rfl ?_; refine x_load1 ‹_› (at_S (at_S (at_S at_2))) ?_; refine qstep ?_
      refine x_callF (Store_m (cell := cell) (size := (z : Nat)) h3.mm (by omega) hd.v (by omega) (by omega) fun w4 FM' e4 k1 k2 h4 => ?_)
      have hL4 := h3.st e4 k1 h4 hst.2.2.1
      have fin : ∀ w5, Fr (fun r => r = B.pb) w4 w5 → Lw w5 B (stR s roots cell (d.at_ / z * z) (z : Nat) d.v).2 roots Ls FM' (stR s roots cell (d.at_ / z * z) (z : Nat) d.v).2.M → K (.bool true) w5 := fun w5 e5 hL => by
        refine fin0 (drw w3) w5 _ FM' ((e12.trans e3).trans (Ext.drw_self w3)) ⟨(e4.mono fun r _ hr => ?_).trans (e5.mono fun r _ hr => .inr (.inr hr)), k1, hst.2.2.2, by omega, hs.1⟩ hL
        rcases hr with hr | hr
        · exact .inl hr
        · exact .inr (.inl hr)
      have hb4' := e4.get (show ¬ (FM b ∨ TC B.c B.t B.tb b) by rintro (hq | hq | hq | hq); exact hbn.2.1 hq; exact hbn.2.2.1 hq; exact hbn.2.2.2.1 hq; exact hbn.2.2.2.2 hq) (show (drw w3).heap[b]? = _ from hb3')
      rw [hst.1]
      have hM2 := hst.2.1
      rw [show ((z : Nat) : Int).toNat = z from rfl] at hM2
      generalize (stR s roots cell (d.at_ / z * z) (z : Nat) d.v).1.1 = cy at *
      generalize (stR s roots cell (d.at_ / z * z) (z : Nat) d.v).2 = s' at *
      by_cases hW : (wantR (cellL Ls cell) (d.at_ / z * z) 2).2 = 0
      · obtain ⟨r, hr, hto, hp1, hp2⟩ := hwt hW
        have hto2 : (wantR (cellL Ls cell) (d.at_ / z * z) 2).1 + z ≤ 131072 := by
          obtain ⟨z', hz', _, _, h4'⟩ := hfz
          omega
        rw [if_pos hW] at hM2
        generalize wantR (cellL Ls cell) (d.at_ / z * z) 2 = W at *
        with_reducible refine XQ.of rfl ?_; refine x_extract at_0 ?_; refine qstep ?_; refine XQ.of rfl ?_; refine x_extract at_1 ?_; refine qstep ?_
        refine x_eql (fun hc => ?_) (fun hc => by omega)
        with_reducible refine Cnd.yes ?_; refine x_field0 ?_; refine x_load1 ‹_› (at_S (at_S (at_S at_2))) ?_
        refine x_callF (pput_c (s := z) hL4.plain (by omega) hto2 hd.v fun w5 e5 h5 => ?_)
        rw [← hM2] at h5
        unfold S11_j26
        refine x_eql (fun hc => ?_) (fun hc => by omega)
        with_reducible refine XG.yes ?_; refine x_val ?_; refine XG.yes ?_
        refine x_geq (fun hc => ?_) (fun hc => by omega)
        with_reducible refine x_pickT ?_; refine XG.yes ?_; refine x_val ?_; refine XG.yes ?_
        refine x_leq (fun hc => ?_) (fun hc => by omega)
        with_reducible refine x_pickT ?_
        exact fin w5 e5 (hL4.pl e5 h5)
      · rw [if_neg hW] at hM2
        generalize wantR (cellL Ls cell) (d.at_ / z * z) 2 = W at *
        with_reducible refine XQ.of rfl ?_; refine x_extract at_0 ?_; refine qstep ?_; refine XQ.of rfl ?_; refine x_extract at_1 ?_; refine qstep ?_
        refine x_eql (fun hc => by omega) (fun hc => ?_)
        with_reducible refine Cnd.no ?_
        unfold S11_j26
        refine x_eql (fun hc => ?_) (fun hc => by omega)
        with_reducible refine XG.yes ?_; refine x_val ?_; refine XG.yes ?_
        refine x_geq (fun hc => ?_) (fun hc => by omega)
        with_reducible refine x_pickT ?_; refine XG.yes ?_; refine x_val ?_; refine XG.yes ?_
        refine x_leq (fun hc => ?_) (fun hc => by omega)
        with_reducible refine x_pickT ?_
        refine fin w4 (Fr.refl _ _) ?_
        rw [hM2]
        exact hL4
    unfold S11_j15
    with_reducible refine Cnd.no ?_
    refine x_eql (fun hc => ?_) (fun hc => ?_)
    with_reducible refine Cnd.yes ?_
    rotate_left
    with_reducible refine Cnd.no ?_
    refine x_eql (fun hc => ?_) (fun hc => ?_)
    rotate_left
    rotate_left
    · exact store
    · exact store
    · unfold S11_j21
      with_reducible refine Cnd.no ?_
      refine x_eql (fun hc => ?_) (fun hc => ?_)
      with_reducible refine Cnd.yes ?_; refine x_nil ?_; refine x_field0 ?_; refine x_load1 ‹_› (at_S at_2) ?_
      rotate_left
      with_reducible refine Cnd.no ?_
      rotate_left
      · refine x_callF (Flush_m h2.mm fun w3 e3 h3 => ?_)
        have hL3 := h2.tc e3 h3 (fl_good h.good)
        have hx3 := hL3.set
        refine x_geq (fun hc => ?_) (fun hc => by omega)
        with_reducible refine XG.yes ?_; refine x_val ?_; refine XG.yes ?_; refine x_nil ?_; refine XG.yes ?_; refine x_field0 ?_; refine XG.yes ?_; refine x_load1 ‹_› at_2 ?_; refine XG.yes ?_
        refine x_callF (TlbLen_c hL3.mm.sys.tlb ?_)
        rw [show (flR s).2.L.length = 0 from rfl]
        with_reducible refine XG.yes ?_
        refine x_eql (fun hc => ?_) (fun hc => by omega)
        with_reducible refine x_pickT ?_
        exact fin0 w2 w3 (flR s).2 FM e12 ⟨e3.mono fun r _ hr => .inr (.inl hr), fun r hr => .inl hr, .refl, by simp [flR], ⟨rfl, rfl, rfl, rfl, rfl⟩⟩ hL3
      · unfold S11_j30
        refine x_andNot32 (j := 2) (by omega) (by omega) (by omega) ?_
        have hva : d.at_ / 2 ^ 2 * 2 ^ 2 ≤ d.at_ := Nat.div_mul_le_self _ _
        have hva4 : d.at_ / 2 ^ 2 * 2 ^ 2 % 4 = 0 := by omega
        generalize d.at_ / 2 ^ 2 * 2 ^ 2 = va at *
        with_reducible refine x_loadA ‹_› (sub_cons (sub_cons (sub_cons (sub_cons (sub_cons (sub_cons sub_nil)))))) ?_
        exact x_callF (messages_c h2 hcell (by omega) hva4 hnow hl2 hd fun w' s' FM' => fin0 w2 w' s' FM' e12)
theorem plays_c {B : LB} {s : MS} {roots : Int → Option Nat} {Ls : List (List Rg)} {FM : Nat → Prop} {d : DoV}
   (h : Lw w B s roots Ls FM s.M) (hnow : s.now < 9223372036854774000) (hd : d.Ok)
   (hK : ∀ w' s' FM', LStep w w' B s s' Ls FM FM' (1 + pickR d.cell 5 : Nat) → Lw w' B s' roots Ls FM' s'.M → K (.bool true) w') :
   C P 11 #[ptr B.x, ptr B.p, B.v, .agg d.val.toArray] w K E := by
  have h5 := pickR_lt (c := d.cell) (n := 5) (by omega)
  apply F11
  unfold S11_0
  refine x_boxA ?_
  generalize hw1 : World.alloc _ _ = w1
  have e1 : Ext w w1 := by rw [← hw1]; exact (Fr.refl _ w).alloc _
  have b1 : w1.heap[w.heap.size]? = some (.cells d.val.toArray 40 (0, 0)) := by rw [← hw1]; exact blk_alloc_new
  clear hw1
  have h1 := h.ext e1
  have hlt := h.lts
  have b1' := b1
  unfold DoV.val at b1'
  have fin : ∀ w' s' FM', LStep w1 w' B s s' Ls FM FM' (1 + pickR d.cell 5 : Nat) → Lw w' B s' roots Ls FM' s'.M → K (.bool true) w' := fun w' s' FM' hs hL => hK w' s' FM' ⟨(Fr.of_ext e1).trans hs.fr, fun r hr => by
      rcases hs.fm r hr with hq | hq
      · exact .inl hq
      · exact .inr (Nat.le_trans e1.size hq), hs.ap, hs.now, hs.shp⟩ hL
  have hbn : w.heap.size ≠ B.pb ∧ ¬ FM w.heap.size ∧ w.heap.size ≠ B.c ∧ w.heap.size ≠ B.t ∧ w.heap.size ≠ B.tb := ⟨by omega, fun hq => by have := hlt.2.2.2.2.2.2.1 _ hq; omega, by omega, by omega, by omega⟩
  obtain ⟨ga, cap, c, hv, hga, hgb, hgi⟩ := h1.rgs
  have hn := h.n
  have hc6 : ∀ n : Nat, n ≤ 6 → i64 (n : Nat) := fun n hn => by unfold i64; omega
  with_reducible refine x_field0 ?_; refine x_load1 ‹_› at_1 ?_
  refine x_callF (pick_c (n := 5) hd.cell (by omega) ?_)
  rw [hv]
  have hc1 : (1 : Int) + (pickR d.cell 5 : Int) = ((1 + pickR d.cell 5 : Nat) : Int) := by omega
  generalize pickR d.cell 5 = k at *
  with_reducible refine x_addN (by rw [IntKind.wrap_i64]; omega) ?_; refine x_lenS ?_
  refine x_leq (fun hc => ?_) (fun hc => ?_)
  with_reducible refine Cnd.yes ?_; refine x_subN (by rw [IntKind.wrap_i64]; omega) ?_
  rotate_left
  with_reducible refine Cnd.no ?_
  rotate_left
  all_goals rw [hc1]
  · have hk : k < Ls.length := by omega
    obtain ⟨vi, c1, c2, c3⟩ := hgi k hk
    refine x_idxS (by omega) ?_
    rw [show 0 + (((1 + k : Nat) : Int) - 1).toNat * 1 = k by omega]
    with_reducible refine x_load1 ‹_› ‹_› ?_
    refine plays_j5 h1 (hc6 _ (by omega)) hnow ?_ hd b1 hbn fin
    unfold cellL
    rw [if_pos (by omega), List.getD_eq_getElem?_getD, show (((1 + k : Nat) : Int)).toNat - 1 = k by omega, List.getElem?_eq_getElem hk]
    exact c2
  · refine plays_j5 h1 (hc6 _ (by omega)) hnow ?_ hd b1 hbn fin
    unfold cellL
    rw [if_neg (by omega)]
    exact ⟨none, 0, rfl, by simp, fun hq => absurd rfl hq⟩
end Go.Eng
namespace Go.Eng
open Go.Proofs Go.MapKept
theorem tr_front {s : MS} {roots : Int → Option Nat} {cell a : Int} {va : Nat} (h : (trR s roots cell va a).1.2.2 = 0) : ∃ root e rest, roots cell = some root ∧ (trR s roots cell va a).2.L = e :: rest ∧ e.is cell (va / 4096) = true := by
  unfold trR at h ⊢
  split
  · rename_i hr
    rw [hr] at h
    simp at h
  · rename_i root hr
    rw [hr] at h
    simp only at h ⊢
    split
    · rename_i e he
      exact ⟨root, _, _, hr, rfl, is_iff.2 ⟨rfl, rfl⟩⟩
    · rename_i hn
      rw [hn] at h
      simp only at h
      split
      · rename_i h0
        rw [if_pos h0] at h
        exact absurd h h0
      · exact ⟨root, _, _, hr, rfl, is_iff.2 ⟨rfl, rfl⟩⟩
theorem tr_hit {s : MS} {roots : Int → Option Nat} {cell a : Int} {va root : Nat} {e : TE} {rest : List TE} (hr : roots cell = some root) (hL : s.L = e :: rest) (he : e.is cell (va / 4096) = true) : (trR s roots cell va a).1.2.1 = 0 ∧ (trR s roots cell va a).2.S = s.S := by
  unfold trR
  rw [hr]
  simp only
  rw [hL, List.find?_cons_of_pos (p := fun x => TE.is x cell (va / 4096)) he]
  exact ⟨rfl, rfl⟩
theorem acc_front {ways t : Nat} {l : List (Nat × Bool)} {wr : Bool} : ∃ d rest, (acc ways l t wr).2 = (t, d) :: rest := by
  unfold acc
  split
  · exact ⟨_, _, rfl⟩
  · split
    · exact ⟨_, _, rfl⟩
    · exact ⟨_, _, rfl⟩
theorem acc_hit {ways t : Nat} {d : Bool} {rest : List (Nat × Bool)} {wr : Bool} : (acc ways ((t, d) :: rest) t wr).1.2.2 = 1 := by
  unfold acc at?
  rw [List.findIdx?_cons, if_pos (by simp)]
theorem get_again {s : MS} {roots : Int → Option Nat} {Ls : List (List Rg)} (hg : Good s roots Ls) {cell : Int} {va va' size size' : Nat} (hv : va < 4294967296) (hf : fitsR va size = true) (hf' : fitsR va' size' = true) (hlb : s.lb = 4) (hl : va' / 16 = va / 16) (h0 : (getR s roots cell va size 1).1.2.2 = 0) :
    (getR (getR s roots cell va size 1).2 roots cell va' size' 1).1.2 = (1, 0) := by
  have hv' : va' < 4294967296 := by omega
  have hp : va' / 4096 = va / 4096 := by omega
  obtain ⟨g1, g2, g3⟩ := get_good hg (cell := cell) (a := 1) (size := size) hv (by omega) hf
  obtain ⟨k1, k2, k3⟩ := tr_good hg (cell := cell) (a := 1) hv (by omega)
  obtain ⟨m1, m2, m3⟩ := tr_good g3 (cell := cell) (a := 1) hv' (by omega)
  rw [g1, show bitA 1 = 1 from rfl] at h0
  rw [show bitA 1 = 1 from rfl] at k1 k2 m1 m2
  have hw : (wantR (cellL Ls cell) va' 1).2 = (wantR (cellL Ls cell) va 1).2 ∧ ((wantR (cellL Ls cell) va 1).2 = 0 → ∃ r : Rg, r.p % 4096 = 0 ∧ (wantR (cellL Ls cell) va 1).1 = r.p + va % 4096 ∧ (wantR (cellL Ls cell) va' 1).1 = r.p + va' % 4096) := by
    unfold wantR
    rw [← foundR_page (va := va'), hp, foundR_page]
    cases hfo : foundR (cellL Ls cell) va with
    | none => simp
    | some r =>
      simp only
      obtain ⟨_, hr1, _, _⟩ := found_lt (cellL_ok (cell := cell) hg.ok) hfo
      split
      · simp
      · exact ⟨rfl, fun _ => ⟨r, hr1, rfl, rfl⟩⟩
  obtain ⟨r, hr1, hr2, hr3⟩ := hw.2 h0
  have htr0 : (trR s roots cell va 1).1.2.2 = 0 := by rw [k2, h0]
  obtain ⟨root, e, rest, hrt, hL, he⟩ := tr_front htr0
  have hs := @trR_same s roots cell 1 va
  have hG : (getR s roots cell va size 1).2 = (accS (trR s roots cell va 1).2 (trR s roots cell va 1).1.1 false).2 := by
    unfold getR
    rw [if_neg (by simp [hf])]
    simp only
    rw [if_neg (by rw [htr0]; simp)]
    simp
  rw [hG] at m1 m2 ⊢
  generalize hT : trR s roots cell va 1 = T at *
  obtain ⟨q1, q2⟩ := tr_hit (s := (accS T.2 T.1.1 false).2) (a := 1) (va := va') hrt hL (by rw [hp]; exact he)
  have hs2 := @trR_same (accS T.2 T.1.1 false).2 roots cell 1 va'
  unfold getR
  rw [if_neg (by simp [hf'])]
  simp only
  rw [if_neg (by rw [m2, hw.1, h0]; simp), q1]
  have hfin : (accS (trR (accS T.2 T.1.1 false).2 roots cell va' 1).2 (trR (accS T.2 T.1.1 false).2 roots cell va' 1).1.1 (decide ((1 : Int) = 2))).1 = 1 := by
    generalize trR (accS T.2 T.1.1 false).2 roots cell va' 1 = T2 at *
    have e1 : T2.2.lb = 4 := by rw [hs2.2.2.2.2.1]; show T.2.lb = 4; rw [hs.2.2.2.2.1, hlb]
    have e2 : T.2.lb = 4 := by rw [hs.2.2.2.2.1, hlb]
    have e3 : T2.2.la = T.2.la := hs2.2.2.2.1
    have e4 : T2.2.ways = T.2.ways := hs2.2.2.2.2.2.1
    have ea : T2.1.1 / 2 ^ 4 = T.1.1 / 2 ^ 4 := by rw [m1, k1, hr2, hr3]; omega
    unfold accS
    rw [e1, e3, e4, ea, q2]
    simp only [accS, setS]
    rw [e2, if_pos rfl]
    obtain ⟨d, rest', hd⟩ := @acc_front T.2.ways (T.1.1 / 2 ^ 4 / 2 ^ T.2.la) (T.2.S (T.1.1 / 2 ^ 4 % 2 ^ T.2.la)) false
    rw [hd, acc_hit]
  rw [hfin]
end Go.Eng
namespace Go.Eng
open Go.Proofs Go.MapKept
def rg0 : Rg := ⟨4194304, 20480, 1, 1⟩
theorem enc2 {f : Nat} (h : f ≤ 4095) : (encR 2 0 f).1 = 4096 * f + 17 := by unfold encR; rw [if_neg (by omega), if_neg (by omega), if_pos rfl, if_neg (by omega), if_neg (by omega)]
theorem works_walk {M : Nat → Nat} {root : Nat} (h : CellTab M root 262144 [rg0]) : ∃ tb, tb % 4096 = 0 ∧ 163840 ≤ tb ∧ tb ≠ root ∧ walkR M 64 root 4194304 1 = (20480, [(root + 4, (encR 2 0 (tb / 4096)).1), (tb, (encR 1 1 5).1)], 0) := by
  obtain ⟨r1, r2, r3, r4⟩ := h.rt
  obtain ⟨T, h1, h2, h3⟩ := h.tab
  have hp := h3 1024 (by omega)
  rw [show ([rg0].find? fun r => decide (1024 = r.v / 4096)) = some rg0 from rfl] at hp
  simp only at hp
  obtain ⟨tb, ht, hl⟩ := hp
  rw [show 1024 / 1024 = 1 from rfl] at ht
  rw [show tb + 4 * (1024 % 1024) = tb from rfl, show rg0.perm = 1 from rfl, show rg0.p / 4096 = 5 from rfl] at hl
  obtain ⟨t1, t2, t3⟩ := h2 1 tb ht
  have hr := h1 1 (by omega)
  rw [ht] at hr
  simp only at hr
  rw [show root + 4 * 1 = root + 4 from rfl] at hr
  have hr0 := h1 0 (by omega)
  have he : (encR 1 1 5).1 = 20483 := by rw [enc_page (.inl rfl) (by omega)]
  refine ⟨tb, t1, t2, fun hq => ?_, ?_⟩
  · subst hq
    rw [show tb + 4 * 0 = tb from rfl, hl, he] at hr0
    cases hT : T 0 with
    | none => rw [hT] at hr0; simp at hr0
    | some tb' =>
      obtain ⟨q1, q2, q3⟩ := h2 0 tb' hT
      rw [hT] at hr0
      simp only at hr0
      rw [enc2 (by omega)] at hr0
      omega
  · unfold walkR
    rw [show root + 4 * (4194304 / 4096 / 1024) = root + 4 from rfl, wd_in (by omega) (by omega), hr]
    simp only
    rw [dec_table (by omega)]
    simp only
    rw [if_neg (by simp), if_neg (by omega), if_neg (by simp)]
    unfold walk2
    rw [show 4096 * (tb / 4096) + 4 * (4194304 / 4096 % 1024) = tb by omega, wd_in (by omega) (by omega), hl]
    simp only
    rw [dec_page (.inl rfl) (by omega)]
    simp only
    rw [if_neg (by simp), if_neg (by omega), if_neg (by simp), if_neg (by decide), if_neg (by omega)]
theorem accS_0 {s : MS} {a : Nat} {wr : Bool} (hla : s.la = 4) (hlb : s.lb = 4) (hw : s.ways = 2) (ha : a / 16 % 16 = 0) : accS s a wr = ((acc 2 (s.S 0) (a / 256) wr).1.2.2, { s with S := setS s.S 0 (acc 2 (s.S 0) (a / 256) wr).2 }) := by
  unfold accS
  rw [hla, hlb, hw]
  rw [show a / 2 ^ 4 % 2 ^ 4 = 0 by omega, show a / 2 ^ 4 / 2 ^ 4 = a / 256 by omega]
theorem setS_0 {S : Nat → List (Nat × Bool)} {l : List (Nat × Bool)} : setS S 0 l 0 = l := by simp [setS]
theorem works_1 {s : MS} {roots : Int → Option Nat} (hn : s.n = 64) (hL : s.L = []) (hS : s.S = fun _ => []) (hla : s.la = 4) (hlb : s.lb = 4) (hw : s.ways = 2) {root : Nat} (hr : roots 1 = some root) (h : CellTab s.M root 262144 [rg0]) :
    (getR s roots 1 4194304 4 1).1.2 = (36, 0) := by
  obtain ⟨r1, r2, r3, r4⟩ := h.rt
  obtain ⟨tb, t1, t2, t3, hwk⟩ := works_walk h
  have hne1 : root / 256 ≠ tb / 256 := by omega
  have hne2 : root / 256 ≠ 80 := by omega
  have hne3 : tb / 256 ≠ 80 := by omega
  have a1 : acc 2 [] (root / 256) false = ((false, false, 12), [(root / 256, false)]) := by simp [acc, at?]
  have a2 : acc 2 [(root / 256, false)] (tb / 256) false = ((false, false, 12), [(tb / 256, false), (root / 256, false)]) := by
    unfold acc at?
    rw [List.findIdx?_cons, if_neg (by simpa using hne1)]
    simp
  have a3 : (acc 2 [(tb / 256, false), (root / 256, false)] 80 false).1.2.2 = 12 := by
    unfold acc at?
    rw [List.findIdx?_cons, if_neg (by simpa using hne3), List.findIdx?_cons, if_neg (by simpa using hne2)]
    simp
  have ft : fitsR 4194304 4 = true := by decide
  have htr : trR s roots 1 4194304 1 = ((20480, 24, 0), putT { s with S := setS (setS s.S 0 [(root / 256, false)]) 0 [(tb / 256, false), (root / 256, false)] } 1 1024 5 1) := by
    unfold trR
    rw [hr]
    simp only
    rw [hL]
    simp only [List.find?_nil]
    rw [hn, hwk]
    simp only [List.map_cons, List.map_nil, accAll]
    rw [accS_0 hla hlb hw (by omega), show (root + 4) / 256 = root / 256 by omega, hS, a1]
    simp only
    rw [accS_0 (by simpa using hla) (by simpa using hlb) (by simpa using hw) (by omega)]
    simp only [setS_0]
    rw [a2]
    simp only [lastE, List.getLast?_cons_cons, List.getLast?_singleton]
    rw [dec_page (.inl rfl) (by omega)]
    simp [hn, hL, hS]
  unfold getR
  rw [if_neg (by rw [ft]; simp)]
  simp only
  rw [htr]
  simp only
  rw [if_neg (by simp)]
  rw [accS_0 (by simpa [putT] using hla) (by simpa [putT] using hlb) (by simpa [putT] using hw) (by omega)]
  simp only [putT, setS_0]
  rw [show 20480 / 256 = 80 from rfl, show decide ((1 : Int) = 2) = false from rfl, a3]
theorem get_front {s : MS} {roots : Int → Option Nat} {cell : Int} {va : Nat} {size a : Int} (hf : fitsR va size = true) (h : (getR s roots cell va size a).1.2.2 = 0) : ∃ root e rest, roots cell = some root ∧ (getR s roots cell va size a).2.L = e :: rest ∧ e.is cell (va / 4096) = true := by
  unfold getR at h ⊢
  rw [if_neg (by simp [hf])] at h ⊢
  simp only at h ⊢
  by_cases h0 : (trR s roots cell va a).1.2.2 = 0
  · rw [if_neg (by simpa using h0)]
    exact tr_front h0
  · rw [if_pos h0] at h
    exact absurd h h0
theorem st_hit {s : MS} {roots : Int → Option Nat} {cell size : Int} {va v root : Nat} {e : TE} {rest : List TE} (hf : fitsR va size = true) (hr : roots cell = some root) (hL : s.L = e :: rest) (he : e.is cell (va / 4096) = true) (h : (stR s roots cell va size v).1.2 ≠ 0) : (stR s roots cell va size v).1.1 = 0 := by
  have hc := (tr_hit (a := 2) hr hL he).1
  unfold stR at h ⊢
  rw [if_neg (by simp [hf])] at h ⊢
  simp only at h ⊢
  by_cases h0 : (trR s roots cell va 2).1.2.2 = 0
  · rw [if_neg (by simpa using h0)] at h
    simp at h
  · rw [if_pos h0]
    exact hc
theorem get_none {s : MS} {roots : Int → Option Nat} {cell size : Int} {va : Nat} {a : Int} (hf : fitsR va size = true) (hr : roots cell = none) : (getR s roots cell va size a).1 = (0, 0, 3) := by
  unfold getR trR
  rw [if_neg (by simp [hf]), hr]
  simp
theorem rg0_ok : OkCell [rg0] ∧ (∀ r ∈ [rg0], r.Ok) ∧ [rg0].length ≤ 1000 := by
  refine ⟨⟨fun r hr => ?_, List.pairwise_singleton _ _⟩, fun r hr => ?_, by decide⟩
  · rw [List.mem_singleton.1 hr]
    exact ⟨rfl, by decide, by decide, by decide, .inl rfl, by decide⟩
  · rw [List.mem_singleton.1 hr]
    exact ⟨by decide, by decide, by decide, by decide⟩
end Go.Eng
namespace Go.Eng
open Go.Proofs Go.MapKept
variable {w : World} {K : Value → World → Prop} {E : List PanicEntry → World → Prop}
theorem works_c (hg : Glob w) (h : ∀ w', Ext w w' → K (.bool true) w') : C P 6 #[] w K E := by
  apply F6
  unfold S6_0
  with_reducible refine x_buildS (by apply fill_1; exact inferInstance; exact oneI; exact set_0; apply fill_1; exact inferInstance; exact oneI; apply set_S; exact set_0; rotate_left; apply fill_1; exact inferInstance; exact oneI; apply set_S; apply set_S; exact set_0; rotate_left; rotate_left; apply fill_1; exact inferInstance; exact oneI; apply set_S; apply set_S; apply set_S; exact set_0; rotate_left; rotate_left; rotate_left; exact fill_nil; rotate_left; rotate_left; rotate_left; rotate_left; rotate_left; rotate_left; rotate_left; rotate_left) ?_
  refine x_bsA (sz := 4) (z := #[.int .u32 0, .int .u32 0, .int .i64 0, .int .u8 0]) (by omega) rfl rfl ?_
  generalize hw1 : World.alloc _ _ = w1
  have e1 : Ext w w1 := by rw [← hw1]; exact (Fr.refl _ w).alloc _
  have b1 : w1.heap[w.heap.size]? = some (.cells (rgV rg0).toArray 60 (0, 0)) := by rw [← hw1]; exact blk_alloc_new
  clear hw1
  refine x_bs_w (l := [.slice (some ⟨w.heap.size, 0, none⟩) 1 1]) (by omega) (by omega) (z' := #[.slice none 0 0]) (by kernel_rfl) (by apply fill_1; exact ⟨rfl, rfl⟩; exact oneS; exact set_0; exact fill_nil) ?_
  generalize hw2 : World.alloc _ _ = w2
  have e2 : Ext w1 w2 := by rw [← hw2]; exact (Fr.refl _ w1).alloc _
  have b2 : w2.heap[w1.heap.size]? = some (.cells #[.slice (some ⟨w.heap.size, 0, none⟩) 1 1] 57 (0, 0)) := by rw [← hw2]; exact blk_alloc_new
  clear hw2
  have s1 := e1.size
  have s2 := e2.size
  have l1 := lt_of_blk b1
  have l2 := lt_of_blk b2
  have hR : RgsAt w2 w2.heap.size (.slice (some ⟨w1.heap.size, 0, none⟩) 1 1) [[rg0]] := by
    refine ⟨w1.heap.size, 1, _, rfl, l2, b2, fun i hi => ?_⟩
    have : i = 0 := by simp at hi; omega
    subst this
    refine ⟨.slice (some ⟨w.heap.size, 0, none⟩) 1 1, rfl, ⟨_, 1, rfl, by simp, fun _ => ⟨w.heap.size, 0, _, rfl, e2.get b1, fun j hj => ?_⟩⟩, fun g o n k hv => by simp only [Value.slice.injEq, Option.some.injEq, Addr.mk.injEq] at hv; omega⟩
    have : j = 0 := by simp at hj; omega
    subst this
    exact sub_of_take (N := 4) (xs := rgV rg0) (by simp [rgV]) (by simp [rgV]) (by omega) (by simp [rgV])
  with_reducible refine x_buildS (by apply fill_1; exact inferInstance; exact oneI; exact set_0; apply fill_1; exact inferInstance; exact oneI; apply set_S; exact set_0; rotate_left; apply fill_1; exact inferInstance; exact oneI; apply set_S; apply set_S; exact set_0; rotate_left; rotate_left; exact fill_nil; rotate_left; rotate_left; rotate_left; rotate_left; rotate_left; rotate_left) ?_
  refine x_callF (mapped_c (slots := 4) (la := 4) (ways := 2) (hg.fr (e1.trans e2) id) hR (Nat.le_refl _) (by simp) (fun l hl => by rw [List.mem_singleton.1 hl]; exact rg0_ok) (by omega) (by omega) (by omega) fun w3 x u m c t tb rb FM M roots e3 _ _ _ _ _ _ _ hFM hxF hxne hx hm htabs hz _ => ?_)
  with_reducible refine x_eqlP ?_; refine Cnd.no ?_; refine x_nil ?_; refine x_field0 ?_; refine x_load1 ‹_› at_0 ?_
  have ft1 : fitsR 4194304 ((4 : Nat) : Int) = true := by decide
  have ft2 : fitsR 4194308 ((4 : Nat) : Int) = true := by decide
  refine x_callF (Store_c (at_ := 20484) (v := 77) (size := 4) (n := 64) hm.sys.mem (by omega) (by omega) (by omega) (fun hq => by exfalso; omega) (fun _ hq => by exfalso; omega) (fun _ _ hq => by exfalso; omega) fun z w4 F4 hz1 hz2 _ _ e4 k1 k2 hm4 => ?_)
  obtain rfl : z = 4 := by omega
  have h4 := mm_mem hm e4 k1 hm4
  have hL4 := e4.get hxF hx
  rw [show (stb 77).take 4 = stb 77 from rfl] at h4
  have s3 := e3.size
  have e04 : Ext w w4 := ((e1.trans e2).trans e3).trans' e4 fun r hr hlt => by have := hFM r hr; omega
  obtain ⟨root, hr, hct⟩ := htabs.2 0 (by simp)
  have hct' : CellTab (put M 20484 (stb 77)) root 262144 [rg0] := hct.keep (Nat.le_refl _) (Nat.le_refl _) fun y hy _ => put_out (.inr (by rw [stb_len]; omega))
  generalize hs : ({ ms0 64 4 4 2 with M := put M 20484 (stb 77) } : MS) = s at *
  have sn : s.n = 64 := by rw [← hs]; rfl
  have sM : s.M = put M 20484 (stb 77) := by rw [← hs]
  have sL : s.L = [] := by rw [← hs]; rfl
  have snow : s.now = 0 := by rw [← hs]; rfl
  have hg4 : Good s roots [[rg0]] := ⟨sn, by rw [sM]; exact htabs.keep (Nat.le_refl _) (Nat.le_refl _) fun y hy _ => put_out (.inr (by rw [stb_len]; omega)), by rw [sL]; simp, fun l hl => by rw [List.mem_singleton.1 hl]; exact rg0_ok.1⟩
  have hc1 : (getR s roots ((1 : Nat) : Int) 4194304 ((4 : Nat) : Int) 1).1.2 = (36, 0) := works_1 sn sL (by rw [← hs]; rfl) (by rw [← hs]; rfl) (by rw [← hs]; rfl) (by rw [← hs]; rfl) hr (by rw [sM]; exact hct')
  have slb : s.lb = 4 := by rw [← hs]; rfl
  clear hs
  have hg1 := get_good hg4 (cell := (1 : Nat)) (va := 4194304) (a := 1) (size := (4 : Nat)) (by omega) (by omega) ft1
  have f1 := get_front ft1 (congrArg Prod.snd hc1)
  have hs1 := @getR_same s roots (1 : Nat) 1 (4 : Nat) 4194304
  have hc2 := get_again (va := 4194304) (va' := 4194308) (cell := (1 : Nat)) (size := 4) (size' := 4) hg4 (by omega) ft1 ft2 slb (by omega) (congrArg Prod.snd hc1)
  with_reducible refine x_nil ?_; refine x_field0 ?_; refine x_load1 ‹_› (at_S at_2) ?_
  refine x_callF (Load_m (cell := (1 : Nat)) (at_ := 4194304) (size := (4 : Nat)) h4 (by omega) (by omega) (by omega) fun w5 e5 h5 => ?_)
  have nx : ∀ r, r ≠ c → r ≠ t → r ≠ tb → ¬ TC c t tb r := fun r q1 q2 q3 hq => by rcases hq with hq | hq | hq; exact q1 hq; exact q2 hq; exact q3 hq
  have hx5 := e5.get (nx x hxne.1 hxne.2.1 hxne.2.2.1) hL4
  generalize hS1 : (getR s roots ((1 : Nat) : Int) 4194304 ((4 : Nat) : Int) 1).2 = s1' at *
  have hg2 := get_good hg1.2.2 (cell := (1 : Nat)) (va := 4194308) (a := 1) (size := (4 : Nat)) (by omega) (by omega) ft2
  have f2 := get_front ft2 (congrArg Prod.snd hc2)
  have hs2 := @getR_same s1' roots (1 : Nat) 1 (4 : Nat) 4194308
  with_reducible refine x_extract at_0 ?_; refine x_extract at_1 ?_; refine x_extract at_2 ?_; refine x_nil ?_; refine x_field0 ?_; refine x_load1 ‹_› (at_S at_2) ?_
  refine x_callF (Load_m (cell := (1 : Nat)) (at_ := 4194308) (size := (4 : Nat)) h5 (by omega) (by omega) (by omega) fun w6 e6 h6 => ?_)
  have hx6 := e6.get (nx x hxne.1 hxne.2.1 hxne.2.2.1) hx5
  have s4 := e4.size
  have s5 := e5.size
  have s6 := e6.size
  have hv2 : (getR s1' roots ((1 : Nat) : Int) 4194308 ((4 : Nat) : Int) 1).1.1 = 77 := by
    have hw : (wantR (cellL [[rg0]] ((1 : Nat) : Int)) 4194308 (bitA 1)) = (20484, 0) := by decide
    rw [hg2.2.1, hw, if_pos rfl, hs1.2.1, sM]
    exact ldv_put_same (by omega)
  generalize hS2 : (getR s1' roots ((1 : Nat) : Int) 4194308 ((4 : Nat) : Int) 1).2 = s2' at *
  obtain ⟨root2, en, rest, hr2, hL2, hen⟩ := f2
  have hg3 := st_good hg2.2.2 (cell := (1 : Nat)) (va := 4194304) (size := (4 : Nat)) (v := 1) (by omega) ft1
  have hf3 : (stR s2' roots ((1 : Nat) : Int) 4194304 ((4 : Nat) : Int) 1).1.2 = 5 := by rw [hg3.1]; decide
  have hc3 := st_hit (size := (4 : Nat)) (v := 1) (va := 4194304) ft1 hr2 hL2 hen (by rw [hf3]; omega)
  have hs3 := @stR_shp s2' roots (1 : Nat) (4 : Nat) 4194304 1
  with_reducible refine x_extract at_0 ?_; refine x_extract at_1 ?_; refine x_extract at_2 ?_; refine x_nil ?_; refine x_field0 ?_; refine x_load1 ‹_› (at_S at_2) ?_
  refine x_callF (Store_m (cell := (1 : Nat)) (at_ := 4194304) (size := (4 : Nat)) (v := 1) h6 (by omega) (by omega) (by omega) (by omega) fun w7 F7 e7 i1 i2 h7 => ?_)
  have hxF4 : ¬ F4 x := fun hq => by rcases k1 x hq with hq | hq; exact hxF hq; have := lt_of_blk hx; omega
  have hx7 := e7.get (show ¬ (F4 x ∨ TC c t tb x) by rintro (hq | hq); exact hxF4 hq; exact nx x hxne.1 hxne.2.1 hxne.2.2.1 hq) hx6
  with_reducible refine x_extract at_0 ?_; refine x_extract at_1 ?_; refine x_nil ?_; refine x_field0 ?_; refine x_load1 ‹_› (at_S at_2) ?_
  refine x_callF (Load_m (cell := (2 : Nat)) (at_ := 4194304) (size := (4 : Nat)) h7 (by omega) (by omega) (by omega) fun w8 e8 h8 => ?_)
  rw [get_none (cell := (2 : Nat)) ft1 (htabs.1 _ (.inr (by simp)))]
  rw [congrArg Prod.fst hc1, congrArg Prod.snd hc1, congrArg Prod.fst hc2, congrArg Prod.snd hc2, hv2, hf3, hc3]
  with_reducible refine x_extract at_0 ?_; refine x_extract at_1 ?_; refine x_extract at_2 ?_
  refine x_eql (fun hc => ?_) (fun hc => by omega)
  with_reducible refine XG.yes ?_; refine x_val ?_; refine XG.yes ?_
  refine x_eql (fun hc => ?_) (fun hc => by omega)
  with_reducible refine x_pickT ?_; refine XG.yes ?_; refine x_val ?_; refine XG.yes ?_
  refine x_eql (fun hc => ?_) (fun hc => by omega)
  with_reducible refine x_pickT ?_; refine XG.yes ?_; refine x_val ?_; refine XG.yes ?_
  refine x_eql (fun hc => ?_) (fun hc => by omega)
  with_reducible refine x_pickT ?_; refine XG.yes ?_; refine x_val ?_; refine XG.yes ?_
  refine x_eql (fun hc => ?_) (fun hc => by omega)
  with_reducible refine x_pickT ?_; refine XG.yes ?_; refine x_val ?_; refine XG.yes ?_
  refine x_eql (fun hc => ?_) (fun hc => by omega)
  with_reducible refine x_pickT ?_; refine XG.yes ?_; refine x_val ?_; refine XG.yes ?_
  refine x_eql (fun hc => ?_) (fun hc => by omega)
  with_reducible refine x_pickT ?_; refine XG.yes ?_; refine x_val ?_; refine XG.yes ?_
  refine x_eql (fun hc => ?_) (fun hc => by omega)
  with_reducible refine x_pickT ?_; refine XG.yes ?_; refine x_val ?_; refine XG.yes ?_
  refine x_eql (fun hc => ?_) (fun hc => ?_)
  with_reducible refine x_pickT ?_; refine XG.yes ?_; refine x_val ?_; refine XG.yes ?_
  refine x_eql (fun hc => ?_) (fun hc => ?_)
  with_reducible refine x_pickT ?_
  rotate_left
  with_reducible refine x_pickT ?_
  rotate_left
  with_reducible refine x_pickT ?_; refine XG.no (by decide) ?_; refine XG.no (by decide) ?_; refine x_pickF ?_
  rotate_left
  all_goals first | exact absurd rfl hc | skip
  have s7 := e7.size
  refine h w8 (((((e04.trans' e5 ?_).trans' e6 ?_).trans' e7 ?_).trans' e8 ?_))
  all_goals (
    intro r hr hlt
    have hq : TC c t tb r ∨ FM r ∨ w3.heap.size ≤ r := by
      first
      | exact .inl hr
      | exact hr.elim (fun hq => .inr (k1 r hq)) .inl
    rcases hq with (hq | hq | hq) | hq | hq
    · omega
    · omega
    · omega
    · have := hFM r hq; omega
    · omega)
end Go.Eng
namespace Go.Eng
open Go.Proofs Go.MapKept
variable {w : World} {K : Value → World → Prop} {E : List PanicEntry → World → Prop}
def nums (M : Nat → Nat) (a n : Nat) : List Int := (List.range n).map fun i => (M (a + i) : Int)
theorem bytes_nums {M : Nat → Nat} {a n : Nat} : bytes M a n = (nums M a n).map (Value.int .u8) := by simp [bytes, nums]
theorem nums_congr {M M' : Nat → Nat} {a n : Nat} (h : ∀ y, a ≤ y → y < a + n → M' y = M y) : nums M' a n = nums M a n := by
  unfold nums
  refine List.map_congr_left fun i hi => ?_
  have := List.mem_range.1 hi
  rw [h (a + i) (by omega) (by omega)]
theorem x_strB {ty : TypeId} {b cap a n : Nat} {M : Nat → Nat} (hb : w.heap[b]? = some (.cells (bytes M a n).toArray 5 (0, 0))) (h : K (.string (strOfNums (nums M a n))) w) : X P (.conv 34 9 (.slice (some ⟨b, 0, none⟩) n cap)) ty w K E := by
  refine x_str (xs := nums M a n) (by simp [nums]) ?_ h
  have := holds_blk (w := w) (o := 0) (n := n) hb (by simp [bytes_len])
  rw [List.drop_zero, List.take_of_length_le (by simp [bytes_len]), bytes_nums] at this
  exact this
theorem zero_cells {M : Nat → Nat} {n : Nat} (h : ∀ y, y < n → M y = 0) : madeCells #[Value.int .u8 0] (n * 1) = (bytes M 0 n).toArray := by
  rw [bytes_zero (fun i hi => by rw [Nat.zero_add]; exact h i hi)]
  unfold madeCells
  apply Array.ext'
  simp only [Nat.mul_one]
  apply List.ext_getElem
  · simp
  · intro i h1 h2
    simp [Nat.mod_one]
theorem plain_new {M : Nat → Nat} {S : Prop} (hM : ∀ y, y < 131072 → M y = 0)
   (h : ∀ w' p pb, Ext w w' → w.heap.size ≤ p → w.heap.size ≤ pb → p ≠ pb → PlainAt w' p pb M → K (ptr p) w') :
   X P (.makeSlice 34 (.int .i64 131072) (.int .i64 131072)) 34 w (fun t65 w_19 => X P (.build 36 #[(0, t65)]) 36 w_19 (fun t66 w_20 => X P (.box 36 t66) 33 w_20 K E) E) E := by
  refine x_makeN (n := 131072) (z := #[.int .u8 0]) (by omega) (by omega) ?_
  rw [zero_cells hM]
  generalize hw1 : World.alloc _ _ = w1
  have e1 : Ext w w1 := by rw [← hw1]; exact (Fr.refl _ w).alloc _
  have b1 : w1.heap[w.heap.size]? = some (.cells (bytes M 0 131072).toArray 5 (0, 0)) := by rw [← hw1]; exact blk_alloc_new
  clear hw1
  have s1 := e1.size
  have l1 := lt_of_blk b1
  have hsl : Value.slice (some ⟨w.heap.size, 0, none⟩) (131072 : Nat) (131072 : Nat) = Value.slice (some ⟨w.heap.size, 0, none⟩) 131072 131072 := rfl
  with_reducible refine x_buildS (by apply fill_1; exact inferInstance; exact oneS; exact set_0; exact fill_nil) ?_; refine x_boxA ?_
  generalize hw2 : World.alloc _ _ = w2
  have e2 : Ext w1 w2 := by rw [← hw2]; exact (Fr.refl _ w1).alloc _
  have b2 : w2.heap[w1.heap.size]? = some (.cells #[.slice (some ⟨w.heap.size, 0, none⟩) 131072 131072] 36 (0, 0)) := by rw [← hw2]; exact blk_alloc_new
  clear hw2
  exact h w2 w1.heap.size w.heap.size (e1.trans e2) s1 (Nat.le_refl _) (by omega) ⟨b2, e2.get b1⟩
theorem rngL_ok (l : List SpV) (h : l.length ≤ 60) : ∀ r ∈ rngL (rngs l), OkCell r ∧ (∀ q ∈ r, q.Ok) ∧ r.length ≤ 60 := fun r hr => by
  have : ∃ k, r = rngs l k := by
    simp only [rngL, List.mem_cons, List.not_mem_nil, or_false] at hr
    rcases hr with rfl | rfl | rfl | rfl
    · exact ⟨_, rfl⟩
    · exact ⟨_, rfl⟩
    · exact ⟨_, rfl⟩
    · exact ⟨_, rfl⟩
  obtain ⟨k, rfl⟩ := this
  obtain ⟨h1, h2, h3⟩ := rngs_ok l k
  exact ⟨h1, h2, by omega⟩
theorem lw_new {w' : World} {x u m c t tb rb p pb lo slots la ways : Nat} {v : Value} {Ls : List (List Rg)} {M : Nat → Nat} {roots : Int → Option Nat} {FM : Nat → Prop}
   (hx : w.heap[x]? = some (setO m c t u)) (hm : Mm w u m c t tb rb { ms0 64 slots la ways with M := M } roots FM) (htabs : Tabs M 262144 roots Ls) (hR : RgsAt w lo v Ls) (hxF : ¬ FM x) (hxne : x ≠ c ∧ x ≠ t ∧ x ≠ tb ∧ x ≠ rb)
   (hFM : ∀ r, FM r → lo ≤ r) (hlo : lo ≤ c ∧ lo ≤ t ∧ lo ≤ tb) (hn : Ls.length ≤ 4) (hok : ∀ l ∈ Ls, OkCell l ∧ (∀ r ∈ l, r.Ok) ∧ l.length ≤ 60)
   (e : Ext w w') (hp : w.heap.size ≤ p) (hpb : w.heap.size ≤ pb) (hne : p ≠ pb) (hpl : PlainAt w' p pb M) :
   Lw w' ⟨x, u, m, c, t, tb, rb, p, pb, lo, v⟩ { ms0 64 slots la ways with M := M } roots Ls FM M := by
  have hl := hm.lts
  have lx := lt_of_blk hx
  have lc := hl c (by simp)
  have lt := hl t (by simp)
  have ltb := hl tb (by simp)
  have lu := hl u (by simp)
  have lrb := hl rb (by simp)
  have l1 := hl 1 (by simp)
  exact ⟨e.get hx, hm.ext e, ⟨rfl, htabs, by simp [ms0], fun l hl => (hok l hl).1⟩, hpl, hR.frame e fun _ _ => id, ⟨hxF, hxne.1, hxne.2.1, hxne.2.2.1, by simp only; omega⟩,
    ⟨fun hq => by have := hl p (.inl hq); omega, by simp only; omega, by simp only; omega, by simp only; omega, hne⟩,
    ⟨fun hq => by have := hl pb (.inl hq); omega, by simp only; omega, by simp only; omega, by simp only; omega, by simp only; omega, by simp only; omega, by simp only; omega⟩,
    ⟨hFM, hlo.1, hlo.2.1, hlo.2.2, by simp only; omega⟩, hn, fun l hl => (hok l hl).2⟩
end Go.Eng
namespace Go.Eng
open Go.Proofs Go.MapKept
variable {w : World} {K : Value → World → Prop} {E : List PanicEntry → World → Prop}
theorem sees_c {v0 v4 : Value} {sl : List SpV} {dl : List DoV} {v1 v2 v3 : Int} (hg : Glob w) (h0 : RowsAt w w.heap.size 4 v0 (sl.map SpV.val)) (h4 : RowsAt w w.heap.size 6 v4 (dl.map DoV.val))
   (hs : ∀ s ∈ sl, s.Ok) (hd : ∀ d ∈ dl, d.Ok) (hsl : sl.length ≤ 9223372036854775807) (hdl : dl.length ≤ 9223372036854775807) (h1 : i64 v1) (h2 : i64 v2) (h3 : i64 v3)
   (h : ∀ w', Ext w w' → K (.bool true) w') : C P 4 #[v0, .int .i64 v1, .int .i64 v2, .int .i64 v3, v4] w K E := by
  apply F4
  unfold S4_0
  refine x_callF (works_c hg fun w1 e1 => ?_)
  have s1 := e1.size
  refine x_callF (ranges_c (h0.frame e1 fun _ _ => id) s1 hs hsl fun w2 e2 o2 => ?_)
  have s2 := e2.size
  have hR2 := o2.at_
  have hok := rngL_ok (sl.take 60) (by rw [List.length_take]; omega)
  have hlen : (rngL (rngs (sl.take 60))).length = 4 := rfl
  generalize rngL (rngs (sl.take 60)) = Ls at *
  refine x_callF (shape_c h1 h2 fun w3 e3 => ?_)
  have s3 := e3.size
  have p4 := pickR_lt (c := v1) (n := 4) (by omega)
  have p3 := pickR_lt (c := v2) (n := 3) (by omega)
  have p8 := pickR_lt (c := v3) (n := 8) (by omega)
  refine x_callF (pick_c (n := 8) h3 (by omega) ?_)
  generalize pickR v1 4 = la at *
  generalize pickR v2 3 = ways at *
  generalize pickR v3 8 = slots at *
  with_reducible refine x_addN (by rw [IntKind.wrap_i64]; omega) ?_
  rw [show (1 : Int) + (slots : Int) = ((1 + slots : Nat) : Int) by omega]
  have e13 := (e1.trans e2).trans e3
  refine x_callF (mapped_c (hg.fr e13 id) (hR2.frame e3 fun _ _ => id) (by omega) (by omega) (fun l hl => by obtain ⟨a, b, c⟩ := hok l hl; exact ⟨a, b, by omega⟩) (by omega) (by omega) (by omega) fun w4 x u m c t tb rb FM M roots e4 q1 q2 q3 q4 q5 q6 q7 hFM hxF hxne hx hm htabs hz _ => ?_)
  have s4 := e4.size
  with_reducible refine x_notT ?_; refine XG.yes ?_; refine x_val ?_; refine XG.yes ?_; refine x_eqlP ?_; refine x_pickF ?_; refine Cnd.no ?_; refine x_nil ?_; refine x_field0 ?_; refine x_load1 ‹_› at_0 ?_
  refine x_callF (Read_c (n := 64) (len := 131072) (at_ := 131072) hm.sys.mem (by omega) (by omega) (fun hq => by omega) (fun _ hq => by omega) fun L w5 o hL _ e5 ho b5 => ?_)
  obtain rfl : L = 131072 := by omega
  have s5 := e5.size
  refine x_extract at_0 ?_
  refine x_extract at_1 ?_
  have lo5 := lt_of_blk b5
  refine plain_new (M := M) (S := True) (fun y hy => hz y (by omega)) fun w6 p pb e6 hp hpb hne hpl => ?_
  have s6 := e6.size
  have b6 := e6.get b5
  have lpb := lt_of_blk hpl.hb
  have hltm := hm.lts
  have hLw := lw_new hx hm htabs ((hR2.frame (e3.trans e4) fun _ _ => id)) hxF hxne (fun r hr => by have := hFM r hr; omega) ⟨by omega, by omega, by omega⟩ (by omega) hok (e5.trans e6) (by omega) (by omega) hne hpl
  have e06 := (e13.trans e4).trans (e5.trans e6)
  generalize hB : (⟨x, u, m, c, t, tb, rb, p, pb, w2.heap.size, .slice (some ⟨w1.heap.size, 0, none⟩) 4 4⟩ : LB) = B at *
  have hBx : x = B.x := by rw [← hB]
  have hBp : p = B.p := by rw [← hB]
  have hBv : Value.slice (some ⟨w1.heap.size, 0, none⟩) 4 4 = B.v := by rw [← hB]
  have hBo : (∀ r, FM r ∨ TC B.c B.t B.tb r ∨ r = B.pb → w.heap.size ≤ r ∧ r ≠ o) := fun r hr => by
    rw [← hB] at hr
    simp only [TC] at hr
    have := lt_of_blk hx
    have := hltm c (by simp)
    have := hltm t (by simp)
    have := hltm tb (by simp)
    rcases hr with hr | (hr | hr | hr) | hr
    · have := hFM r hr
      have := hltm r (.inl hr)
      omega
    all_goals omega
  generalize hs0 : ({ ms0 64 (1 + slots) la (1 + ways) with M := M } : MS) = s0 at *
  have hs0M : s0.M = M := by rw [← hs0]
  have hs0n : s0.now = 0 := by rw [← hs0]; rfl
  have hLw' : Lw w6 B s0 roots Ls FM s0.M := by rw [hs0M]; exact hLw
  rw [hBx, hBp, hBv]
  clear hs0 hB
  obtain ⟨a4, cap4, rfl, hcap4, hr4⟩ := id h4
  simp only [List.length_map] at hcap4 hr4 ⊢
  unfold S4_l9
  refine ⟨fun v17 w' => ∃ (i : Nat) (s : MS) (F : Nat → Prop), v17 = .int .i64 i ∧ i ≤ dl.length ∧ i ≤ 150 ∧ Ext w w' ∧ Lw w' B s roots Ls F s.M ∧ (∀ y, 131072 ≤ y → s.M y = s0.M y) ∧ s.now ≤ 16 * i ∧ (∀ r, F r → w.heap.size ≤ r ∧ r ≠ o) ∧ w'.heap[o]? = some (.cells (bytes s0.M 131072 131072).toArray 5 (0, 0)), fun v17 _ => match v17 with | .int _ i => 150 - i.toNat | _ => 0, ⟨0, s0, FM, rfl, by omega, by omega, e06, hLw', fun _ _ => rfl, by omega, fun r hr => hBo r (.inl hr), b6⟩, ?_⟩
  rintro _ w7 ⟨i, s, F, rfl, hi, hi2, e7, hL7, hM7, hn7, hF7, b7⟩
  unfold S4_b9
  with_reducible refine x_lenS ?_
  refine x_lss (fun hc => ?_) (fun hc => ?_)
  with_reducible refine XG.yes ?_; refine x_val ?_; refine XG.yes ?_
  refine x_lss (fun hc => ?_) (fun hc => ?_)
  with_reducible refine x_pickT ?_; refine Cnd.yes ?_
  rotate_left
  with_reducible refine x_pickT ?_; refine Cnd.no ?_
  rotate_left
  with_reducible refine XG.no (by decide) ?_; refine XG.no (by decide) ?_; refine x_pickF ?_; refine Cnd.no ?_
  rotate_left
  · have hil : i < dl.length := by omega
    obtain ⟨g, o4, c4, T4, fz4, rfl, hg4, hgb4, hsub4⟩ := hr4 (fun hx => by rw [List.map_eq_nil_iff] at hx; rw [hx] at hil; simp at hil)
    have hsub := hsub4 i hil
    rw [List.getElem_map] at hsub
    have hdk := hd _ (List.getElem_mem hil)
    generalize dl[i] = d at *
    refine x_idxS (by omega) ?_
    rw [show o4 + (i : Int).toNat * 6 = o4 + 6 * i by omega]
    refine x_loadA (e7.get hgb4) hsub ?_
    refine x_callF (plays_c hL7 (by omega) hdk fun w8 s8 F8 hst hL8 => ?_)
    have hB7 : ∀ r, F r ∨ TC B.c B.t B.tb r ∨ r = B.pb → w.heap.size ≤ r ∧ r ≠ o := fun r hr => by
      rcases hr with hr | hr
      · exact hF7 r hr
      · exact hBo r (.inr hr)
    have lo7 := lt_of_blk b7
    have hap := hst.ap.hi (cellL_ok hL7.good.ok)
    have hnw := hst.now
    with_reducible refine x_notT ?_; refine Cnd.no ?_; refine x_addN (by rw [IntKind.wrap_i64]; omega) ?_
    refine ⟨⟨i + 1, s8, F8, by congr 1, by omega, by omega, e7.trans' hst.fr fun r hr hlt => by have := (hB7 r hr).1; omega, hL8, fun y hy => ?_, by omega, fun r hr => ?_, hst.fr.get (fun hr => (hB7 o hr).2 rfl) b7⟩, by simp only; omega⟩
    · rw [hap y (by omega)]; exact hM7 y hy
    · rcases hst.fm r hr with hq | hq
      · exact hF7 r hq
      · have := e7.size; omega
  all_goals (
    unfold S4_j14
    have hx7 := hL7.set
    have hn7 := hL7.good.n
    with_reducible refine x_nil ?_; refine x_field0 ?_; refine x_load1 ‹_› at_0 ?_
    refine x_callF (Read_c (n := 64) (len := 131072) (at_ := 0) (by rw [← hn7]; exact hL7.mm.sys.mem) (by omega) (by omega) (fun hq => by omega) (fun _ hq => by omega) fun L w8 o8 hL _ e8 ho8 b8 => ?_)
    obtain rfl : L = 131072 := by omega
    have hL8 := hL7.ext e8
    have hx8 := hL8.set
    have b7' := e8.get b7
    with_reducible refine x_extract at_0 ?_; refine x_extract at_1 ?_; refine x_nil ?_; refine x_field0 ?_; refine x_load1 ‹_› at_0 ?_
    refine x_callF (Read_c (n := 64) (len := 131072) (at_ := 131072) (by rw [← hn7]; exact hL8.mm.sys.mem) (by omega) (by omega) (fun hq => by omega) (fun _ hq => by omega) fun L w9 o9 hL _ e9 ho9 b9 => ?_)
    obtain rfl : L = 131072 := by omega
    have hL9 := hL8.ext e9
    have hp9 := hL9.plain.hp
    have hpb9 := hL9.plain.hb
    have b8' := e9.get b8
    have b7'' := e9.get b7'
    with_reducible refine x_extract at_0 ?_; refine x_extract at_1 ?_; refine XQ.of rfl ?_
    refine x_eql (fun hc => ?_) (fun hc => by omega)
    with_reducible refine qstep ?_; refine XQG.yes ?_; refine XQ.of rfl ?_; refine x_val ?_; refine qstep ?_; refine XQG.yes ?_; refine XQ.of rfl ?_
    refine x_eql (fun hc => ?_) (fun hc => by omega)
    with_reducible refine qstep ?_; refine XQ.of rfl ?_; refine x_pickT ?_; refine qstep ?_; refine XQG.yes ?_; refine XQ.of rfl ?_; refine x_val ?_; refine qstep ?_; refine XQG.yes ?_; refine XQ.of rfl ?_
    refine x_eql (fun hc => ?_) (fun hc => by omega)
    with_reducible refine qstep ?_; refine XQ.of rfl ?_; refine x_pickT ?_; refine qstep ?_; refine XQG.yes ?_; refine XQ.of rfl ?_; refine x_val ?_; refine qstep ?_; refine XQG.yes ?_; refine XQ.of rfl ?_
    refine x_strB (M := s.M) (a := 0) b8' ?_
    with_reducible refine qstep ?_; refine XQG.yes ?_; refine XQ.of rfl ?_; refine x_val ?_; refine qstep ?_; refine XQG.yes ?_; refine XQ.of rfl ?_; refine x_nil ?_; refine qstep ?_; refine XQG.yes ?_; refine XQ.of rfl ?_; refine x_field0 ?_; refine qstep ?_; refine XQG.yes ?_; refine XQ.of rfl ?_; refine x_load1 ‹_› at_0 ?_; refine qstep ?_; refine XQG.yes ?_; refine XQ.of rfl ?_
    refine x_strB (M := s.M) (a := 0) hpb9 ?_
    with_reducible refine qstep ?_; refine XQG.yes ?_; refine XQ.of rfl ?_
    refine x_eqlT rfl ?_
    with_reducible refine qstep ?_; refine XQ.of rfl ?_; refine x_pickT ?_; refine qstep ?_; refine XQG.yes ?_; refine XQ.of rfl ?_; refine x_val ?_; refine qstep ?_; refine XQG.yes ?_; refine XQ.of rfl ?_
    refine x_strB (M := s0.M) (a := 131072) b7'' ?_
    with_reducible refine qstep ?_; refine XQG.yes ?_; refine XQ.of rfl ?_; refine x_val ?_; refine qstep ?_; refine XQG.yes ?_; refine XQ.of rfl ?_
    refine x_strB (M := s.M) (a := 131072) b9 ?_
    with_reducible refine qstep ?_; refine XQG.yes ?_; refine XQ.of rfl ?_
    refine x_eqlT (by rw [nums_congr fun y hy _ => hM7 y hy]) ?_
    with_reducible refine qstep ?_; refine XQ.of rfl ?_; refine x_pickT ?_; refine qstep ?_
    exact h _ (((e7.trans e8).trans e9).trans (Ext.drw_self w9)))
end Go.Eng
namespace Go.Eng
open Go.Proofs Go.MapKept Go.ChangeShapes Go.WideShapes
variable {H : Type} {enc : TypeId × Value → H} {P' : Program} {W : World}
theorem rows_gen {α : Type} [Inhabited α] {val : α → List Value} {Okα : α → Prop} {t e : TypeId} {size base : Nat} {v : Value} {d : DataW H} {p : List MemPlace} {sp : Nat → Bool} (hs0 : 0 < size) (hsz : ∀ x, (val x).length = size) (ht : P'.underlying t = some (.slice e)) (hc : P'.cellsOf e = size)
   (hel : ∀ n cs y, cs.length = size → DataW.trod enc P' W 0 sp true n e cs = some y → ∃ x, Okα x ∧ cs = val x) (hv : Value.okWide P' W .any base t v) (h : DataW.Trod enc P' W 0 sp true t v d p) :
   ∃ l : List α, RowsAt W W.heap.size size v (l.map val) ∧ (∀ x ∈ l, Okα x) ∧ l.length ≤ 9223372036854775807 := by
  obtain ⟨a, len, cap, rfl⟩ := okWide_slice ht hv
  obtain ⟨fuel, hf⟩ := h
  rw [show (Value.slice a len cap).cells.toList = [Value.slice a len cap] from rfl] at hf
  rcases Go.Deep.open_slice ht hf with ⟨h1, _⟩ | ⟨a', len', cap', m, n, D, Pl, h1, hb, hl, hm, hmm, _, hx⟩
  · simp only [List.cons.injEq, Value.slice.injEq, and_true] at h1
    obtain ⟨rfl, rfl, rfl⟩ := h1
    exact ⟨[], ⟨none, 0, rfl, by simp, fun hq => absurd rfl hq⟩, by simp, by simp⟩
  · simp only [List.cons.injEq, Value.slice.injEq, and_true] at h1
    obtain ⟨rfl, rfl, rfl⟩ := h1
    have hle : len ≤ m := by rw [hmm]; split <;> omega
    obtain ⟨f, hf2⟩ := Go.Deep.choose_lt (n := len) (p := fun i x => Okα x ∧ W.cells? 0 (a'.add (i * size)) size = some (val x)) (fun i hi => by
      obtain ⟨cs', q1, q2⟩ := hx i (by omega)
      rw [hc] at q1
      obtain ⟨_, hlen, _⟩ := World.cells?_some q1
      obtain ⟨x, hx1, rfl⟩ := hel n cs' _ hlen q2
      exact ⟨x, hx1, q1⟩)
    refine ⟨(List.range len).map f, ?_, fun x hx => ?_, ?_⟩
    · refine ⟨some a', cap, by simp, by simpa using hl, fun hne => ?_⟩
      have hpos : 0 < len := by
        rcases Nat.eq_zero_or_pos len with h0 | h0
        · subst h0; simp at hne
        · exact h0
      obtain ⟨_, hc0⟩ := hf2 0 hpos
      obtain ⟨_, _, hcell⟩ := World.cells?_some hc0
      have h00 := hcell 0 hs0
      rw [Nat.zero_mul] at h00
      have hv0 : ∃ z, (val (f 0))[0]? = some z := ⟨_, List.getElem?_eq_getElem (by rw [hsz]; exact hs0)⟩
      obtain ⟨z, hz⟩ := hv0
      rw [hz] at h00
      obtain ⟨g, o, spot⟩ := a'
      have hadd : ∀ s : Option Nat, ((⟨g, o, s⟩ : Addr).add 0).add 0 = ⟨g, o, s⟩ := fun s => by simp [Addr.add]
      rw [hadd] at h00
      unfold World.cell? at h00
      cases hb0 : W.heap[g]? with
      | none => rw [hb0] at h00; simp at h00
      | some ob =>
        rw [hb0] at h00
        cases ob with
        | cells c T fz =>
          simp only at h00
          cases spot with
          | some sp => simp at h00
          | none =>
            refine ⟨g, o, c, T, fz, rfl, lt_of_blk hb0, hb0, fun i hi => ?_⟩
            simp only [List.length_map, List.length_range] at hi
            obtain ⟨_, hci⟩ := hf2 i hi
            obtain ⟨_, hlen, hcell⟩ := World.cells?_some hci
            simp only [List.getElem_map, List.getElem_range]
            have hat : ∀ j, j < size → c[o + size * i + j]? = (val (f i))[j]? := fun j hj => by
              have := hcell j hj
              rw [← this, Go.Deep.add_add, Addr.add]
              simp only [World.cell?]
              rw [Nat.mul_comm i size]
              by_cases hz : size * i + j = 0
              · rw [if_pos hz, hb0]
                simp only [Option.isSome_none, Bool.false_eq_true, if_false]
                rw [show o + size * i + j = o by omega]
              · rw [if_neg hz, hb0]
                simp only [Option.isSome_none, Bool.false_eq_true, if_false]
                rw [show o + size * i + j = o + (size * i + j) by omega]
            have hbd : o + size * i + size ≤ c.size := by
              have := hat (size - 1) (by omega)
              rw [List.getElem?_eq_getElem (by rw [hsz]; omega)] at this
              have := (Array.getElem?_eq_some_iff.1 this).1
              omega
            refine ⟨hbd, ?_⟩
            apply Array.ext
            · simp [hsz]; omega
            · intro j h1 h2
              have hj : j < size := by simpa [hsz] using h1
              have := hat j hj
              rw [Array.getElem?_eq_getElem (by omega), List.getElem?_eq_getElem (by rw [hsz]; exact hj)] at this
              simp only [Option.some.injEq] at this
              simp [this]
        | _ => simp at h00
    · simp only [List.mem_map, List.mem_range] at hx
      obtain ⟨i, hi, rfl⟩ := hx
      exact (hf2 i hi).1
    · simp only [List.length_map, List.length_range]
      have : maxLen = 9223372036854775807 := by decide
      omega
end Go.Eng
namespace Go.Eng
open Go.Proofs Go.MapKept Go.ChangeShapes Go.WideShapes Go.RowKit
variable {H : Type} {enc : TypeId × Value → H} {P' : Program} {W W' : World}
theorem trodAll_stays (hl : laidOutB P' = true) {sp : Nat → Bool} : ∀ {ts : List TypeId} {vs : List Value} {ds : List (DataW H)} {ps : List MemPlace}, (∀ t ∈ ts, P'.readableRec t = true ∧ t < P'.types.size) → DataW.TrodAll enc P' W 0 (fun _ => true) true ts vs ds ps → (∀ x ∈ ps, W.sameAt W' x) → (∀ x ∈ ps, sp x.block = true) → DataW.TrodAll enc P' W' 0 sp true ts vs ds ps
  | [], vs, ds, ps, _, h, _, _ => by
    obtain ⟨rfl, rfl, rfl⟩ := trodAll_nil h
    exact rfl
  | t :: ts, vs, ds, ps, ht, h, hs, hp => by
    obtain ⟨v, vs', d, ds', p, q, rfl, rfl, rfl, h1, h2⟩ := trodAll_cons h
    obtain ⟨r1, r2⟩ := ht t (by simp)
    exact ⟨p, q, WideElems.Trod_stays hl r1 r2 h1 (fun x hx => hs x (List.mem_append_left _ hx)) (fun x hx => hp x (List.mem_append_left _ hx)), trodAll_stays hl (fun t ht' => ht t (List.mem_cons_of_mem _ ht')) h2 (fun x hx => hs x (List.mem_append_right _ hx)) (fun x hx => hp x (List.mem_append_right _ hx)), rfl⟩
theorem post_row {f : Func} {s : ChangeSpec} {apart fresh handsOn again : Bool} {args : Array Value} {ds gs : List (DataW H)} {before : List MemPlace} {tb : TypeId}
   (hl : laidOutB P' = true) (hp : ∀ t ∈ f.params.toList, P'.readableRec t = true ∧ t < P'.types.size) (hr : f.resultTypes = #[tb]) (htb : P'.underlying tb = some .bool) (hv : s.vars = []) (hfn : s.fn H ds = { results := [.lit (.bool true)], args := ds })
   (hW : DataW.Whole enc P' f.params.toList s.vars apart W args.toList ds gs before) (hb : Ext W W') : s.post enc P' f apart fresh handsOn again W args (.bool true) W' := by
  have hW0 := hW
  obtain ⟨p, q, hA, hV, rfl, hfz, hnd⟩ := hW
  rw [hv] at hV
  obtain ⟨rfl, rfl⟩ := trodVars_none hV
  have hbl : Go.RowKit.Below W.heap.size W W' := ⟨hb.os, hb.tape, hb.output, hb.size, fun k hk => hb.blk k hk id⟩
  have hlt : ∀ x ∈ p, x.block < W.heap.size := fun x hx => hW0.lt x (by simpa using hx)
  have hsame : ∀ x ∈ p, W.sameAt W' x := fun x hx => hbl.same (hlt x hx)
  have hargs : ∀ sp : Nat → Bool, (∀ x ∈ p, sp x.block = true) → DataW.TrodAll enc P' W' 0 sp true f.params.toList args.toList ds p := fun sp hsp => trodAll_stays hl hp hA hsame hsp
  have hres : ∀ (b : Nat) (sp : Nat → Bool) (hd : Bool), DataW.TrodAll enc P' W' b sp hd f.resultTypes.toList ((Value.bool true).resultList f.resultTypes.size) [.lit (.bool true)] [] := fun b sp hd => by
    rw [hr]
    exact trodAll_mk1 (shut_bool htb _)
  have e0 : ds ++ ([] : List (DataW H)) = ds := List.append_nil _
  refine ⟨ds, [], p ++ [], [], p, [], hW0, ?_, ?_, ?_, ?_, fun _ => ⟨?_, [.lit (.bool true)] ++ ds, [], [] ++ p ++ [], ?_, ?_⟩⟩
  · rw [e0, hfn]; exact hres _ _ _
  · rw [e0, hfn]; exact hargs _ fun x hx => by simpa using hlt x hx
  · rw [e0, hfn, hv]; exact rfl
  · exact hbl.frame _
  · exact Go.RowKit.ok_one hr rfl (Go.RowKit.okWide_bool_mk htb _)
  · refine ⟨[] ++ p, [], trodAll_append (hargs _ fun _ _ => rfl) (hres _ _ _), ?_, rfl, fun b off hx => ?_, fun ha => ?_⟩
    · rw [hv]; exact rfl
    · have hx' : MemPlace.cell b off ∈ p := by simpa using hx
      rw [hbl.frozen (p := ⟨b, off, none⟩) (hlt _ hx')]
      exact hfz b off (by simpa using hx')
    · simpa using hnd ha
  · intro x hx _
    simpa using hx
end Go.Eng
namespace Go.Eng
open Go.Proofs Go.MapKept Go.ChangeShapes Go.WideShapes Go.RowKit
variable {H : Type} {enc : TypeId × Value → H} {W : World}
abbrev laid2 : List (String × DataW Unit) := [("math/bits.deBruijn32tab", Go.Proofs.YtcjcbgeogaighaaGreatDoor.Rows.laid_math_bits_deBruijn32tab), ("math/bits.deBruijn64tab", Go.Proofs.YtcjcbgeogaighaaGreatDoor.Rows.laid_math_bits_deBruijn64tab)]
theorem g64 : P.globalNamed "math/bits.deBruijn64tab" = some 1 := by kernel_rfl
theorem t64 : (P.globals[1]?).map (·.type) = some 231 := by kernel_rfl
theorem laid64 : (Go.Proofs.YtcjcbgeogaighaaGreatDoor.Rows.laid_math_bits_deBruijn64tab : DataW Unit) = .agg (db64.map fun (x : Nat) => .lit (.int .u8 (x : Nat))) := rfl
theorem glob_of_laid (h : laidMetH P laid2 W) : Glob W := by
  rw [MakeChecks.laidMetH_plain _ _ _ (by kernel_rfl)] at h
  obtain ⟨ps, ⟨g0, t0, cs0, f0, p0, q0, hg0, ht0, hv0, hd0, ⟨g1, t1, cs1, f1, p1, q1, hg1, ht1, hv1, hd1, _, _⟩, _⟩, _, _⟩ := h
  obtain rfl := Option.some.inj (g64.symm.trans hg1)
  obtain rfl := Option.some.inj (t64.symm.trans ht1)
  obtain ⟨xs, m, _, hx, hlen, hn, hel⟩ := DataW.trod_array Tryz.underlying231 hd1
  have c5 : P.cellsOf 5 = 1 := by kernel_rfl
  have c231 : P.cellsOf 231 = 64 := by kernel_rfl
  rw [c231] at hlen
  rw [laid64] at hx
  simp only [Prod.mk.injEq, DataW.agg.injEq] at hx
  have hdb : db64.length = 64 := by decide
  have hcs : cs1.toList = db64.map fun (x : Nat) => Value.int .u8 (x : Nat) := by
    apply List.ext_getElem?
    intro i
    by_cases hi : i < 64
    · have h1 := hel i hi
      rw [c5, Nat.mul_one, List.getElem?_eq_getElem (by omega)] at h1
      obtain ⟨n, e1, e2, _⟩ := DataW.trod_int Tryz.underlying5 h1
      have h2 := congrArg (fun l => l[i]?) hx.1
      simp only [List.getElem?_map] at h2
      rw [List.getElem?_eq_getElem (by omega), List.getElem?_eq_getElem (by omega)] at h2
      simp only [Option.map_some, Option.some.injEq] at h2
      rw [e2] at h2
      simp only [DataW.lit.injEq, Lit.int.injEq, true_and] at h2
      have h3 : cs1.toList[i]? = some (.int .u8 n) := by
        have := congrArg (fun l => l[0]?) e1
        simp only [List.getElem?_take, List.getElem?_drop, Nat.add_zero] at this
        simpa using this
      rw [h3, List.getElem?_map, List.getElem?_eq_getElem (by omega)]
      simp only [Option.map_some]
      rw [← h2]
    · rw [List.getElem?_eq_none (by omega), List.getElem?_eq_none (by simp; omega)]
  unfold World.var? at hv1
  rw [g64] at hv1
  simp only [Option.bind_some] at hv1
  split at hv1
  · rename_i cs T fz hb
    simp only [Option.some.injEq] at hv1
    subst hv1
    refine ⟨T, fz, ?_⟩
    rw [hb, ← hcs]
  · simp at hv1
theorem wf_i64 {n : Int} (h : (Lit.int .i64 n).wf = true) : i64 n := by
  simp only [Lit.wf, Bool.and_eq_true, decide_eq_true_eq] at h
  have e1 : IntKind.i64.min = -9223372036854775808 := by decide
  have e2 : IntKind.i64.max = 9223372036854775807 := by decide
  unfold i64
  omega
theorem wf_u32 {n : Int} (h : (Lit.int .u32 n).wf = true) : 0 ≤ n ∧ n < 4294967296 := by
  simp only [Lit.wf, Bool.and_eq_true, decide_eq_true_eq] at h
  have e1 : IntKind.u32.min = 0 := by decide
  have e2 : IntKind.u32.max = 4294967295 := by decide
  omega
instance : Inhabited SpV := ⟨⟨0, 0, 0, 0⟩⟩
instance : Inhabited DoV := ⟨⟨0, 0, 0, 0, 0, 0⟩⟩
theorem take_one {cs : List Value} {j : Nat} {v : Value} (h : (cs.drop j).take 1 = [v]) : cs[j]? = some v := by
  have := congrArg (fun l => l[0]?) h
  simp only [List.getElem?_take, List.getElem?_drop, Nat.add_zero] at this
  simpa using this
set_option maxRecDepth 100000 in
theorem spots_of {base : Nat} {v : Value} {d : DataW H} {p : List MemPlace} (hv : Value.okWide P W .any base 22 v) (h : DataW.Trod enc P W 0 (fun _ => true) true 22 v d p) :
    ∃ l : List SpV, RowsAt W W.heap.size 4 v (l.map SpV.val) ∧ (∀ x ∈ l, x.Ok) ∧ l.length ≤ 9223372036854775807 := by
  have c3 : Tryz.prog.cellsOf 3 = 1 := by kernel_rfl
  refine rows_gen (val := SpV.val) (Okα := SpV.Ok) (size := 4) (base := base) (v := v) (d := d) (p := p) (W := W) (enc := enc) (sp := fun _ => true) (P' := P) (t := 22) (e := 66) (by omega) (fun _ => rfl) Tryz.underlying22 (by kernel_rfl) ?_ (hv := hv) (h := h)
  intro n cs y hl hy
  obtain ⟨xs, k, _, _, _, hn, hf⟩ := DataW.trod_struct Tryz.underlying66 hy
  have f0 : DataW.trod enc Tryz.prog W 0 (fun _ => true) true k 3 ((cs.drop 0).take (Tryz.prog.cellsOf 3)) = xs[0]? := hf 0 _ rfl
  have f1 : DataW.trod enc Tryz.prog W 0 (fun _ => true) true k 3 ((cs.drop 1).take (Tryz.prog.cellsOf 3)) = xs[1]? := hf 1 _ rfl
  have f2 : DataW.trod enc Tryz.prog W 0 (fun _ => true) true k 3 ((cs.drop 2).take (Tryz.prog.cellsOf 3)) = xs[2]? := hf 2 _ rfl
  have f3 : DataW.trod enc Tryz.prog W 0 (fun _ => true) true k 3 ((cs.drop 3).take (Tryz.prog.cellsOf 3)) = xs[3]? := hf 3 _ rfl
  have hn4 : xs.length = 4 := hn
  rw [c3] at f0 f1 f2 f3
  rw [List.getElem?_eq_getElem (by omega)] at f0 f1 f2 f3
  obtain ⟨n0, a0, _, w0⟩ := DataW.trod_int Tryz.underlying3 f0
  obtain ⟨n1, a1, _, w1⟩ := DataW.trod_int Tryz.underlying3 f1
  obtain ⟨n2, a2, _, w2⟩ := DataW.trod_int Tryz.underlying3 f2
  obtain ⟨n3, a3, _, w3⟩ := DataW.trod_int Tryz.underlying3 f3
  refine ⟨⟨n0, n1, n2, n3⟩, ⟨wf_i64 w0, wf_i64 w1, wf_i64 w2, wf_i64 w3⟩, ?_⟩
  have b0 := take_one a0
  have b1 := take_one a1
  have b2 := take_one a2
  have b3 := take_one a3
  match cs, hl with
  | [v0, v1, v2, v3], _ =>
    simp only [List.getElem?_cons_zero, List.getElem?_cons_succ, Option.some.injEq] at b0 b1 b2 b3
    rw [b0, b1, b2, b3]
    rfl
set_option maxRecDepth 100000 in
theorem dos_of {base : Nat} {v : Value} {d : DataW H} {p : List MemPlace} (hv : Value.okWide P W .any base 23 v) (h : DataW.Trod enc P W 0 (fun _ => true) true 23 v d p) :
    ∃ l : List DoV, RowsAt W W.heap.size 6 v (l.map DoV.val) ∧ (∀ x ∈ l, x.Ok) ∧ l.length ≤ 9223372036854775807 := by
  have c3 : Tryz.prog.cellsOf 3 = 1 := by kernel_rfl
  have c38 : Tryz.prog.cellsOf 38 = 1 := by kernel_rfl
  refine rows_gen (val := DoV.val) (Okα := DoV.Ok) (size := 6) (base := base) (v := v) (d := d) (p := p) (W := W) (enc := enc) (sp := fun _ => true) (P' := P) (t := 23) (e := 40) (by omega) (fun _ => rfl) Tryz.underlying23 (by kernel_rfl) ?_ (hv := hv) (h := h)
  intro n cs y hl hy
  obtain ⟨xs, k, _, _, _, hn, hf⟩ := DataW.trod_struct Tryz.underlying40 hy
  have f0 : DataW.trod enc Tryz.prog W 0 (fun _ => true) true k 3 ((cs.drop 0).take (Tryz.prog.cellsOf 3)) = xs[0]? := hf 0 _ rfl
  have f1 : DataW.trod enc Tryz.prog W 0 (fun _ => true) true k 3 ((cs.drop 1).take (Tryz.prog.cellsOf 3)) = xs[1]? := hf 1 _ rfl
  have f2 : DataW.trod enc Tryz.prog W 0 (fun _ => true) true k 3 ((cs.drop 2).take (Tryz.prog.cellsOf 3)) = xs[2]? := hf 2 _ rfl
  have f3 : DataW.trod enc Tryz.prog W 0 (fun _ => true) true k 3 ((cs.drop 3).take (Tryz.prog.cellsOf 3)) = xs[3]? := hf 3 _ rfl
  have f4 : DataW.trod enc Tryz.prog W 0 (fun _ => true) true k 3 ((cs.drop 4).take (Tryz.prog.cellsOf 3)) = xs[4]? := hf 4 _ rfl
  have f5 : DataW.trod enc Tryz.prog W 0 (fun _ => true) true k 38 ((cs.drop 5).take (Tryz.prog.cellsOf 38)) = xs[5]? := hf 5 _ rfl
  have hn6 : xs.length = 6 := hn
  rw [c3] at f0 f1 f2 f3 f4
  rw [c38] at f5
  rw [List.getElem?_eq_getElem (by omega)] at f0 f1 f2 f3 f4 f5
  obtain ⟨n0, a0, _, w0⟩ := DataW.trod_int Tryz.underlying3 f0
  obtain ⟨n1, a1, _, w1⟩ := DataW.trod_int Tryz.underlying3 f1
  obtain ⟨n2, a2, _, w2⟩ := DataW.trod_int Tryz.underlying3 f2
  obtain ⟨n3, a3, _, w3⟩ := DataW.trod_int Tryz.underlying3 f3
  obtain ⟨n4, a4, _, w4⟩ := DataW.trod_int Tryz.underlying3 f4
  obtain ⟨n5, a5, _, w5⟩ := DataW.trod_int Tryz.underlying38 f5
  have h5 := wf_u32 w5
  refine ⟨⟨n0, n1, n2, n3, n4, n5.toNat⟩, ⟨wf_i64 w0, wf_i64 w1, wf_i64 w2, wf_i64 w3, wf_i64 w4, by simp only; omega⟩, ?_⟩
  have b0 := take_one a0
  have b1 := take_one a1
  have b2 := take_one a2
  have b3 := take_one a3
  have b4 := take_one a4
  have b5 := take_one a5
  match cs, hl with
  | [v0, v1, v2, v3, v4, v5], _ =>
    simp only [List.getElem?_cons_zero, List.getElem?_cons_succ, Option.some.injEq] at b0 b1 b2 b3 b4 b5
    rw [b0, b1, b2, b3, b4, b5]
    unfold DoV.val
    simp only
    rw [Int.toNat_of_nonneg h5.1]
end Go.Eng
namespace Go.Proofs.YtcjcbgeogaighaaGreatDoor
open Go Go.Eng Go.ChangeShapes Go.WideShapes Go.ChangeAt Go.RowKit
theorem own : ownKnob Tryz.prog.godebug = none := by kernel_rfl
theorem laidOut : laidOutB Tryz.prog = true := by kernel_rfl
theorem door_met (os : Os) (args : Array Value) : laidMetH Tryz.prog Go.Eng.laid2 ((World.doorLaid Tryz.prog 400 os).forCall (fun _ _ => 0) ⟨#[], args, []⟩).memory :=
  laidMetH_of_parts3 (fuel := 8) (laidMet_of_run' 8 (by kernel_rfl) (by kernel_rfl)) (by kernel_rfl) (by kernel_rfl)
set_option maxRecDepth 100000 in
theorem sees_lifted (os : Os) (started : os.Started) (H : Type) (enc : TypeId × Value → H) :
    ReturnsInHanded {} Tryz.checked os 4 .any (fun w args => (Rows.mMUSeesSpec.pre enc Tryz.prog Tryz.f4 [] false w args ∧ laidMetH Tryz.prog Go.Eng.laid2 w) ∧ sizedMet enc Tryz.prog Tryz.f4 (OpenSpec.ofChange Rows.mMUSeesSpec) false w args)
      (Rows.mMUSeesSpec.post enc Tryz.prog Tryz.f4 false true false false) := by
  refine returnsInHanded_of_change_and (C := Tryz.checked) (X := fun w _ => laidMetH Tryz.prog Go.Eng.laid2 w) (fun _ _ _ hh h => h.of_heap hh) own started (by kernel_rfl) Tryz.func4
    (ChangeSpec.witness_shaped (enc := enc) (C := Tryz.checked) (os := os) (X := fun w _ => laidMetH Tryz.prog Go.Eng.laid2 w) false (World.doorLaid Tryz.prog 400 os) #[.slice none 0 0, .int .i64 0, .int .i64 0, .int .i64 0, .slice none 0 0] 8 rfl (World.shaped_of_RefB (by kernel_rfl) (by kernel_rfl)) (by kernel_rfl) (by kernel_rfl) (by kernel_rfl) (door_met os _)) ?_
  intro W base args ds gs before hval0 hW _ _ hL _
  have hval : ∀ (j : Nat) t v, Tryz.f4.params[j]? = some t → args[j]? = some v → Value.okWide Tryz.prog W .any base t v := hval0
  have hW' := hW
  obtain ⟨p, q, hA0, hV, rfl, hfz, hnd⟩ := hW
  have hA : DataW.TrodAll enc Tryz.prog W 0 (fun _ => true) true Tryz.f4.params.toList args.toList ds p := hA0
  rw [Tryz.params4] at hA hval
  obtain ⟨v0, vs0, d0, ds0, p0, q0, hargs, rfl, rfl, h0, hA⟩ := trodAll_cons hA
  obtain ⟨v1, vs1, d1, ds1, p1, q1, rfl, rfl, rfl, h1, hA⟩ := trodAll_cons hA
  obtain ⟨v2, vs2, d2, ds2, p2, q2, rfl, rfl, rfl, h2, hA⟩ := trodAll_cons hA
  obtain ⟨v3, vs3, d3, ds3, p3, q3, rfl, rfl, rfl, h3, hA⟩ := trodAll_cons hA
  obtain ⟨v4, vs4, d4, ds4, p4, q4, rfl, rfl, rfl, h4, hA⟩ := trodAll_cons hA
  obtain ⟨rfl, rfl, rfl⟩ := trodAll_nil hA
  obtain rfl : args = #[v0, v1, v2, v3, v4] := by cases args; simp_all
  obtain ⟨sl, hsl, hsk, hsn⟩ := spots_of (hval 0 22 v0 rfl rfl) h0
  obtain ⟨n1, rfl, _, _, w1⟩ := open_int Tryz.underlying3 (hval 1 3 v1 rfl rfl) h1
  obtain ⟨n2, rfl, _, _, w2⟩ := open_int Tryz.underlying3 (hval 2 3 v2 rfl rfl) h2
  obtain ⟨n3, rfl, _, _, w3⟩ := open_int Tryz.underlying3 (hval 3 3 v3 rfl rfl) h3
  obtain ⟨dl, hdl, hdk, hdn⟩ := dos_of (hval 4 23 v4 rfl rfl) h4
  refine (sees_c (E := fun _ _ => False) (K := fun v w' => v = .bool true ∧ Ext W w') (glob_of_laid hL) hsl hdl hsk hdk hsn hdn (wf_i64 w1) (wf_i64 w2) (wf_i64 w3) fun w' e => ⟨rfl, e⟩).mono ?_
  intro e W' he
  cases e with
  | returned v =>
    obtain ⟨rfl, hx⟩ := he
    exact ⟨_, rfl, post_row laidOut (by decide +kernel) rfl Tryz.underlying4 rfl rfl hW' hx⟩
  | panicked ch => exact he.elim
  | outgrown => exact he.elim
theorem sees_said : Rows.MMUSeesSaid :=
  OpenClaim.holds_of_wide 4 Tryz.f4 rfl rfl rfl rfl rfl rfl rfl ⟨rfl, rfl, rfl, rfl, rfl⟩ rfl rfl rfl rfl rfl (by kernel_rfl) Tryz.func4 (by kernel_rfl)
    (of_decide_eq_true (by kernel_rfl)) (by unfold Func.isWrapper; first | (rw [if_pos (by decide +kernel)]; kernel_rfl) | (rw [if_neg (by decide +kernel)]; exact ⟨rfl, rfl⟩))
    (fun os started H enc _ => sees_lifted os started H enc)
theorem sees_holds : Rows.MMUSeesCardSaid :=
  Claim7.holds_tied_plain_at .later [] [.data, .data] true (true, "2ae7f5ba69d7af0ac23d063683252b747e504e15586f03ab1afc37b5da91b370") false
    sees_said (fun _ h => by cases h) (by kernel_rfl) (fun _ h => by cases h) mMUSees_row_tie rfl ⟨rfl, rfl⟩ (by kernel_rfl) rfl
    (fun f fn hf hfn => by
      obtain rfl : f = 4 := Option.some.inj ((show Tryz.prog.funcNamed "cloister/cloisterlaw8.MMUSees" = some 4 by kernel_rfl).symm.trans hf) |>.symm
      obtain rfl : fn = Tryz.f4 := (Option.some.inj (Tryz.func4.symm.trans hfn)).symm
      exact ⟨by kernel_rfl, fun j t ht => by
        rw [Tryz.params4] at ht
        have hm : t ∈ [22, 3, 3, 3, 23] := by simpa using Array.mem_of_getElem? ht
        have hall : ([22, 3, 3, 3, 23].all fun u => !Tryz.prog.wantsStandIn u) = true := by kernel_rfl
        exact (show Tryz.prog.wantsStandIn t = false by simpa using List.all_eq_true.1 hall t hm)⟩)
    (by kernel_rfl)
end Go.Proofs.YtcjcbgeogaighaaGreatDoor
