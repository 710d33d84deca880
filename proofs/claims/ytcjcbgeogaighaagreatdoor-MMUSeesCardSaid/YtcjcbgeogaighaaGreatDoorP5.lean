/- A part (5 of 6) of the proof that the law of MMUSees answers true for every input and that each argument reads afterwards as before. Conditions: those of the card alone (the two tables of math/bits read as the program text lays them). -/
import Derived.Test.YtcjcbgeogaighaaGreatDoorP4
import Derived.Lib.AppendZerosOnto
set_option linter.all false
namespace Go.Eng
open Go.Proofs Go.MapKept
variable {w : World} {K : Value → World → Prop} {E : List PanicEntry → World → Prop}
theorem same_c {t t' b : Nat} {d : Bool} (hb : w.heap[b]? = some (.cells #[.int .u32 t'] 38 (0, 0))) (h : ∀ w', Ext w w' → K (.bool (decide (t = t'))) w') : C P 104 (List.toArray ([] ++ [.agg #[.int .u32 t, .bool d]] ++ [ptr b])) w K E := by
  have e1 : ∀ o, Ext w (w.alloc o) := fun o => (Fr.refl _ w).alloc o
  apply F104
  unfold S104_0
  with_reducible refine x_boxA ?_; refine x_field0 ?_; refine x_load1 blk_alloc_new at_0 ?_; refine x_load1 (by refine blk_alloc_old' ?_; assumption) at_0 ?_
  refine x_eql (fun hc => ?_) (fun hc => ?_)
  · have := h _ (e1 (.cells #[.int .u32 t, .bool d] 147 (0, 0)))
    rwa [decide_eq_true (by omega)] at this
  · have := h _ (e1 (.cells #[.int .u32 t, .bool d] 147 (0, 0)))
    rwa [decide_eq_false (by omega)] at this
theorem linesV_get {l : List (Nat × Bool)} {i : Nat} {a : Nat × Bool} (h : l[i]? = some a) : ((linesV l).drop (2 * i)).take 2 = lineV a := by
  rw [linesV_drop]
  obtain ⟨hl, rfl⟩ := List.getElem?_eq_some_iff.1 h
  rw [List.drop_eq_getElem_cons hl]
  simp only [linesV, List.flatMap_cons, lineV, List.cons_append, List.nil_append, List.take_succ_cons, List.take_zero]
theorem SetR.line {c : Array Value} {o many i : Nat} {full : List (Nat × Bool)} {a : Nat × Bool} (h : SetR c o full many) (ha : full[i]? = some a) : SubAt c (o + i * 2) 2 #[.int .u32 a.1, .bool a.2] := by
  have hi := (List.getElem?_eq_some_iff.1 ha).1
  have hl := h.len
  have hf := h.fits
  refine ⟨by omega, ?_⟩
  apply Array.ext'
  have h1 := congrArg (fun l => (List.drop (2 * i) l).take 2) h.part
  rw [List.drop_append_of_le_length (by rw [linesV_len]; omega), List.take_append_of_le_length (by rw [List.length_drop, linesV_len]; omega), linesV_get ha] at h1
  have h2 : List.take 2 (List.drop (2 * i) ((c.toList.drop o).take 17)) = (c.toList.drop (o + i * 2)).take 2 := by
    rw [List.drop_take, List.take_take, List.drop_drop, Nat.min_eq_left (by omega), show o + 2 * i = o + i * 2 by omega]
  have h3 : (c.toList.drop (o + i * 2)).take 2 = lineV a := h2.symm.trans h1
  rw [Array.toList_extract, List.extract_eq_drop_take, show o + i * 2 + 2 - (o + i * 2) = 2 by omega, h3]
  rfl
theorem IndexL_c {cb o b many t : Nat} {c : Array Value} {T : TypeId} {fz : Nat × Nat} {full : List (Nat × Bool)} {cp : Nat} (hb : w.heap[cb]? = some (.cells c T fz)) (hs : SetR c o full many) (ht : w.heap[b]? = some (.cells #[.int .u32 t] 38 (0, 0)))
   (h0 : ∀ w', Ext w w' → (∀ a ∈ full.take many, a.1 ≠ t) → K (.int .i64 (-1)) w')
   (h1 : ∀ i d w', Ext w w' → i < many → full[i]? = some (t, d) → (∀ a ∈ full.take i, a.1 ≠ t) → K (.int .i64 i) w') :
   C P 103 #[.slice (some ⟨cb, o, none⟩) many cp, .func (.func 104) (List.toArray []) (List.toArray [ptr b])] w K E := by
  have hl := hs.len
  have hle := hs.le
  apply F103
  unfold S103_0
  with_reducible refine x_lenS ?_
  unfold S103_l2
  refine ⟨fun v8 w2 => ∃ i : Nat, v8 = .int .i64 i ∧ i ≤ many ∧ Ext w w2 ∧ ∀ a ∈ full.take i, a.1 ≠ t, fun v8 _ => match v8 with | .int _ i => many - i.toNat | _ => 0, ⟨0, rfl, by omega, Fr.refl _ _, by simp⟩, ?_⟩
  rintro _ w2 ⟨i, rfl, hi, hx, hno⟩
  have hb2 := hx.get hb
  have ht2 := hx.get ht
  unfold S103_b2
  refine x_lss (fun hc => ?_) (fun hc => ?_)
  with_reducible refine Cnd.yes ?_
  rotate_left
  with_reducible refine Cnd.no ?_
  rotate_left
  · refine x_idxS (by omega) ?_
    have hlt : i < many := by omega
    have ha : full[i]? = some full[i] := by simp
    refine x_loadA hb2 (by rw [Int.toNat_natCast]; exact hs.line ha) ?_
    refine x_callV (same_c ht2 fun w3 hx3 => ?_)
    by_cases he : t = full[i].1
    · rw [show decide (full[i].1 = t) = true by simp [he.symm]]
      with_reducible refine Cnd.yes ?_
      refine h1 i full[i].2 w3 (hx.trans hx3) hlt ?_ hno
      rw [ha, he]
    · rw [show decide (full[i].1 = t) = false by simp; exact fun hq => he hq.symm]
      with_reducible refine Cnd.no ?_; refine x_addN (by rw [IntKind.wrap_i64]; omega) ?_
      refine ⟨⟨i + 1, by congr 1, by omega, hx.trans hx3, fun a hm => ?_⟩, ?_⟩
      · rw [List.take_succ_eq_append_getElem (by omega)] at hm
        rcases List.mem_append.1 hm with hm | hm
        · exact hno a hm
        · rw [List.mem_singleton.1 hm]
          exact fun hq => he hq.symm
      · simp only; omega
  · unfold S103_j7
    exact h0 w2 hx (by rwa [show many = i by omega])
end Go.Eng
namespace Go.Eng
open Go.Proofs Go.MapKept
variable {w : World} {K : Value → World → Prop} {E : List PanicEntry → World → Prop}
theorem find_c {cb o many t : Nat} {c : Array Value} {T : TypeId} {fz : Nat × Nat} {full : List (Nat × Bool)} (hb : w.heap[cb]? = some (.cells c T fz)) (hs : SetR c o full many)
   (h0 : ∀ w', Ext w w' → (∀ a ∈ full.take many, a.1 ≠ t) → K (.int .i64 (-1)) w')
   (h1 : ∀ i d w', Ext w w' → i < many → full[i]? = some (t, d) → (∀ a ∈ full.take i, a.1 ≠ t) → K (.int .i64 i) w') :
   C P 92 #[.pointer (some ⟨cb, o, none⟩), .int .u32 t] w K E := by
  have hl := hs.len
  have hle := hs.le
  have hm : c[o + 16]? = some (.int .i64 (many : Nat)) := by
    have h2 := congrArg (fun l => l[16]?) hs.part
    simp only [List.getElem?_take, List.getElem?_drop] at h2
    rw [List.getElem?_append_right (by rw [linesV_len]; omega), linesV_len, hl] at h2
    simpa using h2
  apply F92
  unfold S92_0
  with_reducible refine x_box1 oneI ?_; refine XQ.of rfl ?_; refine x_nil ?_; refine qstep ?_; refine XQ.of rfl ?_; refine x_field ?_; refine qstep ?_; refine XQ.of rfl ?_; refine x_nil ?_; refine qstep ?_; refine XQ.of rfl ?_; refine x_field ?_; refine qstep ?_; refine XQ.of rfl ?_; refine x_load1 (by refine blk_alloc_old' ?_; assumption) ‹_› ?_; refine qstep ?_; refine XQ.of rfl ?_
  refine x_sliceAh (by omega) (by omega) ?_
  with_reducible refine qstep ?_; refine XQ.of rfl ?_; refine x_mkFunc ?_; refine qstep ?_
  rw [Int.toNat_natCast]
  generalize hw1 : drw (World.alloc _ _) = w1
  have e1 : Ext w w1 := by rw [← hw1]; exact ((Fr.refl _ w).alloc _).drw
  have b1 : w1.heap[w.heap.size]? = some (.cells #[.int .u32 t] 38 (0, 0)) := by rw [← hw1]; exact blk_alloc_new
  exact x_callF (IndexL_c (e1.get hb) hs b1 (fun w' hx hn => h0 w' (e1.trans hx) hn) fun i d w' hx hi ha hn => h1 i d w' (e1.trans hx) hi ha hn)
end Go.Eng
namespace Go.Eng
open Go.Proofs Go.MapKept
structure CacheR (w : World) (cb la lb ways : Nat) (S : Nat → List (Nat × Bool)) : Prop where
  ok : la ≤ 8 ∧ 4 ≤ lb ∧ lb ≤ 8 ∧ 1 ≤ ways ∧ ways ≤ 8
  row : ∃ c : Array Value, w.heap[cb]? = some (.cells c 153 (0, 0)) ∧ c.size = 4355 ∧ SubAt c 0 3 #[.int .i64 (2 ^ la : Nat), .int .i64 ways, .int .i64 (2 ^ lb : Nat)] ∧
    ∀ k, k < 256 → ∃ full many, SetR c (3 + 17 * k) full many ∧ S k = full.take many ∧ many ≤ ways
theorem CacheR.frame {w w' : World} {cb la lb ways : Nat} {S : Nat → List (Nat × Bool)} {Q : Nat → Prop} (h : CacheR w cb la lb ways S) (hf : Fr Q w w') (hq : ¬ Q cb) : CacheR w' cb la lb ways S := by
  obtain ⟨c, h1, h2⟩ := h.row
  exact ⟨h.ok, c, hf.get hq h1, h2⟩
end Go.Eng
namespace Go.Eng
open Go.Proofs Go.MapKept
variable {w : World} {K : Value → World → Prop} {E : List PanicEntry → World → Prop}
def at? (l : List (Nat × Bool)) (t : Nat) : Option Nat := l.findIdx? fun a => a.1 == t
def acc (ways : Nat) (l : List (Nat × Bool)) (t : Nat) (wr : Bool) : (Bool × Bool × Nat) × List (Nat × Bool) :=
  match at? l t with
  | some i => ((true, false, 1), (t, (l.getD i (0, false)).2 || wr) :: l.eraseIdx i)
  | none => if l.length = ways then
      let b := (l.getD (ways - 1) (0, false)).2
      ((false, b, if b then 20 else 12), (t, wr) :: l.take (ways - 1))
    else ((false, false, 12), (t, wr) :: l)
def setS (S : Nat → List (Nat × Bool)) (k : Nat) (l : List (Nat × Bool)) : Nat → List (Nat × Bool) := fun j => if j = k then l else S j
theorem SetR.many_at {c : Array Value} {o many : Nat} {full : List (Nat × Bool)} (hs : SetR c o full many) : c[o + 16]? = some (.int .i64 (many : Nat)) := by
  have hl := hs.len
  have h2 := congrArg (fun l => l[16]?) hs.part
  simp only [List.getElem?_take, List.getElem?_drop] at h2
  rw [List.getElem?_append_right (by rw [linesV_len]; omega), linesV_len, hl] at h2
  simpa using h2
theorem sub_at {c vs : Array Value} {o n j : Nat} {v : Value} (h : SubAt c o n vs) (hj : j < n) (hv : vs[j]? = some v) : c[o + j]? = some v := by
  obtain ⟨h1, rfl⟩ := h
  rw [Array.getElem?_extract_of_lt (by omega)] at hv
  rw [← hv]
  simp
theorem set_many {c : Array Value} {o many m' : Nat} {full : List (Nat × Bool)} (hs : SetR c o full many) (hm : m' ≤ 8) : SetR (c.setIfInBounds (o + 16) (.int .i64 (m' : Nat))) o full m' := by
  have hl := hs.len
  have hf := hs.fits
  refine ⟨hs.len, hm, by simpa using hf, ?_⟩
  have p := part_lay (k := 16) (xs := [Value.int .i64 (m' : Nat)]) hs.part hf (by simp)
  rw [lay_one (by omega)] at p
  rw [p, List.take_append_of_le_length (by rw [linesV_len]; omega), List.take_of_length_le (by rw [linesV_len]; omega)]
  rw [List.drop_of_length_le (by simp [linesV_len]; omega)]
  simp
theorem acc_j {cb o m t r6 r11 cy : Nat} {wr hit back : Bool} {c : Array Value} {full : List (Nat × Bool)} (hb : w.heap[cb]? = some (.cells c 153 (0, 0))) (hs : SetR c o full m) (hm : m ≤ 7)
   (h6 : w.heap[r6]? = some (.cells #[.bool false, .bool false, .int .i64 0] 166 (0, 0))) (h11 : w.heap[r11]? = some (.cells #[.bool hit, .bool back, .int .i64 cy] 166 (0, 0))) (n6 : r6 ≠ cb) (n11 : r11 ≠ cb) (n611 : r6 ≠ r11)
   (hK : ∀ w' c', Fr (fun r => r = cb ∨ r = r6) w w' → w'.heap[cb]? = some (.cells c' 153 (0, 0)) → c'.size = c.size → (∀ i, i < o ∨ o + 17 ≤ i → c'[i]? = c[i]?) → SetR c' o ((t, wr) :: (full.take m ++ full.drop (m + 1))) (m + 1) → K (.agg #[.bool hit, .bool back, .int .i64 cy]) w') :
   S72_j13 (.bool wr) (ptr r6) (.int .u32 t) (.pointer (some ⟨cb, o, none⟩)) (ptr r11) w K E := by
  have hmany := hs.many_at
  unfold S72_j13
  with_reducible refine x_nil ?_; refine x_field ?_; refine x_load1 ‹_› ‹_› ?_; refine x_buildS (by apply fill_1; exact inferInstance; exact oneI; exact set_0; apply fill_1; exact inferInstance; exact oneB; apply set_S; exact set_0; rotate_left; exact fill_nil; rotate_left; rotate_left; rotate_left; rotate_left) ?_
  refine x_callF (front_c hb hs hm fun w2 c2 e2 hb2 hsz2 hout2 hs2 => ?_)
  have hmany2 := hs2.many_at
  have h62 := e2.get n6 h6
  have h112 := e2.get n11 h11
  with_reducible refine x_nil ?_; refine x_field ?_; refine x_load1 ‹_› ‹_› ?_; refine x_addN (by rw [IntKind.wrap_i64]; omega) ?_; refine x_nil ?_; refine x_field ?_
  rw [show (m : Int) + 1 = ((m + 1 : Nat) : Int) by omega]
  refine x_store1 hb2 oneI (set_any (by have := hs.fits; omega)) ?_
  generalize hw3 : setBlk w2 _ _ = w3
  have e3 : Fr (fun r => r = cb) w2 w3 := by rw [← hw3]; exact Fr.set1 (Fr.refl _ _)
  have hb3 : w3.heap[cb]? = some (.cells (c2.setIfInBounds (o + 16) (.int .i64 (m + 1 : Nat))) 153 (0, 0)) := by rw [← hw3]; exact blk_set_same (lt_of_blk hb2)
  have h63 := e3.get n6 h62
  have h113 := e3.get n11 h112
  clear hw3
  with_reducible refine x_loadA ‹_› (sub_cons (sub_cons (sub_cons sub_nil))) ?_; refine x_storeA ‹_› rfl (by simp [Value.oneCell']) (lay_cons (lay_cons (lay_cons lay_nil))) ?_
  refine xres_1 (rv_loadA (by exact blk_set_same (by exact lt_of_blk ‹_›)) (sub_cons (sub_cons (sub_cons sub_nil)))) ?_
  have e4 : Fr (fun r => r = r6) w3 (setBlk w3 r6 (.cells #[.bool hit, .bool back, .int .i64 cy] 166 (0, 0))) := Fr.set1 (Fr.refl _ _)
  refine hK _ _ (((e2.trans e3).mono fun r _ h => .inl h).trans' e4 fun r h _ => .inr h) (e4.get (fun h => n6 h.symm) hb3) (by simp [hsz2]) (fun i hi => ?_) (set_many hs2 (by omega))
  rw [Array.getElem?_setIfInBounds_ne (by omega)]
  exact hout2 i hi
theorem setR_out {c c' : Array Value} {o o' many : Nat} {full : List (Nat × Bool)} (h : SetR c o full many) (hsz : c'.size = c.size) (ho : ∀ i, i < o' ∨ o' + 17 ≤ i → c'[i]? = c[i]?) (hd : o + 17 ≤ o' ∨ o' + 17 ≤ o) : SetR c' o full many := by
  refine ⟨h.len, h.le, by rw [hsz]; exact h.fits, ?_⟩
  rw [← h.part]
  apply List.ext_getElem?
  intro i
  by_cases hi : i < 17
  · rw [List.getElem?_take, if_pos hi, List.getElem?_take, if_pos hi, List.getElem?_drop, List.getElem?_drop, Array.getElem?_toList, Array.getElem?_toList]
    exact ho _ (by omega)
  · rw [List.getElem?_take, if_neg hi, List.getElem?_take, if_neg hi]
theorem cache_fin {w' : World} {cb la lb ways k m' : Nat} {S : Nat → List (Nat × Bool)} {c c' : Array Value} {full' : List (Nat × Bool)} (hok : la ≤ 8 ∧ 4 ≤ lb ∧ lb ≤ 8 ∧ 1 ≤ ways ∧ ways ≤ 8) (hsz : c.size = 4355)
   (hsh : SubAt c 0 3 #[.int .i64 (2 ^ la : Nat), .int .i64 ways, .int .i64 (2 ^ lb : Nat)]) (hsets : ∀ k, k < 256 → ∃ full many, SetR c (3 + 17 * k) full many ∧ S k = full.take many ∧ many ≤ ways)
   (hb : w'.heap[cb]? = some (.cells c' 153 (0, 0))) (hsz' : c'.size = c.size) (ho : ∀ i, i < 3 + 17 * k ∨ 3 + 17 * k + 17 ≤ i → c'[i]? = c[i]?) (hs : SetR c' (3 + 17 * k) full' m') (hm : m' ≤ ways) : CacheR w' cb la lb ways (setS S k (full'.take m')) := by
  refine ⟨hok, c', hb, by omega, ⟨by omega, ?_⟩, fun j hj => ?_⟩
  · rw [hsh.2]
    apply Array.ext'
    rw [Array.toList_extract, Array.toList_extract, List.extract_eq_drop_take, List.extract_eq_drop_take]
    apply List.ext_getElem?
    intro i
    by_cases hi : i < 3
    · rw [List.getElem?_take, List.getElem?_take, List.getElem?_drop, List.getElem?_drop, Array.getElem?_toList, Array.getElem?_toList, ho _ (by omega)]
    · rw [List.getElem?_take, List.getElem?_take, if_neg (by omega), if_neg (by omega)]
  · by_cases hjk : j = k
    · subst hjk
      exact ⟨full', m', hs, by simp [setS], hm⟩
    · obtain ⟨full, many, g1, g2, g3⟩ := hsets j hj
      exact ⟨full, many, setR_out g1 hsz' ho (by omega), by simp [setS, hjk, g2], g3⟩
theorem at_none {l : List (Nat × Bool)} {t : Nat} (h : ∀ a ∈ l, a.1 ≠ t) : at? l t = none := by
  rw [at?, List.findIdx?_eq_none_iff]
  intro a ha
  simpa using h a ha
theorem at_some {l : List (Nat × Bool)} {t i : Nat} {d : Bool} (hi : l[i]? = some (t, d)) (h : ∀ a ∈ l.take i, a.1 ≠ t) : at? l t = some i := by
  obtain ⟨hl, he⟩ := List.getElem?_eq_some_iff.1 hi
  rw [at?, List.findIdx?_eq_some_iff_getElem]
  refine ⟨hl, by simp [he], fun j hj => ?_⟩
  have := h l[j] (List.mem_take_iff_getElem.2 ⟨j, by omega, rfl⟩)
  simpa using this
theorem Access_c {cb la lb ways addr : Nat} {wr : Bool} {S : Nat → List (Nat × Bool)} (h : CacheR w cb la lb ways S) (hg : Glob w) (hv : addr < 4294967296)
   (hK : ∀ w' hit back cy l, Fr (fun r => r = cb) w w' → acc ways (S (addr / 2 ^ lb % 2 ^ la)) (addr / 2 ^ lb / 2 ^ la) wr = ((hit, back, cy), l) → CacheR w' cb la lb ways (setS S (addr / 2 ^ lb % 2 ^ la) l) → K (.agg #[.bool hit, .bool back, .int .i64 (cy : Nat)]) w') :
   C P 72 #[ptr cb, .int .u32 addr, .bool wr] w K E := by
  obtain ⟨k1, k2, k3, k4, k5⟩ := h.ok
  obtain ⟨c, hb, hsz, hsh, hsets⟩ := h.row
  have hlt := lt_of_blk hb
  apply F72
  unfold S72_0
  with_reducible refine x_alloc ?_; refine x_nil ?_; refine x_field0 ?_
  generalize hw1 : World.alloc _ _ = w1
  have e1 : Ext w w1 := by rw [← hw1]; exact (Fr.refl _ w).alloc _
  have r1 : w1.heap[w.heap.size]? = some (.cells #[.bool false, .bool false, .int .i64 0] 166 (0, 0)) := by rw [← hw1]; exact blk_alloc_new
  clear hw1
  have hb1 := e1.get hb
  obtain ⟨Tg, fg, hgl⟩ := hg
  have l1 : 1 < w1.heap.size := lt_of_blk (e1.get hgl)
  refine x_loadA hb1 hsh ?_
  refine x_callF (cplace_c k1 k3 ((show Glob w from ⟨Tg, fg, hgl⟩).fr e1 id) l1 hv fun w2 e2 => ?_)
  have hb2 := e2.get hb1
  have r2 := e2.get r1
  have hk : addr / 2 ^ lb % 2 ^ la < 256 := Nat.lt_of_lt_of_le (Nat.mod_lt _ (Nat.two_pow_pos la)) (Nat.pow_le_pow_right (n := 2) (by omega) k1)
  generalize addr / 2 ^ lb % 2 ^ la = k at *
  have htag : addr / 2 ^ lb / 2 ^ la < 4294967296 := Nat.lt_of_le_of_lt (Nat.le_trans (Nat.div_le_self _ _) (Nat.div_le_self _ _)) hv
  generalize addr / 2 ^ lb / 2 ^ la = t at *
  obtain ⟨full, many, hset, hSk, hmw⟩ := hsets k hk
  with_reducible refine x_extract at_0 ?_; refine x_extract at_1 ?_; refine x_nil ?_; refine x_field0 ?_
  refine x_idxA (by omega) ?_
  rw [show 3 + (k : Int).toNat * 17 = 3 + 17 * k by omega]
  have hmany := hset.many_at
  have hways : c[1]? = some (.int .i64 ways) := sub_at (o := 0) (j := 1) hsh (by omega) at_1
  refine x_callF (find_c hb2 hset (fun w3 e3 hno => ?_) fun i d w3 e3 hi hfi hno => ?_)
  · have hb3 := e3.get hb2
    have r3 := e3.get r2
    have hat : at? (S k) t = none := by rw [hSk]; exact at_none hno
    have hlen : (S k).length = many := by rw [hSk, List.length_take, hset.len]; have := hset.le; omega
    refine x_geq (fun hc => by omega) (fun hc => ?_)
    with_reducible refine Cnd.no ?_; refine x_buildS (by apply fill_1; exact inferInstance; exact oneI; apply set_S; apply set_S; exact set_0; rotate_left; rotate_left; exact fill_nil; rotate_left; rotate_left) ?_; refine x_alloc ?_; refine x_storeA blk_alloc_new rfl (by decide) (lay_cons (lay_cons (lay_cons lay_nil))) ?_; refine XQ.of rfl ?_; refine x_nil ?_; refine qstep ?_; refine XQ.of rfl ?_; refine x_field ?_; refine qstep ?_; refine XQ.of rfl ?_; refine x_load1 (by refine blk_set_ne' ?_ (by exact Nat.ne_of_lt (by exact lt_of_blk ‹_›)); refine blk_alloc_old' ?_; assumption) ‹_› ?_; refine qstep ?_; refine XQ.of rfl ?_; refine x_nil ?_; refine qstep ?_; refine XQ.of rfl ?_; refine x_field0 ?_; refine qstep ?_; refine XQ.of rfl ?_; refine x_field0 ?_; refine qstep ?_; refine XQ.of rfl ?_; refine x_load1 (by refine blk_set_ne' ?_ (by exact Nat.ne_of_lt (by exact lt_of_blk ‹_›)); refine blk_alloc_old' ?_; assumption) ‹_› ?_; refine qstep ?_; refine XQ.of rfl ?_
    refine x_eql (fun hc => ?_) (fun hc => ?_)
    with_reducible refine qstep ?_; refine Cnd.yes ?_; refine x_nil ?_; refine x_field ?_; refine x_load1 (by refine blk_set_ne' ?_ (by exact Nat.ne_of_lt (by exact lt_of_blk ‹_›)); refine blk_alloc_old' ?_; assumption) ‹_› ?_; refine x_subN (by rw [IntKind.wrap_i64]; omega) ?_; refine x_nil ?_; refine x_field ?_
    rotate_left
    with_reducible refine qstep ?_; refine Cnd.no ?_
    rotate_left
    · -- full
      generalize hw4 : drw (setBlk _ _ _) = w4
      have e4 : Ext w3 w4 := by rw [← hw4]; exact (((Fr.refl _ w3).alloc _).set (fun h => by omega) _).drw
      have r4 : w4.heap[w3.heap.size]? = some (.cells #[.bool false, .bool false, .int .i64 12] 166 (0, 0)) := by rw [← hw4]; exact blk_set_same lt_alloc_new
      clear hw4
      have hb4 := e4.get hb3
      have r6 := e4.get r3
      have l3 := lt_of_blk r3
      have lcb := lt_of_blk hb3
      have hfits := hset.fits
      have hlf := hset.len
      have hset5 := set_many (m' := many - 1) hset (by omega)
      rw [show (many : Int) - 1 = ((many - 1 : Nat) : Int) by omega]
      refine x_store1 hb4 oneI (set_any (by omega)) ?_
      generalize hw5 : setBlk w4 _ _ = w5
      have e5 : Fr (fun r => r = cb) w4 w5 := by rw [← hw5]; exact Fr.set1 (Fr.refl _ _)
      have hb5 : w5.heap[cb]? = some (.cells (c.setIfInBounds (3 + 17 * k + 16) (.int .i64 (many - 1 : Nat))) 153 (0, 0)) := by rw [← hw5]; exact blk_set_same (lt_of_blk hb4)
      have r45 := e5.get (by omega) r4
      have r65 := e5.get (by omega) r6
      clear hw5
      have hm5 := hset5.many_at
      obtain ⟨a, ha⟩ : ∃ a, full[many - 1]? = some a := ⟨full[many - 1]'(by omega), by simp⟩
      have hd5 := sub_at (j := 1) (hset5.line ha) (by omega) at_1
      with_reducible refine XQ.of rfl ?_; refine x_nil ?_; refine qstep ?_; refine XQ.of rfl ?_; refine x_field ?_; refine qstep ?_; refine XQ.of rfl ?_; refine x_load1 ‹_› ‹_› ?_; refine qstep ?_; refine XQ.of rfl ?_; refine x_nil ?_; refine qstep ?_; refine XQ.of rfl ?_; refine x_field ?_; refine qstep ?_; refine XQ.of rfl ?_
      refine x_idxA (by omega) ?_
      rw [show 3 + 17 * k + 0 + (((many - 1 : Nat) : Int)).toNat * 2 = 3 + 17 * k + (many - 1) * 2 by omega]
      have hlast : (S k).getD (ways - 1) (0, false) = a := by
        rw [hSk, List.getD_eq_getElem?_getD, List.getElem?_take, if_pos (by omega), show ways - 1 = many - 1 by omega, ha]; rfl
      have htk : (S k).take (ways - 1) = full.take (many - 1) := by rw [hSk, List.take_take, show min (ways - 1) many = many - 1 by omega]
      have fin : ∀ w6 (b : Bool) (cy : Nat), a.2 = b → cy = (if b then 20 else 12) → Fr (fun r => r = w3.heap.size) w5 w6 → w6.heap[w3.heap.size]? = some (.cells #[.bool false, .bool b, .int .i64 cy] 166 (0, 0)) →
          S72_j13 (.bool wr) (ptr w.heap.size) (.int .u32 t) (.pointer (some ⟨cb, 3 + 17 * k, none⟩)) (ptr w3.heap.size) w6 K E := fun w6 b cy hab hcy e6 r6' => by
        have hb6 := e6.get (by omega) hb5
        have r66 := e6.get (by omega) r65
        refine acc_j hb6 hset5 (by omega) r66 r6' (by omega) (by omega) (by omega) fun w7 c7 e7 hb7 hsz7 ho7 hs7 => ?_
        refine hK w7 false b cy ((t, wr) :: full.take (many - 1)) ?_ ?_ ?_
        · refine (((Fr.of_ext (((e1.trans e2).trans e3).trans e4)).trans e5).trans' e6 fun r hr hlt => by omega).trans' e7 fun r hr hlt => by rcases hr with hr | hr; exact hr; omega
        · simp only [acc, hat]
          rw [if_pos (by omega), hlast, htk, hab, hcy]
        · have := cache_fin h.ok hsz hsh hsets hb7 (by rw [hsz7]; simp) (fun i hi => by rw [ho7 i hi, Array.getElem?_setIfInBounds_ne (by omega)]) hs7 (by omega)
          rw [List.take_succ_cons, List.take_append_of_le_length (by rw [List.length_take]; omega), List.take_of_length_le (by rw [List.length_take]; omega)] at this
          exact this
      obtain ⟨a1, a2⟩ := a
      cases a2
      · with_reducible refine qstep ?_; refine XQ.of rfl ?_; refine x_field ?_; refine qstep ?_; refine XQ.of rfl ?_; refine x_load1 ‹_› ‹_› ?_; refine qstep ?_; refine Cnd.no ?_
        exact fin _ false 12 rfl rfl (Fr.refl _ _).drw r45
      · with_reducible refine qstep ?_; refine XQ.of rfl ?_; refine x_field ?_; refine qstep ?_; refine XQ.of rfl ?_; refine x_load1 ‹_› ‹_› ?_; refine qstep ?_; refine Cnd.yes ?_; refine x_field0 ?_; refine x_store1 ‹_› oneB (set_S set_0) ?_; refine x_field0 ?_; refine x_load1 (by exact blk_set_same (by exact lt_of_blk ‹_›)) at_2 ?_; refine x_addN (by rw [IntKind.wrap_i64]; omega) ?_; refine x_field0 ?_; refine x_store1 (by exact blk_set_same (by exact lt_of_blk ‹_›)) oneI (set_S (set_S set_0)) ?_
        exact fin _ true 20 rfl rfl (((Fr.refl (fun r => r = w3.heap.size) w5).drw.set (fun _ => rfl) _).set (fun _ => rfl) _) (blk_set_same (lt_set (lt_of_blk r45)))
    · -- room
      generalize hw4 : drw (setBlk _ _ _) = w4
      have e4 : Ext w3 w4 := by rw [← hw4]; exact (((Fr.refl _ w3).alloc _).set (fun h => by omega) _).drw
      have r4 : w4.heap[w3.heap.size]? = some (.cells #[.bool false, .bool false, .int .i64 12] 166 (0, 0)) := by rw [← hw4]; exact blk_set_same lt_alloc_new
      clear hw4
      have hb4 := e4.get hb3
      have r6 := e4.get r3
      have l3 := lt_of_blk r3
      refine acc_j (cy := 12) hb4 hset (by omega) r6 r4 (by omega) (by have := lt_of_blk hb3; omega) (by omega) fun w5 c5 e5 hb5 hsz5 ho5 hs5 => ?_
      refine hK w5 false false 12 ((t, wr) :: S k) ?_ ?_ ?_
      · exact (Fr.of_ext (((e1.trans e2).trans e3).trans e4)).trans' e5 fun r hr hlt => by rcases hr with hr | hr; exact hr; omega
      · simp only [acc, hat]
        rw [if_neg (by omega)]
      · have := cache_fin h.ok hsz hsh hsets hb5 hsz5 ho5 hs5 (by omega)
        have hlf := hset.len
        rw [hSk]
        rw [List.take_succ_cons, List.take_append_of_le_length (by rw [List.length_take]; omega), List.take_of_length_le (by rw [List.length_take]; omega)] at this
        exact this
  · have hb3 := e3.get hb2
    have r3 := e3.get r2
    have hlf := hset.len
    have hfits := hset.fits
    have hld : c[3 + 17 * k + i * 2 + 1]? = some (.bool d) := sub_at (j := 1) (hset.line hfi) (by omega) at_1
    have l0 := lt_of_blk r1
    have fin : (S k).getD i (0, false) = (t, d) := by
      rw [hSk, List.getD_eq_getElem?_getD, List.getElem?_take, if_pos (by omega), hfi]; rfl
    have hat : at? (S k) t = some i := by
      rw [hSk]
      refine at_some (d := d) (by rw [List.getElem?_take, if_pos (by omega), hfi]) fun a ha => hno a ?_
      rw [List.take_take, show min i many = i by omega] at ha
      exact ha
    refine x_geq (fun hc => ?_) (fun hc => by omega)
    with_reducible refine Cnd.yes ?_; refine x_nil ?_; refine x_field ?_
    refine x_idxA (by omega) ?_
    rw [show 3 + 17 * k + 0 + (i : Int).toNat * 2 = 3 + 17 * k + i * 2 by omega]
    have go : ∀ b, b = (d || wr) → ∀ w4, Ext w3 w4 → X P (.callF 93 #[.pointer (some ⟨cb, 3 + 17 * k, none⟩), .int .i64 i, .agg #[.int .u32 t, .bool b]]) 0 w4 (fun t45 w_21 =>
    X P (.build 166 #[(0, (Value.bool true)), (2, (Value.int IntKind.i64 1))]) 166 w_21 (fun t46 w_22 =>
    X P (.store 166 (ptr w.heap.size) t46) 0 w_22 (fun _ w_23 =>
    XRes P [(ptr w.heap.size, some 166)] w_23 K) E) E) E := fun b hbe w4 e4 => by
      have hb4 := e4.get hb3
      refine x_callF (front_c hb4 hset (by omega) fun w5 c5 e5 hb5 hsz5 ho5 hs5 => ?_)
      have r5 := e5.get (by omega) (e4.get r3)
      with_reducible refine x_buildS (by apply fill_1; exact inferInstance; exact oneB; exact set_0; apply fill_1; exact inferInstance; exact oneI; apply set_S; apply set_S; exact set_0; rotate_left; rotate_left; exact fill_nil; rotate_left; rotate_left; rotate_left; rotate_left) ?_; refine x_storeA ‹_› rfl (by decide) (lay_cons (lay_cons (lay_cons lay_nil))) ?_
      refine xres_1 (rv_loadA (by exact blk_set_same (by exact lt_of_blk ‹_›)) (sub_cons (sub_cons (sub_cons sub_nil)))) ?_
      have e6 : Fr (fun r => r = w.heap.size) w5 (setBlk w5 w.heap.size (.cells #[.bool true, .bool false, .int .i64 1] 166 (0, 0))) := Fr.set1 (Fr.refl _ _)
      have := cache_fin h.ok hsz hsh hsets (e6.get (by omega) hb5) hsz5 ho5 hs5 hmw
      refine hK _ true false 1 ((t, b) :: (S k).eraseIdx i) ?_ ?_ ?_
      · exact ((Fr.of_ext (((e1.trans e2).trans e3).trans e4)).trans e5).trans' e6 fun r hr hlt => by omega
      · simp only [acc, hat]
        rw [fin, hbe]
      · have hq : (((t, b) :: (full.take i ++ full.drop (i + 1))).take many) = (t, b) :: (S k).eraseIdx i := by
          obtain ⟨m', rfl⟩ : ∃ m', many = m' + 1 := ⟨many - 1, by omega⟩
          rw [List.take_succ_cons, hSk, List.eraseIdx_eq_take_drop_succ, List.take_take, List.drop_take, List.take_append, List.length_take, List.take_take]
          rw [show min m' i = i by omega, show min i (m' + 1) = i by omega, show m' - min i full.length = m' + 1 - (i + 1) by omega]
        rw [hq] at this
        exact this
    cases d
    · with_reducible refine x_field ?_; refine x_load1 ‹_› ‹_› ?_; refine XG.yes ?_; refine x_val ?_; refine x_pickF ?_; refine x_buildS (by apply fill_1; exact inferInstance; exact oneI; exact set_0; apply fill_1; exact inferInstance; exact oneB; apply set_S; exact set_0; rotate_left; exact fill_nil; rotate_left; rotate_left; rotate_left; rotate_left) ?_
      exact go wr (by simp) _ (Fr.refl _ _)
    · with_reducible refine x_field ?_; refine x_load1 ‹_› ‹_› ?_; refine XG.no (by decide) ?_; refine x_pickT ?_; refine x_buildS (by apply fill_1; exact inferInstance; exact oneI; exact set_0; apply fill_1; exact inferInstance; exact oneB; apply set_S; exact set_0; rotate_left; exact fill_nil; rotate_left; rotate_left; rotate_left; rotate_left) ?_
      exact go true (by simp) _ (Fr.refl _ _)
end Go.Eng
namespace Go.Eng
open Go.Proofs Go.MapKept
variable {w : World} {K : Value → World → Prop} {E : List PanicEntry → World → Prop}
def setZ : List Value := linesV (List.replicate 8 (0, false)) ++ [.int .i64 0]
def setsZ : List Value := (List.replicate 256 setZ).flatten
def cacheZ : List Value := [.int .i64 0, .int .i64 0, .int .i64 0] ++ setsZ
instance z151' : ZC P 151 setsZ.toArray := ⟨⟨.agg setsZ.toArray, by kernel_rfl, rfl⟩⟩
instance z153' : ZC P 153 cacheZ.toArray := ⟨⟨.agg cacheZ.toArray, by kernel_rfl, rfl⟩⟩
theorem flat_part {s : List Value} {m : Nat} (hs : s.length = m) : ∀ (n k : Nat), k < n → ((List.replicate n s).flatten.drop (m * k)).take m = s
  | 0, k, h => by omega
  | n + 1, 0, h => by
    rw [List.replicate_succ, List.flatten_cons, Nat.mul_zero, List.drop_zero, List.take_append_of_le_length (by omega), List.take_of_length_le (by omega)]
  | n + 1, k + 1, h => by
    rw [List.replicate_succ, List.flatten_cons, List.drop_append, List.drop_of_length_le (by rw [hs, Nat.mul_succ]; omega), List.nil_append, hs, show m * (k + 1) - m = m * k by rw [Nat.mul_succ]; omega]
    exact flat_part hs n k (by omega)
theorem setZ_len : setZ.length = 17 := by simp [setZ, linesV_len]
theorem setsZ_len : setsZ.length = 4352 := by
  simp only [setsZ, List.length_flatten, List.map_replicate, setZ_len]
  rw [List.sum_replicate_nat]
theorem setsZ_one : ∀ v ∈ setsZ, v.oneCell' = true := by
  intro v hv
  simp only [setsZ, List.mem_flatten] at hv
  obtain ⟨s, hs, hv⟩ := hv
  rw [(List.mem_replicate.1 hs).2] at hv
  rcases List.mem_append.1 hv with hv | hv
  · exact linesV_one v hv
  · rw [List.mem_singleton.1 hv]; rfl
theorem cache_zero {cb la lb ways : Nat} {c : Array Value} (hok : la ≤ 8 ∧ 4 ≤ lb ∧ lb ≤ 8 ∧ 1 ≤ ways ∧ ways ≤ 8) (hb : w.heap[cb]? = some (.cells c 153 (0, 0))) (hc : c.toList = [.int .i64 (2 ^ la : Nat), .int .i64 ways, .int .i64 (2 ^ lb : Nat)] ++ setsZ) :
    CacheR w cb la lb ways fun _ => [] := by
  have hsz : c.size = 4355 := by rw [← Array.length_toList, hc]; simp [setsZ_len]
  refine ⟨hok, c, hb, hsz, ⟨by omega, ?_⟩, fun k hk => ⟨List.replicate 8 (0, false), 0, ⟨by simp, by omega, by omega, ?_⟩, by simp, by omega⟩⟩
  · apply Array.ext'
    rw [Array.toList_extract, hc, List.extract_eq_drop_take]
    simp
  · rw [hc, List.drop_append, List.drop_of_length_le (by simp), List.nil_append]
    simp only [List.length_cons, List.length_nil]
    rw [show 3 + 17 * k - (0 + 1 + 1 + 1) = 17 * k by omega]
    exact flat_part setZ_len 256 k hk
theorem cacheNew_c {la lb ways : Nat} (hok : la ≤ 8 ∧ 4 ≤ lb ∧ lb ≤ 8 ∧ 1 ≤ ways ∧ ways ≤ 8)
    (h : ∀ w' cb, Ext w w' → w.heap.size ≤ cb → cb < w'.heap.size → CacheR w' cb la lb ways (fun _ => []) → K (.tuple #[ptr cb, .int .i64 0]) w') :
    C P 42 #[.agg #[.int .i64 (2 ^ la : Nat), .int .i64 ways, .int .i64 (2 ^ lb : Nat)]] w K E := by
  apply F42
  unfold S42_0
  with_reducible refine x_boxA ?_; refine x_loadA blk_alloc_new (sub_cons (sub_cons (sub_cons sub_nil))) ?_
  refine x_callF (may_c hok.1 ⟨hok.2.1, hok.2.2.1⟩ hok.2.2.2 fun w1 e1 => ?_)
  have b1 := e1.get (blk_alloc_new (w := w) (o := .cells #[.int .i64 (2 ^ la : Nat), .int .i64 ways, .int .i64 (2 ^ lb : Nat)] 28 (0, 0)))
  with_reducible refine x_notT ?_; refine Cnd.no ?_; refine x_loadA ‹_› (sub_cons (sub_cons (sub_cons sub_nil))) ?_
  refine x_buildS (fill_A inferInstance rfl (lay_any (by simp [cacheZ])) fill_nil) ?_
  refine x_boxA ?_
  have s1 := e1.size
  rw [size_alloc] at s1
  refine h _ w1.heap.size (((Fr.refl _ w).alloc _).trans (e1.alloc _)) (by omega) lt_alloc_new (cache_zero hok blk_alloc_new ?_)
  simp [lay, cacheZ]
end Go.Eng
namespace Go.Eng
open Go.Proofs Go.MapKept
variable {w : World} {K : Value → World → Prop} {E : List PanicEntry → World → Prop}
def lnV (l : List (Nat × Nat × Bool)) : List Value := l.flatMap fun s => [.int .u32 (s.1 : Nat), .int .u32 (s.2.1 : Nat), .bool s.2.2]
def OwnLn (w : World) (b : Nat) (v : Value) (l : List (Nat × Nat × Bool)) : Prop := w.ownsRow b 185 3 v l.length (lnV l)
theorem OwnLn.nil {b : Nat} : OwnLn w b (.slice none 0 0) [] := World.ownsRow_nil w b 185 3
theorem OwnLn.frame {w' : World} {S : Nat → Prop} {b : Nat} {v : Value} {l : List (Nat × Nat × Bool)} (h : OwnLn w b v l) (hf : Fr S w w') (hs : ∀ r, b ≤ r → ¬ S r) : OwnLn w' b v l := by
  refine ⟨h.1, ?_⟩
  rcases h.2 with hn | ⟨g, cap, cur, rfl, hb, hg, rest⟩
  · exact .inl hn
  · exact .inr ⟨g, cap, cur, rfl, hb, hf.get (hs g hb) hg, rest⟩
theorem x_ln {b s t : Nat} {d : Bool} {v : Value} {l : List (Nat × Nat × Bool)} (ho : OwnLn w b v l) (hb : b ≤ w.heap.size) (hl : l.length ≤ 4096)
    (h : ∀ v' w', OwnLn w' b v' (l ++ [(s, t, d)]) → Fr (fun r => b ≤ r) w w' → K v' w') :
    X P (.buildSlice 182 1 #[(0, .agg #[.int .u32 s, .int .u32 t, .bool d])]) 182 w (fun t50 w_10 => X P (.callB .append #[182, 182] #[false, false] #[v, t50]) 182 w_10 K E) E := by
  refine x_bsA (sz := 3) (z := #[.int .u32 0, .int .u32 0, .bool false]) (by omega) rfl rfl ?_
  have ho' : OwnLn (w.alloc (.cells #[.int .u32 s, .int .u32 t, .bool d] 185 (0, 0))) b v l := ho.frame (Fr.refl (fun _ => False) w |>.alloc _) (fun _ _ => id)
  have hH : Holds (w.alloc (.cells #[.int .u32 s, .int .u32 t, .bool d] 185 (0, 0))) ⟨w.heap.size, 0, none⟩ (lnV [(s, t, d)]) := by
    have := holds_blk (w := w.alloc (.cells #[.int .u32 s, .int .u32 t, .bool d] 185 (0, 0))) (b := w.heap.size) (o := 0) (n := 3) blk_alloc_new (by simp)
    simpa [lnV] using this
  refine x_append (size := 3) (news := lnV [(s, t, d)]) ho' (by simp [lnV]) hH (by simp [lnV, Value.oneCell']) (by simp [maxLen]; omega) (by omega) (by rw [size_alloc]; omega) fun v' w' h1 h2 => ?_
  refine h v' w' ?_ ?_
  · have e : lnV l ++ lnV [(s, t, d)] = lnV (l ++ [(s, t, d)]) := by simp [lnV]
    rw [e] at h1
    simpa [OwnLn] using h1
  · refine ((Fr.refl _ w).alloc _).grown h2 fun r hr _ => ?_
    exact (World.ownsRow.lt ho' r hr).1
def linesR (S : Nat → List (Nat × Bool)) (n : Nat) : List (Nat × Nat × Bool) := (List.range n).flatMap fun k => (S k).map fun a => (k, a.1, a.2)
theorem linesR_succ {S : Nat → List (Nat × Bool)} {n : Nat} : linesR S (n + 1) = linesR S n ++ (S n).map fun a => (n, a.1, a.2) := by simp [linesR, List.range_succ]
theorem linesR_len {S : Nat → List (Nat × Bool)} (h : ∀ k, k < 256 → (S k).length ≤ 8) : ∀ {n : Nat}, n ≤ 256 → (linesR S n).length ≤ 8 * n
  | 0, _ => by simp [linesR]
  | n + 1, hn => by
    have := linesR_len h (n := n) (by omega)
    have := h n (by omega)
    rw [linesR_succ, List.length_append, List.length_map]
    omega
theorem CacheR.len {cb la lb ways : Nat} {S : Nat → List (Nat × Bool)} (h : CacheR w cb la lb ways S) : ∀ k, k < 256 → (S k).length ≤ 8 := fun k hk => by
  obtain ⟨c, _, _, _, hsets⟩ := h.row
  obtain ⟨full, many, h1, h2, h3⟩ := hsets k hk
  have := h1.le
  rw [h2, List.length_take]
  omega
theorem Lines_c {cb la lb ways : Nat} {S : Nat → List (Nat × Bool)} (h : CacheR w cb la lb ways S)
    (hK : ∀ w' v, Ext w w' → OwnLn w' w.heap.size v (linesR S (2 ^ la)) → K v w') : C P 86 #[ptr cb] w K E := by
  obtain ⟨k1, k2, k3, k4, k5⟩ := h.ok
  have hlen := h.len
  obtain ⟨c, hb, hsz, hsh, hsets⟩ := h.row
  have hlt := lt_of_blk hb
  have hA : 2 ^ la ≤ 256 := Nat.pow_le_pow_right (n := 2) (by omega) k1
  have h0 : c[0]? = some (.int .i64 (2 ^ la : Nat)) := sub_at (o := 0) (j := 0) hsh (by omega) at_0
  generalize 2 ^ la = A at *
  apply F86
  unfold S86_0
  with_reducible refine x_nil ?_; refine x_field0 ?_; refine x_field0 ?_; refine x_load1 ‹_› ‹_› ?_
  unfold S86_l3
  refine ⟨fun v3 v13 w' => ∃ k : Nat, v13 = .int .i64 k ∧ k ≤ A ∧ Ext w w' ∧ OwnLn w' w.heap.size v3 (linesR S k), fun _ v13 _ => match v13 with | .int _ k => A - k.toNat | _ => 0, ⟨0, rfl, by omega, Fr.refl _ _, OwnLn.nil⟩, ?_⟩
  rintro v3 _ w1 ⟨k, rfl, hk, e1, o1⟩
  have hb1 := e1.get hb
  have s1 := e1.size
  unfold S86_b3
  refine x_lss (fun hc => ?_) (fun hc => ?_)
  with_reducible refine Cnd.yes ?_; refine x_nil ?_; refine x_field0 ?_
  rotate_left
  with_reducible refine Cnd.no ?_
  rotate_left
  · have hkA : k < A := by omega
    obtain ⟨full, many, hset, hSk, hmw⟩ := hsets k (by omega)
    have hmany := hset.many_at
    have hfl := hset.len
    have hmle := hset.le
    have hll := linesR_len hlen (n := k) (by omega)
    refine x_idxA (by omega) ?_
    rw [show 3 + (k : Int).toNat * 17 = 3 + 17 * k by omega]
    with_reducible refine XQ.of rfl ?_; refine x_nil ?_; refine qstep ?_; refine XQ.of rfl ?_; refine x_field ?_; refine qstep ?_; refine XQ.of rfl ?_; refine x_nil ?_; refine qstep ?_; refine XQ.of rfl ?_; refine x_field ?_; refine qstep ?_; refine XQ.of rfl ?_; refine x_load1 ‹_› ‹_› ?_; refine qstep ?_; refine XQ.of rfl ?_
    refine x_sliceAh (by omega) (by omega) ?_
    with_reducible refine qstep ?_; refine XQ.of rfl ?_; refine x_lenS ?_; refine qstep ?_
    rw [Int.toNat_natCast]
    unfold S86_l7
    refine ⟨fun v3 v30 w' => ∃ j : Nat, v30 = .int .i64 j ∧ j ≤ many ∧ Ext w w' ∧ OwnLn w' w.heap.size v3 (linesR S k ++ ((S k).take j).map fun a => (k, a.1, a.2)), fun _ v30 _ => match v30 with | .int _ j => many - j.toNat | _ => 0, ⟨0, rfl, by omega, e1.drw, ?_⟩, ?_⟩
    · simpa using o1.frame (Ext.drw_self w1) (fun _ _ => id)
    rintro v3 _ w2 ⟨j, rfl, hj, e2, o2⟩
    have hb2 := e2.get hb
    have s2 := e2.size
    unfold S86_b7
    refine x_lss (fun hc => ?_) (fun hc => ?_)
    with_reducible refine Cnd.yes ?_
    rotate_left
    with_reducible refine Cnd.no ?_
    rotate_left
    · have hjm : j < many := by omega
      have ha : full[j]? = some full[j] := by simp
      refine x_idxS (by omega) ?_
      refine x_loadA hb2 (by rw [Int.toNat_natCast]; exact hset.line ha) ?_
      with_reducible refine x_alloc ?_; refine x_storeA blk_alloc_new rfl (by simp [Value.oneCell']) (lay_cons (lay_cons lay_nil)) ?_; refine x_convN (by rw [IntKind.wrap_u32]; omega) ?_; refine x_field0 ?_; refine x_load1 (by exact blk_set_same lt_alloc_new) at_0 ?_; refine x_field0 ?_; refine x_load1 (by exact blk_set_same lt_alloc_new) at_1 ?_; refine x_buildS (by apply fill_1; exact inferInstance; exact oneI; exact set_0; apply fill_1; exact inferInstance; exact oneI; apply set_S; exact set_0; rotate_left; apply fill_1; exact inferInstance; exact oneB; apply set_S; apply set_S; exact set_0; rotate_left; rotate_left; exact fill_nil; rotate_left; rotate_left; rotate_left; rotate_left; rotate_left; rotate_left) ?_
      generalize hw3 : setBlk _ _ _ = w3
      have e3 : Ext w2 w3 := by rw [← hw3]; exact ((Fr.refl _ w2).alloc _).set (fun h => by omega) _
      have b3 : w3.heap[w2.heap.size]? = some (.cells #[.int .u32 full[j].1, .bool full[j].2] 147 (0, 0)) := by rw [← hw3]; exact blk_set_same lt_alloc_new
      clear hw3
      skip
      have s3 := e3.size
      refine x_ln (b := w.heap.size) (l := linesR S k ++ ((S k).take j).map fun a => (k, a.1, a.2)) (o2.frame e3 fun _ _ => id) (by omega) (by simp; omega) fun v4 w4 o4 e4 => ?_
      with_reducible refine x_addN (by rw [IntKind.wrap_i64]; omega) ?_
      refine ⟨⟨j + 1, by congr 1, by omega, (e2.trans e3).trans' e4 fun r hr hlt => by omega, ?_⟩, by simp only; omega⟩
      have hq : (S k).take (j + 1) = (S k).take j ++ [full[j]] := by
        rw [hSk, List.take_succ_eq_append_getElem (by rw [List.length_take]; omega), List.getElem_take]
      rw [hq, List.map_append, ← List.append_assoc]
      exact o4
    · unfold S86_j11
      with_reducible refine x_addN (by rw [IntKind.wrap_i64]; omega) ?_
      refine ⟨⟨k + 1, by congr 1, by omega, e2, ?_⟩, by simp only; omega⟩
      rw [linesR_succ]
      have hq : (S k).take j = S k := List.take_of_length_le (by rw [hSk, List.length_take]; omega)
      rw [hq] at o2
      exact o2
  · unfold S86_j12
    exact hK w1 v3 e1 (by rwa [show A = k by omega])
end Go.Eng
namespace Go.Eng
open Go.Proofs Go.MapKept
variable {w : World} {K : Value → World → Prop} {E : List PanicEntry → World → Prop}
def dirtyN (l : List (Nat × Nat × Bool)) : Nat := (l.filter fun a => a.2.2).length
theorem lnV_at {l : List (Nat × Nat × Bool)} {j : Nat} (h : j < l.length) : ((lnV l).drop (3 * j)).take 3 = [.int .u32 (l[j].1 : Nat), .int .u32 (l[j].2.1 : Nat), .bool l[j].2.2] := by
  induction l generalizing j with
  | nil => simp at h
  | cons a l ih =>
    cases j with
    | zero => simp [lnV]
    | succ j =>
      have := ih (j := j) (by simpa using h)
      simp only [lnV, List.flatMap_cons, List.getElem_cons_succ] at this ⊢
      rw [List.drop_append, List.drop_of_length_le (by simp; omega), List.nil_append]
      rw [show 3 * (j + 1) - [Value.int .u32 (a.1 : Nat), .int .u32 (a.2.1 : Nat), .bool a.2.2].length = 3 * j by simp; omega]
      exact this
theorem own_len {base e size n : Nat} {v : Value} {xs : List Value} (h : w.ownsRow base e size v n xs) : ∃ a cap, v = .slice a n cap := by
  rcases h.2 with ⟨rfl, rfl⟩ | ⟨g, cap, cur, rfl, _⟩
  · exact ⟨_, _, rfl⟩
  · exact ⟨_, _, rfl⟩
theorem own_at {base e size n cap : Nat} {a : Option Addr} {xs : List Value} (h : w.ownsRow base e size (.slice a n cap) n xs) (hn : 0 < n) :
    ∃ g cur, a = some ⟨g, 0, none⟩ ∧ base ≤ g ∧ w.heap[g]? = some (.cells cur e (0, 0)) ∧ n * size ≤ cur.size ∧ cur.toList.take (n * size) = xs ∧ n ≤ cap := by
  rcases h.2 with ⟨_, rfl⟩ | ⟨g, cap', cur, hv, hb, hg, hc, _, hs, ht⟩
  · omega
  · simp only [Value.slice.injEq] at hv
    obtain ⟨rfl, _, rfl⟩ := hv
    exact ⟨g, cur, rfl, hb, hg, by rw [hs]; exact Nat.mul_le_mul_right _ hc, ht, hc⟩
theorem sub_of_take {cur : Array Value} {N o k : Nat} {xs vs : List Value} (hN : N ≤ cur.size) (ht : cur.toList.take N = xs) (ho : o + k ≤ N) (hv : (xs.drop o).take k = vs) : SubAt cur o k vs.toArray := by
  refine ⟨by omega, ?_⟩
  apply Array.ext'
  rw [Array.toList_extract, List.extract_eq_drop_take, ← hv, ← ht, List.drop_take, List.take_take]
  rw [show min k (N - o) = k by omega, show o + k - o = k by omega]
theorem Dirty_c {cb la lb ways : Nat} {S : Nat → List (Nat × Bool)} (h : CacheR w cb la lb ways S)
    (hK : ∀ w', Ext w w' → K (.int .i64 (dirtyN (linesR S (2 ^ la)) : Nat)) w') : C P 64 #[ptr cb] w K E := by
  apply F64
  unfold S64_0
  refine x_callF (Lines_c h fun w1 v e1 o1 => ?_)
  have hA : 2 ^ la ≤ 256 := Nat.pow_le_pow_right (n := 2) (by omega) h.ok.1
  have hll := linesR_len h.len hA
  generalize linesR S (2 ^ la) = l at *
  obtain ⟨a, cap, rfl⟩ := own_len o1
  with_reducible refine x_lenS ?_
  unfold S64_l3
  refine ⟨fun v3 v9 w' => ∃ j : Nat, v3 = .int .i64 (dirtyN (l.take j) : Nat) ∧ v9 = .int .i64 j ∧ j ≤ l.length ∧ Ext w1 w', fun _ v9 _ => match v9 with | .int _ j => l.length - j.toNat | _ => 0, ⟨0, by simp [dirtyN], rfl, by omega, Fr.refl _ _⟩, ?_⟩
  rintro _ _ w2 ⟨j, rfl, rfl, hj, e2⟩
  have hdl : dirtyN (l.take j) ≤ j := by
    have := List.length_filter_le (fun a : Nat × Nat × Bool => a.2.2) (l.take j)
    rw [List.length_take] at this
    simp only [dirtyN]; omega
  unfold S64_b3
  refine x_lss (fun hc => ?_) (fun hc => ?_)
  with_reducible refine Cnd.yes ?_
  rotate_left
  with_reducible refine Cnd.no ?_
  rotate_left
  · have hjl : j < l.length := by omega
    obtain ⟨g, cur, rfl, hg, hb, hsz, ht, hcap⟩ := own_at o1 (by omega)
    have hb2 := e2.get hb
    refine x_idxS (by omega) ?_
    have hsub := sub_of_take (o := 3 * j) (k := 3) hsz ht (by omega) (lnV_at hjl)
    rw [show 0 + (j : Int).toNat * 3 = 3 * j by omega]
    refine x_loadA hb2 hsub ?_
    with_reducible refine x_alloc ?_; refine x_storeA blk_alloc_new rfl (by simp [Value.oneCell']) (lay_cons (lay_cons (lay_cons lay_nil))) ?_; refine x_field0 ?_; refine x_load1 (by exact blk_set_same lt_alloc_new) at_2 ?_
    generalize hw3 : setBlk _ _ _ = w3
    have e3 : Ext w2 w3 := by rw [← hw3]; exact ((Fr.refl _ w2).alloc _).set (fun h => by omega) _
    clear hw3
    have hstep : dirtyN (l.take (j + 1)) = dirtyN (l.take j) + if l[j].2.2 then 1 else 0 := by
      rw [List.take_succ_eq_append_getElem hjl]
      simp only [dirtyN, List.filter_append, List.length_append]
      congr 1
      by_cases hq : l[j].2.2 = true <;> simp [hq]
    cases hd : l[j].2.2 with
    | true =>
      rw [hd] at hstep
      with_reducible refine Cnd.yes ?_; refine x_addN (by rw [IntKind.wrap_i64]; omega) ?_
      unfold S64_j7
      with_reducible refine x_addN (by rw [IntKind.wrap_i64]; omega) ?_
      refine ⟨⟨j + 1, ?_, by congr 1, by omega, e2.trans e3⟩, by simp only; omega⟩
      rw [hstep]; congr 1
    | false =>
      rw [hd] at hstep
      with_reducible refine Cnd.no ?_
      unfold S64_j7
      with_reducible refine x_addN (by rw [IntKind.wrap_i64]; omega) ?_
      refine ⟨⟨j + 1, ?_, by congr 1, by omega, e2.trans e3⟩, by simp only; omega⟩
      rw [hstep]; congr 1
  · unfold S64_j8
    have := hK w2 (e1.trans e2)
    rwa [show l.take j = l from List.take_of_length_le (by omega)]
theorem cacheFlush_c {cb la lb ways : Nat} {S : Nat → List (Nat × Bool)} (h : CacheR w cb la lb ways S)
    (hK : ∀ w', Fr (fun r => r = cb) w w' → CacheR w' cb la lb ways (fun _ => []) → K (.tuple #[.int .i64 (2 ^ la + 8 * dirtyN (linesR S (2 ^ la)) : Nat), .int .i64 (dirtyN (linesR S (2 ^ la)) : Nat)]) w') : C P 33 #[ptr cb] w K E := by
  apply F33
  unfold S33_0
  have hA : 2 ^ la ≤ 256 := Nat.pow_le_pow_right (n := 2) (by omega) h.ok.1
  have hll := linesR_len h.len hA
  have hdl : dirtyN (linesR S (2 ^ la)) ≤ (linesR S (2 ^ la)).length := List.length_filter_le _ _
  refine x_callF (Dirty_c h fun w1 e1 => ?_)
  have hok := h.ok
  obtain ⟨c, hb, hsz, hsh, hsets⟩ := h.row
  have hb1 := e1.get hb
  have hlt := lt_of_blk hb
  generalize dirtyN (linesR S (2 ^ la)) = n at *
  refine x_buildR (fill_nil) ?_
  refine x_nil ?_
  refine x_field0 ?_
  refine x_storeA hb1 (by simp [setsZ_len]) (by simpa using setsZ_one) (lay_any (by simp [setsZ_len, hsz])) ?_
  have hh0 : (lay c 3 setsZ)[0]? = some (.int .i64 (2 ^ la : Nat)) := by
    rw [lay_out (by rw [setsZ_len]; omega) (by omega)]
    exact sub_at (o := 0) (j := 0) hsh (by omega) at_0
  have hfin : (lay c 3 setsZ).toList = [.int .i64 (2 ^ la : Nat), .int .i64 ways, .int .i64 (2 ^ lb : Nat)] ++ setsZ := by
    have h3 : c.toList.take 3 = [.int .i64 (2 ^ la : Nat), .int .i64 ways, .int .i64 (2 ^ lb : Nat)] := by
      have := congrArg Array.toList hsh.2
      rw [Array.toList_extract, List.extract_eq_drop_take] at this
      simpa using this.symm
    simp only [lay]
    rw [h3, List.drop_of_length_le (by rw [setsZ_len, Array.length_toList]; omega), List.append_nil]
  generalize hw2 : setBlk _ _ _ = w2
  have e2 : Fr (fun r => r = cb) w1 w2 := by rw [← hw2]; exact Fr.set1 (Fr.refl _ _)
  have hb2 : w2.heap[cb]? = some (.cells (lay c 3 setsZ) 153 (0, 0)) := by rw [← hw2]; exact blk_set_same (lt_of_blk hb1)
  clear hw2
  have cz := cache_zero hok hb2 hfin
  have fin := hK w2 ((Fr.of_ext e1).trans e2) cz
  generalize 2 ^ la = A at *
  with_reducible refine x_nil ?_; refine x_field0 ?_; refine x_field0 ?_; refine x_load1 ‹_› ‹_› ?_; refine x_mulN (by rw [IntKind.wrap_i64]; omega) ?_; refine x_mulN (by rw [IntKind.wrap_i64]; omega) ?_; refine x_addN (by rw [IntKind.wrap_i64]; omega) ?_
  rw [show (A : Int) * 1 + (n : Int) * 8 = ((A + 8 * n : Nat) : Int) by omega]
  exact fin
end Go.Eng
namespace Go.Eng
open Go.Proofs Go.MapKept
variable {w : World} {K : Value → World → Prop} {E : List PanicEntry → World → Prop}
structure MS where
  n : Nat
  M : Nat → Nat
  slots : Nat
  now : Nat
  L : List TE
  la : Nat
  lb : Nat
  ways : Nat
  S : Nat → List (Nat × Bool)
structure Sys (w : World) (m c t tb : Nat) (s : MS) (FM : Nat → Prop) : Prop where
  mem : Mem w m s.n s.M FM
  tlb : TlbR w t tb s.slots s.now s.L
  ca : CacheR w c s.la s.lb s.ways s.S
  glob : Glob w
  te : ∀ e ∈ s.L, e.frame < 4294967296 ∧ e.perm < 256
  fm : ¬ FM t ∧ ¬ FM tb ∧ ¬ FM c ∧ ¬ FM 1
  ne : t ≠ tb ∧ t ≠ c ∧ tb ≠ c ∧ t ≠ 1 ∧ tb ≠ 1 ∧ c ≠ 1
structure MmuB (w : World) (u m c t rb : Nat) (roots : Int → Option Nat) : Prop where
  blk : w.heap[u]? = some (.cells #[ptr m, ptr c, ptr t, .map (some rb)] 85 (0, 0))
  map : ∃ es ck f, w.heap[rb]? = some (.map es ck) ∧ MapOf es ck (IsKey (.int .i64)) f ∧ ∀ k, f (.int .i64 k) = (roots k).map fun r => .int .u32 (r : Nat)
  lt : ∀ k r, roots k = some r → r < 4294967296
structure Mm (w : World) (u m c t tb rb : Nat) (s : MS) (roots : Int → Option Nat) (FM : Nat → Prop) : Prop where
  sys : Sys w m c t tb s FM
  mmu : MmuB w u m c t rb roots
  fm : ¬ FM u ∧ ¬ FM rb
  ne : u ≠ c ∧ u ≠ t ∧ u ≠ tb ∧ rb ≠ c ∧ rb ≠ t ∧ rb ≠ tb ∧ u ≠ rb
theorem TlbR.lt {t tb slots now : Nat} {L : List TE} (h : TlbR w t tb slots now L) : t < w.heap.size ∧ tb < w.heap.size := by
  obtain ⟨es, ck, f, k1, _⟩ := h.map
  exact ⟨lt_of_blk h.blk, lt_of_blk k1⟩
theorem MmuB.frame {w' : World} {u m c t rb : Nat} {roots : Int → Option Nat} {Q : Nat → Prop} (h : MmuB w u m c t rb roots) (hf : Fr Q w w') (h1 : ¬ Q u) (h2 : ¬ Q rb) : MmuB w' u m c t rb roots := by
  obtain ⟨es, ck, f, k1, k2⟩ := h.map
  exact ⟨hf.get h1 h.blk, ⟨es, ck, f, hf.get h2 k1, k2⟩, h.lt⟩
theorem Sys.frame {w' : World} {m c t tb : Nat} {s : MS} {FM Q : Nat → Prop} (h : Sys w m c t tb s FM) (hf : Fr Q w w') (hq : ∀ r, FM r ∨ r = c ∨ r = t ∨ r = tb ∨ r = 1 → ¬ Q r) : Sys w' m c t tb s FM :=
  ⟨h.mem.frame hf fun r hr => hq r (.inl hr), h.tlb.frame hf (hq t (by simp)) (hq tb (by simp)), h.ca.frame hf (hq c (by simp)), h.glob.fr hf (hq 1 (by simp)), h.te, h.fm, h.ne⟩
theorem Mm.frame {w' : World} {u m c t tb rb : Nat} {s : MS} {roots : Int → Option Nat} {FM Q : Nat → Prop} (h : Mm w u m c t tb rb s roots FM) (hf : Fr Q w w') (hq : ∀ r, FM r ∨ r = c ∨ r = t ∨ r = tb ∨ r = 1 ∨ r = u ∨ r = rb → ¬ Q r) : Mm w' u m c t tb rb s roots FM :=
  ⟨h.sys.frame hf fun r hr => hq r (by rcases hr with hr | hr | hr | hr | hr <;> simp [hr]), h.mmu.frame hf (hq u (by simp)) (hq rb (by simp)), h.fm, h.ne⟩
theorem Sys.ext {w' : World} {m c t tb : Nat} {s : MS} {FM : Nat → Prop} (h : Sys w m c t tb s FM) (hf : Ext w w') : Sys w' m c t tb s FM := h.frame hf fun _ _ => id
theorem Mm.ext {w' : World} {u m c t tb rb : Nat} {s : MS} {roots : Int → Option Nat} {FM : Nat → Prop} (h : Mm w u m c t tb rb s roots FM) (hf : Ext w w') : Mm w' u m c t tb rb s roots FM := h.frame hf fun _ _ => id
def TC (c t tb : Nat) (r : Nat) : Prop := r = c ∨ r = t ∨ r = tb
def knownR (n f p at_ : Nat) (a : Int) : Nat × Int := if allows p a = false then (0, 5) else if n ≤ f then (0, 2) else (4096 * f + at_ % 4096, 0)
theorem known_c {u m c t rb n fr pe at_ : Nat} {a : Int} {roots : Int → Option Nat} {M : Nat → Nat} {F : Nat → Prop} (hu : MmuB w u m c t rb roots) (hm : Mem w m n M F) (hf : fr < 4294967296) (hp : pe < 256) (hv : at_ < 4294967296) (ha : -9223372036854775808 ≤ a ∧ a ≤ 9223372036854775807)
   (h : ∀ w', Ext w w' → K (.tuple #[.int .u32 (knownR n fr pe at_ a).1, .int .i64 0, .int .i64 (knownR n fr pe at_ a).2]) w') : C P 88 #[ptr u, .agg #[.int .u32 fr, .int .u8 pe], .int .u32 at_, .int .i64 a] w K E := by
  have hub := hu.blk
  have hn : 1 ≤ n ∧ n ≤ 4096 := by obtain ⟨mb, f, hm⟩ := hm; exact hm.hn
  apply F88
  unfold S88_0
  with_reducible refine x_boxA ?_; refine x_field0 ?_; refine x_load1 blk_alloc_new at_1 ?_
  refine x_callF (Allows_c hp ha fun w1 e1 => ?_)
  have e1' : Ext w w1 := ((Fr.refl _ w).alloc (.cells #[.int .u32 fr, .int .u8 pe] 188 (0, 0))).trans e1
  have b1 := e1.get (blk_alloc_new (w := w) (o := .cells #[.int .u32 fr, .int .u8 pe] 188 (0, 0)))
  have hub1 := e1'.get hub
  have hm1 := hm.ext e1'
  cases hal : allows pe a with
  | false =>
    with_reducible refine x_notF ?_; refine Cnd.yes ?_
    have := h w1 e1'
    simpa [knownR, hal] using this
  | true =>
    with_reducible refine x_notT ?_; refine Cnd.no ?_; refine XQ.of rfl ?_; refine x_field0 ?_; refine qstep ?_; refine XQ.of rfl ?_; refine x_load1 ‹_› at_0 ?_; refine qstep ?_; refine XQ.of rfl ?_; refine x_convN (by rw [wrap_u64]; omega) ?_; refine qstep ?_; refine XQ.of rfl ?_; refine x_nil ?_; refine qstep ?_; refine XQ.of rfl ?_; refine x_field0 ?_; refine qstep ?_; refine XQ.of rfl ?_; refine x_load1 ‹_› at_0 ?_; refine qstep ?_
    refine x_callF (pages_c (hm1.ext (Ext.drw_self w1)) ?_)
    with_reducible refine And.intro ?_ ?_; refine XQ.of rfl ?_; refine x_convN (by rw [wrap_u64]; omega) ?_; refine qstep ?_; exact rfl; refine And.intro ?_ ?_; refine XQ.of rfl ?_; refine x_load1 ‹_› at_0 ?_; refine qstep ?_; exact rfl; refine And.intro ?_ ?_; refine XQ.of rfl ?_; refine x_field0 ?_; refine qstep ?_; exact rfl; refine XQ.of rfl ?_; refine x_convN (by rw [wrap_u64]; omega) ?_; refine qstep ?_; refine XQ.of rfl ?_
    refine x_geq (fun hc => ?_) (fun hc => ?_)
    with_reducible refine qstep ?_; refine Cnd.yes ?_
    rotate_left
    with_reducible refine qstep ?_; refine Cnd.no ?_; refine x_field0 ?_; refine x_load1 ‹_› at_0 ?_; refine x_mulN (by rw [IntKind.wrap_u32]; omega) ?_; refine x_remN (by omega) (by omega) ?_; refine x_addN (by rw [IntKind.wrap_u32]; omega) ?_
    rotate_left
    all_goals
      have := h _ e1'.drw
      simp only [knownR, hal] at this
    · rw [if_neg (by simp), if_pos (by omega)] at this
      exact this
    · rw [if_neg (by simp), if_neg (by omega)] at this
      rw [show (4096 * fr + at_ % 4096 : Nat) = (fr : Int) * 4096 + (at_ : Int).tmod 4096 by rw [Int.tmod_eq_emod_of_nonneg (by omega)]; omega] at this
      exact this
def fitsR (at_ : Nat) (size : Int) : Bool := decide ((size = 1 ∨ size = 2 ∨ size = 4) ∧ (at_ : Int) % size = 0)
theorem fits_c {at_ : Nat} {size : Int} (hv : at_ < 4294967296) (hl : -9223372036854775808 ≤ size ∧ size ≤ 9223372036854775807) (h : K (.bool (fitsR at_ size)) w) : C P 70 #[.int .u32 at_, .int .i64 size] w K E := by
  apply F70
  unfold S70_0
  unfold fitsR at h
  refine x_eql (fun hc => ?_) (fun hc => ?_)
  with_reducible refine XG.no (by decide) ?_; refine XG.no (by decide) ?_; refine x_pickT ?_; refine XG.no (by decide) ?_; refine XG.no (by decide) ?_; refine x_pickT ?_; refine XG.yes ?_; refine x_val ?_; refine XG.yes ?_; refine x_val ?_; refine XG.yes ?_; refine x_convN (by rw [IntKind.wrap_u32]; omega) ?_; refine XG.yes ?_; refine x_remN (by omega) (by omega) ?_; refine XG.yes ?_
  refine x_eql (fun hc => ?_) (fun hc => ?_)
  with_reducible refine x_pickT ?_
  rotate_left
  with_reducible refine x_pickT ?_
  rotate_left
  with_reducible refine XG.yes ?_; refine x_val ?_; refine XG.yes ?_
  refine x_eql (fun hc => ?_) (fun hc => ?_)
  with_reducible refine x_pickF ?_; refine XG.no (by decide) ?_; refine XG.no (by decide) ?_; refine x_pickT ?_; refine XG.yes ?_; refine x_val ?_; refine XG.yes ?_; refine x_val ?_; refine XG.yes ?_; refine x_convN (by rw [IntKind.wrap_u32]; omega) ?_; refine XG.yes ?_; refine x_remN (by omega) (by omega) ?_; refine XG.yes ?_
  refine x_eql (fun hc => ?_) (fun hc => ?_)
  with_reducible refine x_pickT ?_
  rotate_left
  with_reducible refine x_pickT ?_
  rotate_left
  with_reducible refine x_pickF ?_; refine XG.yes ?_; refine x_val ?_; refine XG.yes ?_
  refine x_eql (fun hc => ?_) (fun hc => ?_)
  with_reducible refine x_pickF ?_; refine XG.yes ?_; refine x_val ?_; refine XG.yes ?_; refine x_val ?_; refine XG.yes ?_; refine x_convN (by rw [IntKind.wrap_u32]; omega) ?_; refine XG.yes ?_; refine x_remN (by omega) (by omega) ?_; refine XG.yes ?_
  refine x_eql (fun hc => ?_) (fun hc => ?_)
  with_reducible refine x_pickT ?_
  rotate_left
  with_reducible refine x_pickT ?_
  rotate_left
  with_reducible refine x_pickF ?_; refine XG.no (by decide) ?_; refine XG.no (by decide) ?_; refine XG.no (by decide) ?_; refine XG.no (by decide) ?_; refine XG.no (by decide) ?_; refine x_pickF ?_
  rotate_left
  all_goals
    first
      | (rw [decide_eq_true (by subst_vars; omega)] at h; exact h)
      | (rw [decide_eq_false (by subst_vars; omega)] at h; exact h)
def msgR (at_ : Nat) (n : Int) : Bool := decide (0 ≤ n ∧ n ≤ 256 ∧ n % 4 = 0 ∧ at_ % 4 = 0)
theorem message_c {at_ : Nat} {n : Int} (hv : at_ < 4294967296) (hl : -9223372036854775808 ≤ n ∧ n ≤ 9223372036854775807) (h : K (.bool (msgR at_ n)) w) : C P 98 #[.int .u32 at_, .int .i64 n] w K E := by
  apply F98
  unfold S98_0
  unfold msgR at h
  refine x_geq (fun hc => ?_) (fun hc => ?_)
  with_reducible refine XG.yes ?_; refine x_val ?_; refine XG.yes ?_
  refine x_leq (fun hc => ?_) (fun hc => ?_)
  with_reducible refine x_pickT ?_; refine XG.yes ?_; refine x_val ?_; refine XG.yes ?_; refine x_remN (by omega) (by omega) ?_; refine XG.yes ?_
  refine x_eql (fun hc => ?_) (fun hc => ?_)
  with_reducible refine x_pickT ?_; refine XG.yes ?_; refine x_val ?_; refine XG.yes ?_; refine x_remN (by omega) (by omega) ?_; refine XG.yes ?_
  refine x_eql (fun hc => ?_) (fun hc => ?_)
  with_reducible refine x_pickT ?_
  rotate_left
  with_reducible refine x_pickT ?_
  rotate_left
  with_reducible refine x_pickT ?_; refine XG.no (by decide) ?_; refine XG.no (by decide) ?_; refine XG.no (by decide) ?_; refine x_pickF ?_
  rotate_left
  with_reducible refine x_pickT ?_; refine XG.no (by decide) ?_; refine XG.no (by decide) ?_; refine XG.no (by decide) ?_; refine x_pickF ?_; refine XG.no (by decide) ?_; refine XG.no (by decide) ?_; refine XG.no (by decide) ?_; refine x_pickF ?_
  rotate_left
  with_reducible refine XG.no (by decide) ?_; refine XG.no (by decide) ?_; refine x_pickF ?_; refine XG.no (by decide) ?_; refine XG.no (by decide) ?_; refine XG.no (by decide) ?_; refine x_pickF ?_; refine XG.no (by decide) ?_; refine XG.no (by decide) ?_; refine XG.no (by decide) ?_; refine x_pickF ?_
  rotate_left
  all_goals
    first
      | (rw [decide_eq_true (by omega)] at h; exact h)
      | (rw [decide_eq_false (by omega)] at h; exact h)
end Go.Eng
namespace Go.Eng
open Go.Proofs Go.MapKept
variable {w : World} {K : Value → World → Prop} {E : List PanicEntry → World → Prop}
def accS (s : MS) (addr : Nat) (wr : Bool) : Nat × MS :=
  let r := acc s.ways (s.S (addr / 2 ^ s.lb % 2 ^ s.la)) (addr / 2 ^ s.lb / 2 ^ s.la) wr
  (r.1.2.2, { s with S := setS s.S (addr / 2 ^ s.lb % 2 ^ s.la) r.2 })
def accAll (s : MS) : List Nat → Nat × MS
  | [] => (0, s)
  | a :: l => let r := accS s a false; let q := accAll r.2 l; (r.1 + q.1, q.2)
theorem accAll_append {a : Nat} : ∀ (l : List Nat) (s : MS), accAll s (l ++ [a]) = ((accAll s l).1 + (accS (accAll s l).2 a false).1, (accS (accAll s l).2 a false).2)
  | [], s => by simp [accAll]
  | b :: l, s => by simp only [List.cons_append, accAll]; rw [accAll_append l]; simp [Nat.add_assoc]
theorem acc_cy {ways : Nat} {l : List (Nat × Bool)} {t : Nat} {wr : Bool} : (acc ways l t wr).1.2.2 ≤ 20 := by
  unfold acc
  split
  · simp
  · split
    · simp only; split <;> simp
    · simp
theorem accS_cy {s : MS} {a : Nat} {wr : Bool} : (accS s a wr).1 ≤ 20 := acc_cy
theorem accAll_cy : ∀ (l : List Nat) (s : MS), (accAll s l).1 ≤ 20 * l.length
  | [], s => by simp [accAll]
  | a :: l, s => by
    have := accAll_cy l (accS s a false).2
    have := accS_cy (s := s) (a := a) (wr := false)
    simp only [accAll, List.length_cons]
    omega
def sameBut (s s' : MS) : Prop := s'.n = s.n ∧ s'.M = s.M ∧ s'.slots = s.slots ∧ s'.now = s.now ∧ s'.L = s.L ∧ s'.la = s.la ∧ s'.lb = s.lb ∧ s'.ways = s.ways
theorem accS_same {s : MS} {a : Nat} {wr : Bool} : sameBut s (accS s a wr).2 := ⟨rfl, rfl, rfl, rfl, rfl, rfl, rfl, rfl⟩
theorem accAll_same : ∀ (l : List Nat) (s : MS), sameBut s (accAll s l).2
  | [], s => ⟨rfl, rfl, rfl, rfl, rfl, rfl, rfl, rfl⟩
  | a :: l, s => by
    obtain ⟨h1, h2, h3, h4, h5, h6, h7, h8⟩ := accAll_same l (accS s a false).2
    exact ⟨h1, h2, h3, h4, h5, h6, h7, h8⟩
def lastE (l : List (Nat × Nat)) : Int × Nat × Nat := match l.getLast? with
  | none => (0, 0, 0)
  | some s => ((decR s.2).1, (decR s.2).2.1, (decR s.2).2.2.1)
theorem lastE_app {l : List (Nat × Nat)} {s : Nat × Nat} : lastE (l ++ [s]) = ((decR s.2).1, (decR s.2).2.1, (decR s.2).2.2.1) := by simp [lastE]
theorem decR_f' {v : Nat} : (decR v).2.2.1 ≤ 4095 := by
  simp only [decR]
  split
  · simp
  · split
    · simp
    · split
      · simp
      · rename_i h2
        have : (encR (kindOf v) (v / 2 % 8) (v / 4096)).2 = 0 := by simpa using h2
        exact (encR_ok this).1
theorem lastE_lt {l : List (Nat × Nat)} : (lastE l).2.2 ≤ 4095 ∧ (lastE l).2.1 < 256 := by
  unfold lastE
  split
  · simp
  · exact ⟨decR_f', decR_p⟩
def putT (s : MS) (c : Int) (pg fr pe : Nat) : MS :=
  { s with now := s.now + 1, L := ⟨c, pg, fr, pe, s.now + 1⟩ :: (if s.L.any (·.is c pg) ∨ s.L.length < s.slots then rm s.L c pg else s.L.dropLast) }
def useT (s : MS) (c : Int) (pg fr pe : Nat) : MS := { s with now := s.now + 1, L := ⟨c, pg, fr, pe, s.now + 1⟩ :: rm s.L c pg }
def trR (s : MS) (roots : Int → Option Nat) (cell : Int) (at_ : Nat) (a : Int) : (Nat × Nat × Int) × MS :=
  match roots cell with
  | none => ((0, 0, 3), s)
  | some root =>
    match s.L.find? (·.is cell (at_ / 4096)) with
    | some e => (((knownR s.n e.frame e.perm at_ a).1, 0, (knownR s.n e.frame e.perm at_ a).2), useT s cell (at_ / 4096) e.frame e.perm)
    | none =>
      let r := walkR s.M s.n root at_ a
      let q := accAll s (r.2.1.map (·.1))
      if r.2.2 ≠ 0 then ((0, q.1, r.2.2), q.2) else ((r.1, q.1, 0), putT q.2 cell (at_ / 4096) (lastE r.2.1).2.2 (lastE r.2.1).2.1)
theorem wd_le {M : Nat → Nat} {n a v : Nat} (h : wd M n a = some v) : a ≤ 4294967292 := by
  unfold wd at h
  split at h
  · assumption
  · cases h
theorem walk2_mem {M : Nat → Nat} {n va f0 : Nat} {a : Int} {s0 : Nat × Nat} (hM : ∀ x, M x < 256) (h0 : s0.1 < 4294967296 ∧ s0.2 < 4294967296) :
    (∀ s ∈ (walk2 M n va a s0 f0).2.1, s.1 < 4294967296 ∧ s.2 < 4294967296) ∧ (walk2 M n va a s0 f0).2.1.length ≤ 2 := by
  unfold walk2
  split
  · simp [h0]
  · rename_i w1 hw
    have hw1 := wd_lt hM hw
    have hw2 := wd_le hw
    simp only
    repeat' split
    all_goals
      refine ⟨fun s hs => ?_, by simp⟩
      rcases List.mem_cons.1 hs with rfl | hs
      · exact h0
      · rw [List.mem_singleton.1 hs]; exact ⟨by simp only; omega, hw1⟩
theorem walkR_mem {M : Nat → Nat} {n root va : Nat} {a : Int} (hM : ∀ x, M x < 256) :
    (∀ s ∈ (walkR M n root va a).2.1, s.1 < 4294967296 ∧ s.2 < 4294967296) ∧ (walkR M n root va a).2.1.length ≤ 2 := by
  unfold walkR
  split
  · simp
  · rename_i w0 hw
    have hw1 := wd_lt hM hw
    have hw2 := wd_le hw
    have h0 : root + 4 * (va / 4096 / 1024) < 4294967296 ∧ w0 < 4294967296 := ⟨by omega, hw1⟩
    simp only
    repeat' split
    · simp [h0]
    · simp [h0]
    · simp [h0]
    · exact walk2_mem hM h0
theorem stepsV_at {l : List (Nat × Nat)} {j : Nat} (h : j < l.length) : ((stepsV l).drop (2 * j)).take 2 = [.int .u32 (l[j].1 : Nat), .int .u32 (l[j].2 : Nat)] := by
  induction l generalizing j with
  | nil => simp at h
  | cons a l ih =>
    cases j with
    | zero => simp [stepsV]
    | succ j =>
      have := ih (j := j) (by simpa using h)
      simp only [stepsV, List.flatMap_cons, List.getElem_cons_succ] at this ⊢
      rw [List.drop_append, List.drop_of_length_le (by simp; omega), List.nil_append]
      rw [show 2 * (j + 1) - [Value.int .u32 (a.1 : Nat), .int .u32 (a.2 : Nat)].length = 2 * j by simp; omega]
      exact this
theorem Mem.bytes_lt {m n : Nat} {M : Nat → Nat} {F : Nat → Prop} (h : Mem w m n M F) : ∀ a, M a < 256 := by obtain ⟨mb, f, h⟩ := h; exact h.lt
theorem mm_acc {u m c t tb rb addr : Nat} {wr : Bool} {s : MS} {roots : Int → Option Nat} {FM : Nat → Prop} (h : Mm w u m c t tb rb s roots FM) (hv : addr < 4294967296)
   (hK : ∀ w' hit back, Fr (fun r => r = c) w w' → Mm w' u m c t tb rb (accS s addr wr).2 roots FM → K (.agg #[.bool hit, .bool back, .int .i64 ((accS s addr wr).1 : Nat)]) w') :
   C P 72 #[ptr c, .int .u32 addr, .bool wr] w K E := by
  obtain ⟨f1, f2, f3, f4⟩ := h.sys.fm
  obtain ⟨n1, n2, n3, n4, n5, n6⟩ := h.sys.ne
  obtain ⟨q1, q2, q3, q4, q5, q6, q7⟩ := h.ne
  refine Access_c h.sys.ca h.sys.glob hv fun w' hit back cy l hf ha hc => ?_
  have e1 : (accS s addr wr).1 = cy := by simp only [accS]; rw [ha]
  have e2 : (accS s addr wr).2 = { s with S := setS s.S (addr / 2 ^ s.lb % 2 ^ s.la) l } := by simp only [accS]; rw [ha]
  have := hK w' hit back hf (by
    rw [e2]
    exact ⟨⟨h.sys.mem.frame hf fun r hr he => f3 (he ▸ hr), h.sys.tlb.frame hf n2 n3, hc, h.sys.glob.fr hf (Ne.symm n6), h.sys.te, h.sys.fm, h.sys.ne⟩, h.mmu.frame hf q1 q4, h.fm, h.ne⟩)
  rw [e1] at this
  exact this
end Go.Eng
namespace Go.Eng
open Go.Proofs Go.MapKept
variable {w : World} {K : Value → World → Prop} {E : List PanicEntry → World → Prop}
theorem fv166 : ∃ fs fd d, P.underlying 166 = some (.struct fs) ∧ fs[2]? = some fd ∧ P.underlying fd.type = some d ∧ aggB d = false ∧ fd.offset = 2 := ⟨_, _, _, Tryz.underlying166, rfl, Tryz.underlying3, rfl, rfl⟩
theorem tr_loop {u m c t tb rb b13 b20 base to : Nat} {fault : Int} {s : MS} {roots : Int → Option Nat} {FM : Nat → Prop} {sv : Value} {l : List (Nat × Nat)} (h : Mm w u m c t tb rb s roots FM)
   (ho : OwnSteps w base sv l) (hm : ∀ x ∈ l, x.1 < 4294967296 ∧ x.2 < 4294967296) (hl : l.length ≤ 2)
   (hb : w.heap[b20]? = some (.cells #[.int .i64 0, .int .u8 0, .int .u32 0] 129 (0, 0)))
   (hbase : ∀ r, FM r ∨ r = c ∨ r = t ∨ r = tb ∨ r = 1 ∨ r = u ∨ r = rb → r < base) (h20 : base ≤ b20) (hg20 : ∀ g n k, sv = .slice (some ⟨g, 0, none⟩) n k → g < b20)
   (hK : ∀ w' e0, Fr (fun r => r = c ∨ r = b20) w w' → Mm w' u m c t tb rb (accAll s (l.map (·.1))).2 roots FM → w'.heap[b20]? = some (.cells #[.int .i64 e0, .int .u8 (lastE l).2.1, .int .u32 (lastE l).2.2] 129 (0, 0)) →
     S71_j17 (ptr u) (ptr b13) (.int .u32 to) (.int .i64 fault) (.int .i64 ((accAll s (l.map (·.1))).1 : Nat)) (ptr b20) w' K E) :
   S71_l12 (ptr u) (ptr b13) (.int .u32 to) (.int .i64 fault) (.int .i64 0) (ptr b20) sv (.int .i64 l.length) (.int .i64 0) w (fun x0 x13 x16 x18 x19 x20 y => S71_j17 x0 x13 x16 x18 x19 x20 y K E) E := by
  have hq : ∀ r, FM r ∨ r = c ∨ r = t ∨ r = tb ∨ r = 1 ∨ r = u ∨ r = rb → r ≠ b20 := fun r hr => by have := hbase r hr; omega
  have hcb := hbase c (by simp)
  have hub := hbase u (by simp)
  have hlt20 := lt_of_blk hb
  unfold S71_l12
  refine ⟨fun v19 v70 w' => ∃ (j : Nat) (e0 : Int), v19 = .int .i64 ((accAll s ((l.take j).map (·.1))).1 : Nat) ∧ v70 = .int .i64 j ∧ j ≤ l.length ∧ Fr (fun r => r = c ∨ r = b20) w w' ∧ Mm w' u m c t tb rb (accAll s ((l.take j).map (·.1))).2 roots FM ∧
      w'.heap[b20]? = some (.cells #[.int .i64 e0, .int .u8 (lastE (l.take j)).2.1, .int .u32 (lastE (l.take j)).2.2] 129 (0, 0)), fun _ v70 _ => match v70 with | .int _ j => l.length - j.toNat | _ => 0, ⟨0, 0, rfl, rfl, by omega, Fr.refl _ _, h, hb⟩, ?_⟩
  rintro _ _ w1 ⟨j, e0, rfl, rfl, hj, e1, h1, hb1⟩
  have hcy := accAll_cy ((l.take j).map (·.1)) s
  have hub1 := h1.mmu.blk
  unfold S71_b12
  refine x_lss (fun hc => ?_) (fun hc => ?_)
  with_reducible refine Cnd.yes ?_
  rotate_left
  with_reducible refine Cnd.no ?_
  rotate_left
  · have hjl : j < l.length := by omega
    obtain ⟨a, cap, rfl⟩ := own_len ho
    obtain ⟨g, cur, rfl, hg, hgb, hgs, ht, hcap⟩ := own_at ho (by omega)
    have hgl := hg20 g _ _ rfl
    have hgb1 := e1.get (show ¬ (g = c ∨ g = b20) by omega) hgb
    refine x_idxS (by omega) ?_
    have hsub := sub_of_take (o := 2 * j) (k := 2) hgs ht (by omega) (stepsV_at hjl)
    rw [show 0 + (j : Int).toNat * 2 = 2 * j by omega]
    refine x_loadA hgb1 hsub ?_
    with_reducible refine x_alloc ?_; refine x_storeA blk_alloc_new rfl (by simp [Value.oneCell']) (lay_cons (lay_cons lay_nil)) ?_; refine XQ.of rfl ?_; refine x_nil ?_; refine qstep ?_; refine XQ.of rfl ?_; refine x_field0 ?_; refine qstep ?_; refine XQ.of rfl ?_; refine x_load1 (by refine blk_set_ne' ?_ (by exact Nat.ne_of_lt (by exact lt_of_blk ‹_›)); refine blk_alloc_old' ?_; assumption) at_1 ?_; refine qstep ?_; refine XQ.of rfl ?_; refine x_field0 ?_; refine qstep ?_; refine XQ.of rfl ?_; refine x_load1 (by exact blk_set_same lt_alloc_new) at_0 ?_; refine qstep ?_
    generalize hw2 : setBlk _ _ _ = w2
    have e2 : Ext w1 w2 := by rw [← hw2]; exact ((Fr.refl _ w1).alloc _).set (fun h => by omega) _
    have b2 : w2.heap[w1.heap.size]? = some (.cells #[.int .u32 (l[j].1 : Nat), .int .u32 (l[j].2 : Nat)] 196 (0, 0)) := by rw [← hw2]; exact blk_set_same lt_alloc_new
    clear hw2
    have h2 := h1.ext (e2.trans (Ext.drw_self w2))
    have hub2 := h2.mmu.blk
    have hx := hm l[j] (List.getElem_mem hjl)
    have s1 := e1.size
    skip
    refine x_callF (mm_acc h2 hx.1 fun w3 hit back e3 h3 => ?_)
    have b3 := e3.get (by omega) b2
    have e23 : Fr (fun r => r = c) w1 w3 := (Fr.of_ext (e2.trans (Ext.drw_self w2))).trans e3
    have hb3 := e23.get (by omega) hb1
    have hstep : accAll s ((l.take (j + 1)).map (·.1)) = ((accAll s ((l.take j).map (·.1))).1 + (accS (accAll s ((l.take j).map (·.1))).2 l[j].1 false).1, (accS (accAll s ((l.take j).map (·.1))).2 l[j].1 false).2) := by
      rw [List.take_succ_eq_append_getElem hjl, List.map_append]
      exact accAll_append _ _
    have hcy2 := accAll_cy ((l.take (j + 1)).map (·.1)) s
    have hlen1 : ((l.take (j + 1)).map (·.1)).length ≤ 2 := by simp; omega
    rw [hstep] at hcy2
    simp only at hcy2
    refine XQ.of rfl (x_fieldV fv166 at_2 (qstep ?_))
    with_reducible refine XQ.of rfl ?_; refine x_addN (by rw [IntKind.wrap_i64]; omega) ?_; refine qstep ?_; refine x_field0 ?_; refine x_load1 ‹_› at_1 ?_
    refine x_callF (Decode_c hx.2 fun w4 e4 => ?_)
    have h4 := h3.ext e4
    have hb4 := e4.get hb3
    with_reducible refine x_extract at_0 ?_; refine x_extract at_1 ?_; refine x_storeA ‹_› rfl (by simp [Value.oneCell']) (lay_cons (lay_cons (lay_cons lay_nil))) ?_; refine x_addN (by rw [IntKind.wrap_i64]; omega) ?_
    generalize hw5 : setBlk _ _ _ = w5
    have e5 : Fr (fun r => r = b20) w4 w5 := by rw [← hw5]; exact Fr.set1 (Fr.refl _ _)
    have hb5 : w5.heap[b20]? = some (.cells #[.int .i64 (decR l[j].2).1, .int .u8 (decR l[j].2).2.1, .int .u32 (decR l[j].2).2.2.1] 129 (0, 0)) := by rw [← hw5]; exact blk_set_same (lt_of_blk hb4)
    clear hw5
    have h5 := h4.frame e5 hq
    have hlast : lastE (l.take (j + 1)) = ((decR l[j].2).1, (decR l[j].2).2.1, (decR l[j].2).2.2.1) := by
      rw [List.take_succ_eq_append_getElem hjl]; exact lastE_app
    refine ⟨⟨j + 1, (decR l[j].2).1, ?_, by congr 1, by omega, ?_, ?_, ?_⟩, by simp only; omega⟩
    · rw [hstep]; congr 1
    · have e14 : Fr (fun r => r = c) w1 w4 := e23.trans (Fr.of_ext e4)
      exact (e1.trans (e14.mono fun r _ hr => .inl hr)).trans (e5.mono fun r _ hr => .inr hr)
    · rw [hstep]; exact h5
    · rw [hlast]; exact hb5
  · have hjl : j = l.length := by omega
    subst hjl
    rw [List.take_length] at h1 hb1 ⊢
    exact hK w1 e0 e1 h1 hb1
end Go.Eng
namespace Go.Eng
open Go.Proofs Go.MapKept
variable {w : World} {K : Value → World → Prop} {E : List PanicEntry → World → Prop}
theorem Mm.lts {u m c t tb rb : Nat} {s : MS} {roots : Int → Option Nat} {FM : Nat → Prop} (h : Mm w u m c t tb rb s roots FM) : ∀ r, FM r ∨ r = c ∨ r = t ∨ r = tb ∨ r = 1 ∨ r = u ∨ r = rb → r < w.heap.size := by
  obtain ⟨mb, f, hm⟩ := h.sys.mem
  obtain ⟨cc, hc, _⟩ := h.sys.ca.row
  obtain ⟨T, fz, hg⟩ := h.sys.glob
  obtain ⟨es, ck, f, k1, _⟩ := h.mmu.map
  intro r hr
  rcases hr with hr | rfl | rfl | rfl | rfl | rfl | rfl
  · exact hm.fin _ hr
  · exact lt_of_blk hc
  · exact h.sys.tlb.lt.1
  · exact h.sys.tlb.lt.2
  · exact lt_of_blk hg
  · exact lt_of_blk h.mmu.blk
  · exact lt_of_blk k1
theorem mm_tlb {w' : World} {u m c t tb rb : Nat} {s s' : MS} {roots : Int → Option Nat} {FM : Nat → Prop} (h : Mm w u m c t tb rb s roots FM) (hf : Fr (fun r => r = t ∨ r = tb) w w')
   (hs : s'.n = s.n ∧ s'.M = s.M ∧ s'.slots = s.slots ∧ s'.la = s.la ∧ s'.lb = s.lb ∧ s'.ways = s.ways ∧ s'.S = s.S) (ht : TlbR w' t tb s'.slots s'.now s'.L) (hte : ∀ e ∈ s'.L, e.frame < 4294967296 ∧ e.perm < 256) : Mm w' u m c t tb rb s' roots FM := by
  obtain ⟨f1, f2, f3, f4⟩ := h.sys.fm
  obtain ⟨n1, n2, n3, n4, n5, n6⟩ := h.sys.ne
  obtain ⟨q1, q2, q3, q4, q5, q6, q7⟩ := h.ne
  obtain ⟨e1, e2, e3, e4, e5, e6, e7⟩ := hs
  refine ⟨⟨?_, ht, ?_, h.sys.glob.fr hf (by omega), hte, h.sys.fm, h.sys.ne⟩, h.mmu.frame hf (by omega) (by omega), h.fm, h.ne⟩
  · rw [e1, e2]
    refine h.sys.mem.frame hf fun r hr he => ?_
    rcases he with rfl | rfl
    · exact f1 hr
    · exact f2 hr
  · rw [e4, e5, e6, e7]
    exact h.sys.ca.frame hf (by omega)
theorem mm_put {u m c t tb rb pg fr pe : Nat} {cell : Int} {s : MS} {roots : Int → Option Nat} {FM : Nat → Prop} (h : Mm w u m c t tb rb s roots FM) (hnow : s.now < 9223372036854775807) (hf : fr < 4294967296) (hp : pe < 256)
   (hK : ∀ w' g, Fr (fun r => r = t ∨ r = tb) w w' → Mm w' u m c t tb rb (putT s cell pg fr pe) roots FM → K g w') : C P 90 #[ptr t, tagV cell pg, .agg #[.int .u32 fr, .int .u8 pe]] w K E := by
  have key : ∀ w' L', Fr (fun r => r = t ∨ r = tb) w w' → TlbR w' t tb s.slots (s.now + 1) (⟨cell, pg, fr, pe, s.now + 1⟩ :: L') → (∀ e ∈ L', e ∈ s.L) → L' = (if s.L.any (·.is cell pg) ∨ s.L.length < s.slots then rm s.L cell pg else s.L.dropLast) → Mm w' u m c t tb rb (putT s cell pg fr pe) roots FM := fun w' L' hfr ht hL' he => by
    refine mm_tlb h hfr ⟨rfl, rfl, rfl, rfl, rfl, rfl, rfl⟩ ?_ ?_
    · simp only [putT]; rw [← he]; exact ht
    · simp only [putT]; rw [← he]
      intro e hm
      rcases List.mem_cons.1 hm with rfl | hm
      · exact ⟨hf, hp⟩
      · exact h.sys.te e (hL' e hm)
  refine Put_c h.sys.tlb hnow (fun hc w' hfr ht => hK w' _ hfr (key w' _ hfr ht (fun e he => (rm_mem.1 he).1) ?_)) fun L0 e w' hL hno hlen hfr ht => hK w' _ hfr (key w' L0 hfr ht (fun x hx => by rw [hL]; exact List.mem_append_left _ hx) ?_)
  · rw [if_pos]
    rcases hc with ⟨e, he, h1⟩ | hc
    · exact .inl (List.any_eq_true.2 ⟨e, he, is_iff.2 h1⟩)
    · exact .inr hc
  · rw [if_neg, hL, List.dropLast_concat]
    rintro (hc | hc)
    · obtain ⟨x, hx, h1⟩ := List.any_eq_true.1 hc
      exact hno x hx (is_iff.1 h1)
    · omega
theorem tr_miss {u m c t tb rb b13 root at_ : Nat} {cell a : Int} {s : MS} {roots : Int → Option Nat} {FM : Nat → Prop} (h : Mm w u m c t tb rb s roots FM) (hv : at_ < 4294967296) (ha : -9223372036854775808 ≤ a ∧ a ≤ 9223372036854775807) (hnow : s.now < 9223372036854775807)
   (h13 : w.heap[b13]? = some (.cells #[.int .i64 cell, .int .u32 (at_ / 4096 : Nat)] 177 (0, 0))) (hr : roots cell = some root) (hL : s.L.find? (·.is cell (at_ / 4096)) = none) (n13 : b13 ≠ c)
   (hK : ∀ w', Fr (TC c t tb) w w' → Mm w' u m c t tb rb (trR s roots cell at_ a).2 roots FM → K (.tuple #[.int .u32 (trR s roots cell at_ a).1.1, .int .i64 (trR s roots cell at_ a).1.2.1, .int .i64 (trR s roots cell at_ a).1.2.2]) w') :
   S71_j8 (ptr u) (.int .u32 at_) (.int .i64 a) (.int .u32 root) (ptr b13) w K E := by
  have hub := h.mmu.blk
  unfold S71_j8
  with_reducible refine x_nil ?_; refine x_field0 ?_; refine x_load1 ‹_› at_0 ?_
  refine x_callF (Walk_c h.sys.mem (h.mmu.lt _ _ hr) hv ha fun w1 sv e1 ho => ?_)
  have h1 := h.ext e1
  have hmem := walkR_mem (M := s.M) (n := s.n) (root := root) (va := at_) (a := a) h.sys.mem.bytes_lt
  have htr : trR s roots cell at_ a = if (walkR s.M s.n root at_ a).2.2 ≠ 0 then ((0, (accAll s ((walkR s.M s.n root at_ a).2.1.map (·.1))).1, (walkR s.M s.n root at_ a).2.2), (accAll s ((walkR s.M s.n root at_ a).2.1.map (·.1))).2)
      else (((walkR s.M s.n root at_ a).1, (accAll s ((walkR s.M s.n root at_ a).2.1.map (·.1))).1, 0), putT (accAll s ((walkR s.M s.n root at_ a).2.1.map (·.1))).2 cell (at_ / 4096) (lastE (walkR s.M s.n root at_ a).2.1).2.2 (lastE (walkR s.M s.n root at_ a).2.1).2.1) := by
    simp only [trR, hr, hL]
  rw [htr] at hK
  generalize walkR s.M s.n root at_ a = R at *
  obtain ⟨to, l, fault⟩ := R
  simp only at *
  with_reducible refine x_extract at_0 ?_; refine x_extract at_1 ?_; refine x_extract at_2 ?_; refine x_alloc ?_
  generalize hw2 : World.alloc _ _ = w2
  have e2 : Ext w1 w2 := by rw [← hw2]; exact (Fr.refl _ w1).alloc _
  have b20 : w2.heap[w1.heap.size]? = some (.cells #[.int .i64 0, .int .u8 0, .int .u32 0] 129 (0, 0)) := by rw [← hw2]; exact blk_alloc_new
  clear hw2
  have h2 := h1.ext e2
  have ho2 : OwnSteps w2 w.heap.size sv l := ho.frame e2 fun _ _ => id
  have hlt1 := e1.size
  have h13' := e2.get (e1.get h13)
  have l13 := lt_of_blk h13
  have lcs := h.lts
  have hcy := accAll_cy (l.map (·.1)) s
  have hsame := accAll_same (l.map (·.1)) s
  obtain ⟨x1, x2, x3, x4, x5, x6, x7, x8⟩ := hsame
  obtain ⟨a0, cap, rfl⟩ := own_len ho2
  with_reducible refine x_lenS ?_
  refine tr_loop (base := w.heap.size) h2 ho2 hmem.1 hmem.2 b20 lcs hlt1 (fun g n k hs => ?_) fun w3 e0 e3 h3 b3 => ?_
  · rcases ho.2 with ⟨hx, _⟩ | ⟨g', cap', cur, hx, _, hg, _⟩
    · rw [hx] at hs; cases hs
    · rw [hx] at hs
      simp only [Value.slice.injEq, Option.some.injEq, Addr.mk.injEq, and_true] at hs
      rw [← hs.1]; exact lt_of_blk hg
  · have h133 := e3.get (by omega) h13'
    have e03 : Fr (TC c t tb) w w3 := by
      refine ((Fr.of_ext (e1.trans e2)).trans' e3 fun r hr hlt => ?_)
      rcases hr with rfl | rfl
      · exact .inl rfl
      · omega
    have hu3 := h3.mmu.blk
    have hE := lastE_lt (l := l)
    have hu3' := hu3
    unfold S71_j17
    refine x_neq (fun hc => ?_) (fun hc => ?_)
    with_reducible refine Cnd.yes ?_
    rotate_left
    with_reducible refine Cnd.no ?_; refine XQ.of rfl ?_; refine x_nil ?_; refine qstep ?_; refine XQ.of rfl ?_; refine x_field0 ?_; refine qstep ?_; refine XQ.of rfl ?_; refine x_load1 ‹_› at_2 ?_; refine qstep ?_; refine XQ.of rfl ?_; refine x_loadA ‹_› (sub_cons (sub_cons sub_nil)) ?_; refine qstep ?_; refine XQ.of rfl ?_; refine x_field0 ?_; refine qstep ?_; refine XQ.of rfl ?_; refine x_load1 ‹_› at_2 ?_; refine qstep ?_; refine XQ.of rfl ?_; refine x_field0 ?_; refine qstep ?_; refine XQ.of rfl ?_; refine x_load1 ‹_› at_1 ?_; refine qstep ?_; refine XQ.of rfl ?_; refine x_buildS (by apply fill_1; exact inferInstance; exact oneI; exact set_0; apply fill_1; exact inferInstance; exact oneI; apply set_S; exact set_0; rotate_left; exact fill_nil; rotate_left; rotate_left; rotate_left; rotate_left) ?_; refine qstep ?_
    rotate_left
    · have := hK w3 e03
      rw [if_pos ‹_›] at this
      exact this h3
    · have h4 := h3.ext (Ext.drw_self w3)
      refine x_callF (mm_put h4 (by rw [x4]; exact hnow) (by omega) hE.2 fun w5 g e5 h5 => ?_)
      have := hK w5 (e03.drw.trans' e5 fun r hr hlt => by rcases hr with rfl | rfl; exact .inr (.inl rfl); exact .inr (.inr rfl))
      rw [if_neg (fun hz => hz ‹_›)] at this
      exact this h5
theorem tr_j6 {u m c t tb rb b13 b14 root at_ fr pe : Nat} {is : Bool} {cell a : Int} {s : MS} {roots : Int → Option Nat} {FM : Nat → Prop} (hv : at_ < 4294967296) (ha : -9223372036854775808 ≤ a ∧ a ≤ 9223372036854775807) (hnow : s.now < 9223372036854775807)
   (h13 : w.heap[b13]? = some (.cells #[.int .i64 cell, .int .u32 (at_ / 4096 : Nat)] 177 (0, 0))) (h14 : w.heap[b14]? = some (.cells #[.int .u32 fr, .int .u8 pe] 188 (0, 0))) (hr : roots cell = some root) (n13 : b13 ≠ c)
   (h0 : is = false → Mm w u m c t tb rb s roots FM ∧ s.L.find? (·.is cell (at_ / 4096)) = none)
   (h1 : is = true → ∃ e, s.L.find? (·.is cell (at_ / 4096)) = some e ∧ e.frame = fr ∧ e.perm = pe ∧ fr < 4294967296 ∧ pe < 256 ∧ Mm w u m c t tb rb (useT s cell (at_ / 4096) fr pe) roots FM)
   (hK : ∀ w', Fr (TC c t tb) w w' → Mm w' u m c t tb rb (trR s roots cell at_ a).2 roots FM → K (.tuple #[.int .u32 (trR s roots cell at_ a).1.1, .int .i64 (trR s roots cell at_ a).1.2.1, .int .i64 (trR s roots cell at_ a).1.2.2]) w') :
   S71_j6 (ptr u) (.int .u32 at_) (.int .i64 a) (.int .u32 root) (ptr b13) (ptr b14) (.bool is) w (fun x0 x2 x3 x11 x13 y => S71_j8 x0 x2 x3 x11 x13 y K E) K E := by
  unfold S71_j6
  cases is with
  | true =>
    obtain ⟨e, hf, rfl, rfl, hfr, hpe, hm⟩ := h1 rfl
    have htr : trR s roots cell at_ a = (((knownR s.n e.frame e.perm at_ a).1, 0, (knownR s.n e.frame e.perm at_ a).2), useT s cell (at_ / 4096) e.frame e.perm) := by
      simp only [trR, hr, hf]
    rw [htr] at hK
    with_reducible refine Cnd.yes ?_; refine x_loadA ‹_› (sub_cons (sub_cons sub_nil)) ?_
    refine x_callF (known_c hm.mmu hm.sys.mem hfr hpe hv ha fun w1 e1 => ?_)
    have := hK w1 (Fr.of_ext e1) (hm.ext e1)
    with_reducible refine x_extract at_0 ?_; refine x_extract at_1 ?_; refine x_extract at_2 ?_
    exact this
  | false =>
    obtain ⟨hm, hL⟩ := h0 rfl
    with_reducible refine Cnd.no ?_
    exact tr_miss hm hv ha hnow h13 hr hL n13 hK
theorem Translate_c {u m c t tb rb at_ : Nat} {cell a : Int} {s : MS} {roots : Int → Option Nat} {FM : Nat → Prop} (h : Mm w u m c t tb rb s roots FM) (hv : at_ < 4294967296) (ha : -9223372036854775808 ≤ a ∧ a ≤ 9223372036854775807) (hnow : s.now < 9223372036854775807)
   (hK : ∀ w', Fr (TC c t tb) w w' → Mm w' u m c t tb rb (trR s roots cell at_ a).2 roots FM → K (.tuple #[.int .u32 (trR s roots cell at_ a).1.1, .int .i64 (trR s roots cell at_ a).1.2.1, .int .i64 (trR s roots cell at_ a).1.2.2]) w') :
   C P 71 #[ptr u, .int .i64 cell, .int .u32 at_, .int .i64 a] w K E := by
  have hub := h.mmu.blk
  obtain ⟨es, ck, f, hrb, hmf, hroots⟩ := h.mmu.map
  have hrc := hroots cell
  apply F71
  unfold S71_0
  cases hr : roots cell with
  | none =>
    rw [hr] at hrc
    simp only [Option.map_none] at hrc
    with_reducible refine x_nil ?_; refine x_field0 ?_; refine x_load1 ‹_› (at_S at_2) ?_; refine x_lookOkN ‹_› ‹_› keyI ‹_› ?_; refine x_extract at_0 ?_; refine x_extract at_1 ?_; refine x_notF ?_; refine Cnd.yes ?_
    have := hK w (Fr.refl _ _) (by simp only [trR, hr]; exact h)
    simp only [trR, hr] at this
    exact this
  | some root =>
    rw [hr] at hrc
    simp only [Option.map_some] at hrc
    with_reducible refine x_nil ?_; refine x_field0 ?_; refine x_load1 ‹_› (at_S at_2) ?_; refine x_lookOkS ‹_› ‹_› keyI ‹_› ?_; refine x_extract at_0 ?_; refine x_extract at_1 ?_; refine x_notT ?_; refine Cnd.no ?_; refine x_quoN (by omega) (by omega) (by rw [IntKind.wrap_u32]; omega) ?_; refine x_buildS (by apply fill_1; exact inferInstance; exact oneI; exact set_0; apply fill_1; exact inferInstance; exact oneI; apply set_S; exact set_0; rotate_left; exact fill_nil; rotate_left; rotate_left; rotate_left; rotate_left) ?_; refine x_alloc ?_; refine x_storeA blk_alloc_new rfl (by simp [Value.oneCell']) (lay_cons (lay_cons lay_nil)) ?_; refine XQ.of rfl ?_; refine x_nil ?_; refine qstep ?_; refine XQ.of rfl ?_; refine x_field0 ?_; refine qstep ?_; refine XQ.of rfl ?_; refine x_load1 (by refine blk_set_ne' ?_ (by exact Nat.ne_of_lt (by exact lt_of_blk ‹_›)); refine blk_alloc_old' ?_; assumption) at_2 ?_; refine qstep ?_; refine XQ.of rfl ?_; refine x_loadA (by exact blk_set_same lt_alloc_new) (sub_cons (sub_cons sub_nil)) ?_; refine qstep ?_
    rw [show (at_ : Int) / 4096 = ((at_ / 4096 : Nat) : Int) by omega]
    generalize hw1 : setBlk _ _ _ = w1
    have e1 : Ext w w1 := by rw [← hw1]; exact ((Fr.refl _ w).alloc _).set (fun h => by omega) _
    have b13 : w1.heap[w.heap.size]? = some (.cells #[.int .i64 cell, .int .u32 (at_ / 4096 : Nat)] 177 (0, 0)) := by
      rw [← hw1, blk_set_same lt_alloc_new]
    clear hw1
    have h1 := h.ext e1
    have hub1 := h1.mmu.blk
    have hub1' := hub1
    have h1d := h1.ext (Ext.drw_self w1)
    have hlts := h.lts
    have n13 : w.heap.size ≠ c := by have := hlts c (by simp); omega
    have hte := h.sys.te
    have nof : (∀ e ∈ s.L, ¬ (e.cell = cell ∧ e.page = at_ / 4096)) → s.L.find? (·.is cell (at_ / 4096)) = none := fun hn => by
      rw [List.find?_eq_none]
      intro e he hq
      exact hn e he (is_iff.1 hq)
    have yes : ∀ w2 w3 : World, Fr (fun r => r = t ∨ r = tb) w2 w3 → ∀ e ∈ s.L, e.cell = cell ∧ e.page = at_ / 4096 → Mm w2 u m c t tb rb s roots FM → TlbR w3 t tb s.slots (s.now + 1) (⟨cell, at_ / 4096, e.frame, e.perm, s.now + 1⟩ :: rm s.L cell (at_ / 4096)) → Mm w3 u m c t tb rb (useT s cell (at_ / 4096) e.frame e.perm) roots FM := fun w2 w3 e3 e he hc h2 ht => by
      refine mm_tlb h2 e3 ⟨rfl, rfl, rfl, rfl, rfl, rfl, rfl⟩ ht fun x hx => ?_
      rcases List.mem_cons.1 hx with rfl | hx
      · exact hte e he
      · exact hte x (rm_mem.1 hx).1
    have lt' := hlts t (by simp)
    have ltb' := hlts tb (by simp)
    have s1 := e1.size
    have l13 := lt_of_blk b13
    have fin0 : ∀ (w2 w3 : World) (b14 : Nat), Ext (drw w1) w2 → Ext w2 w3 → w3.heap[b14]? = some (.cells #[.int .u32 (0 : Nat), .int .u8 (0 : Nat)] 188 (0, 0)) → (∀ e ∈ s.L, ¬ (e.cell = cell ∧ e.page = at_ / 4096)) →
        S71_j6 (ptr u) (.int .u32 at_) (.int .i64 a) (.int .u32 root) (ptr w.heap.size) (ptr b14) (.bool false) w3 (fun x0 x2 x3 x11 x13 y => S71_j8 x0 x2 x3 x11 x13 y K E) K E := fun w2 w3 b14 e2 e3 b3 hn => by
      refine tr_j6 hv ha hnow ((e2.trans e3).get b13) b3 hr n13 (fun _ => ⟨h1d.ext (e2.trans e3), nof hn⟩) (fun hx => by cases hx) fun w' hf hm => hK w' (((Fr.of_ext (e1.trans (Ext.drw_self w1))).trans (Fr.of_ext (e2.trans e3))).trans hf) hm
    have fin1 : ∀ (w2 w3 : World) (b14 : Nat) (e : TE), Fr (fun r => r = t ∨ r = tb) (drw w1) w2 → Ext w2 w3 → w3.heap[b14]? = some (.cells #[.int .u32 e.frame, .int .u8 e.perm] 188 (0, 0)) → e ∈ s.L → e.cell = cell ∧ e.page = at_ / 4096 → Mm w2 u m c t tb rb (useT s cell (at_ / 4096) e.frame e.perm) roots FM →
        S71_j6 (ptr u) (.int .u32 at_) (.int .i64 a) (.int .u32 root) (ptr w.heap.size) (ptr b14) (.bool true) w3 (fun x0 x2 x3 x11 x13 y => S71_j8 x0 x2 x3 x11 x13 y K E) K E := fun w2 w3 b14 e e2 e3 b3 he hc h2 => by
      have hf := h.sys.tlb.find he hc
      have e03 : Fr (TC c t tb) w w3 := ((Fr.of_ext (e1.trans (Ext.drw_self w1))).trans' e2 fun r hr hlt => by rcases hr with rfl | rfl; exact .inr (.inl rfl); exact .inr (.inr rfl)).trans (Fr.of_ext e3)
      refine tr_j6 hv ha hnow (e3.get (e2.get (by omega) b13)) b3 hr n13 (fun hx => by cases hx) (fun _ => ⟨e, hf, rfl, rfl, (hte e he).1, (hte e he).2, h2.ext e3⟩) fun w' hf' hm => hK w' (e03.trans hf') hm
    with_reducible refine And.intro ?_ ?_
    rotate_left
    with_reducible refine x_alloc ?_; refine And.intro ?_ ?_; refine XQ.of rfl ?_; refine x_loadA (by refine blk_alloc_old' ?_; assumption) (sub_cons (sub_cons sub_nil)) ?_; refine qstep ?_; exact rfl; refine And.intro ?_ ?_; refine XQ.of rfl ?_; refine x_load1 (by refine blk_alloc_old' ?_; assumption) at_2 ?_; refine qstep ?_; exact rfl; refine And.intro ?_ ?_; refine XQ.of rfl ?_; refine x_field0 ?_; refine qstep ?_; exact rfl; refine And.intro ?_ ?_; refine XQ.of rfl ?_; refine x_nil ?_; refine qstep ?_; exact rfl
    rotate_left
    · -- Look first
      refine x_callF (Look_c h1d.sys.tlb hnow (fun w2 e2 hn ht => ?_) fun e w2 he hc e2 ht => ?_)
      · have h2 := h1d.ext e2
        have hub2 := h2.mmu.blk
        have b2 := e2.get b13
        with_reducible refine XQ.of rfl ?_; refine x_extract at_0 ?_; refine qstep ?_; refine XQ.of rfl ?_; refine x_extract at_1 ?_; refine qstep ?_; refine x_alloc ?_; refine And.intro ?_ ?_; refine XQ.of rfl ?_; refine x_extract at_1 ?_; refine qstep ?_; exact rfl; refine And.intro ?_ ?_; refine XQ.of rfl ?_; refine x_extract at_0 ?_; refine qstep ?_; exact rfl; refine And.intro ?_ ?_; refine XQ.of rfl ?_; refine x_loadA (by refine blk_alloc_old' ?_; assumption) (sub_cons (sub_cons sub_nil)) ?_; refine qstep ?_; exact rfl; refine And.intro ?_ ?_; refine XQ.of rfl ?_; refine x_load1 (by refine blk_alloc_old' ?_; assumption) at_2 ?_; refine qstep ?_; exact rfl; refine And.intro ?_ ?_; refine XQ.of rfl ?_; refine x_field0 ?_; refine qstep ?_; exact rfl; refine And.intro ?_ ?_; refine XQ.of rfl ?_; refine x_nil ?_; refine qstep ?_; exact rfl; refine x_storeW blk_alloc_new rfl (by decide) rfl ?_; refine And.intro ?_ ?_; refine XQ.of rfl ?_; refine x_extract at_1 ?_; refine qstep ?_; exact rfl
        exact fin0 w2 _ _ e2 (((Fr.refl _ w2).alloc _).set (fun h => by omega) _) (blk_set_same lt_alloc_new) hn
      · have h2 := yes _ _ e2 e he hc h1d ht
        have hub2 := h2.mmu.blk
        have b2 := e2.get (by omega) b13
        with_reducible refine XQ.of rfl ?_; refine x_extract at_0 ?_; refine qstep ?_; refine XQ.of rfl ?_; refine x_extract at_1 ?_; refine qstep ?_; refine x_alloc ?_; refine And.intro ?_ ?_; refine XQ.of rfl ?_; refine x_extract at_1 ?_; refine qstep ?_; exact rfl; refine And.intro ?_ ?_; refine XQ.of rfl ?_; refine x_extract at_0 ?_; refine qstep ?_; exact rfl; refine And.intro ?_ ?_; refine XQ.of rfl ?_; refine x_loadA (by refine blk_alloc_old' ?_; assumption) (sub_cons (sub_cons sub_nil)) ?_; refine qstep ?_; exact rfl; refine And.intro ?_ ?_; refine XQ.of rfl ?_; refine x_load1 (by refine blk_alloc_old' ?_; assumption) at_2 ?_; refine qstep ?_; exact rfl; refine And.intro ?_ ?_; refine XQ.of rfl ?_; refine x_field0 ?_; refine qstep ?_; exact rfl; refine And.intro ?_ ?_; refine XQ.of rfl ?_; refine x_nil ?_; refine qstep ?_; exact rfl; refine x_storeA blk_alloc_new rfl (by simp [Value.oneCell']) (lay_cons (lay_cons lay_nil)) ?_; refine And.intro ?_ ?_; refine XQ.of rfl ?_; refine x_extract at_1 ?_; refine qstep ?_; exact rfl
        exact fin1 w2 _ _ e e2 (((Fr.refl _ w2).alloc _).set (fun h => by omega) _) (blk_set_same lt_alloc_new) he hc h2
    · -- the mapping's place first
      generalize hwA : World.alloc _ _ = wA
      have eA : Ext (drw w1) wA := by rw [← hwA]; exact (Fr.refl _ _).alloc _
      have bA : ∃ o, wA.heap[w1.heap.size]? = some (.cells o 188 (0, 0)) ∧ o.size = 2 := by rw [← hwA]; exact ⟨_, blk_alloc_new (w := drw w1), rfl⟩
      clear hwA
      obtain ⟨oA, bA, oS⟩ := bA
      have hA := h1d.ext eA
      have lA := lt_of_blk bA
      refine x_callF (Look_c hA.sys.tlb hnow (fun w2 e2 hn ht => ?_) fun e w2 he hc e2 ht => ?_)
      · have h2 := hA.ext e2
        have hub2 := h2.mmu.blk
        have b2 := e2.get (eA.get b13)
        have bA2 := e2.get bA
        with_reducible refine XQ.of rfl ?_; refine x_extract at_0 ?_; refine qstep ?_; refine XQ.of rfl ?_; refine x_extract at_1 ?_; refine qstep ?_
        refine x_storeW (b := w1.heap.size) bA2 rfl (by simp [Value.oneCell']) oS ?_
        have e3 : Fr (fun r => r = w1.heap.size) w2 (setBlk w2 w1.heap.size (.cells #[.int .u32 0, .int .u8 0] 188 (0, 0))) := Fr.set1 (Fr.refl _ _)
        have b3 : (setBlk w2 w1.heap.size (.cells #[.int .u32 0, .int .u8 0] 188 (0, 0))).heap[w1.heap.size]? = some (.cells #[.int .u32 (0 : Nat), .int .u8 (0 : Nat)] 188 (0, 0)) := blk_set_same (lt_of_blk bA2)
        refine ⟨XQ.of rfl (x_extract at_1 (qstep rfl)), ?_⟩
        refine tr_j6 hv ha hnow (e3.get (by omega) b2) b3 hr n13 (fun _ => ⟨h2.frame e3 fun r hr he => ?_, nof hn⟩) (fun hx => by cases hx) fun w' hf hm => hK w' (((Fr.of_ext (((e1.trans (Ext.drw_self w1)).trans eA).trans e2)).trans' e3 fun r hr hlt => by omega).trans hf) hm
        have := hlts r hr
        omega
      · have h2 := yes _ _ e2 e he hc hA ht
        have hub2 := h2.mmu.blk
        have b2 := e2.get (show ¬ (w.heap.size = t ∨ w.heap.size = tb) by omega) (eA.get b13)
        have bA2 := e2.get (show ¬ (w1.heap.size = t ∨ w1.heap.size = tb) by omega) bA
        with_reducible refine XQ.of rfl ?_; refine x_extract at_0 ?_; refine qstep ?_; refine XQ.of rfl ?_; refine x_extract at_1 ?_; refine qstep ?_
        refine x_storeW (b := w1.heap.size) bA2 rfl (by simp [Value.oneCell']) oS ?_
        have e3 : Fr (fun r => r = w1.heap.size) w2 (setBlk w2 w1.heap.size (.cells #[.int .u32 e.frame, .int .u8 e.perm] 188 (0, 0))) := Fr.set1 (Fr.refl _ _)
        refine ⟨XQ.of rfl (x_extract at_1 (qstep rfl)), ?_⟩
        have hf := h.sys.tlb.find he hc
        have e03 : Fr (TC c t tb) w (setBlk w2 w1.heap.size (.cells #[.int .u32 e.frame, .int .u8 e.perm] 188 (0, 0))) := ((Fr.of_ext ((e1.trans (Ext.drw_self w1)).trans eA)).trans' e2 fun r hr hlt => by rcases hr with rfl | rfl; exact .inr (.inl rfl); exact .inr (.inr rfl)).trans' e3 fun r hr hlt => by omega
        refine tr_j6 hv ha hnow (e3.get (by omega) b2) (blk_set_same (lt_of_blk bA2)) hr n13 (fun hx => by cases hx) (fun _ => ⟨e, hf, rfl, rfl, (hte e he).1, (hte e he).2, h2.frame e3 fun r hr he => ?_⟩) fun w' hf' hm => hK w' (e03.trans hf') hm
        have := hlts r hr
        omega
end Go.Eng
namespace Go.Eng
open Go.Proofs Go.MapKept
variable {w : World} {K : Value → World → Prop} {E : List PanicEntry → World → Prop}
theorem walk_to {M : Nat → Nat} {n root va : Nat} {a : Int} : (walkR M n root va a).2.2 = 0 → ∃ f, f < n ∧ (walkR M n root va a).1 = 4096 * f + va % 4096 := by
  unfold walkR
  split
  · simp
  · simp only
    repeat' split
    all_goals try (simp; done)
    unfold walk2
    split
    · simp
    · simp only
      repeat' split
      all_goals try (simp; done)
      intro _
      exact ⟨_, by omega, rfl⟩
theorem known_to {n f p at_ : Nat} {a : Int} : (knownR n f p at_ a).2 = 0 → f < n ∧ (knownR n f p at_ a).1 = 4096 * f + at_ % 4096 := by
  unfold knownR
  split
  · simp
  · split
    · simp
    · intro _; exact ⟨by omega, rfl⟩
theorem trR_to {s : MS} {roots : Int → Option Nat} {cell a : Int} {at_ : Nat} (h : (trR s roots cell at_ a).1.2.2 = 0) : ∃ f, f < s.n ∧ (trR s roots cell at_ a).1.1 = 4096 * f + at_ % 4096 := by
  unfold trR at h ⊢
  split
  · rename_i h1; rw [h1] at h; simp at h
  · rename_i root h1
    rw [h1] at h
    simp only at h
    split
    · rename_i e h2
      rw [h2] at h
      exact ⟨_, known_to h⟩
    · rename_i h2
      rw [h2] at h
      simp only at h ⊢
      split at h
      · rename_i h3; exact absurd h h3
      · rename_i h3
        rw [if_neg h3]
        exact walk_to (by simpa using h3)
theorem trR_cy {s : MS} {roots : Int → Option Nat} {cell a : Int} {at_ : Nat} (hM : ∀ x, s.M x < 256) : (trR s roots cell at_ a).1.2.1 ≤ 40 := by
  unfold trR
  split
  · simp
  · split
    · simp
    · rename_i root _ _ _
      have h1 := accAll_cy ((walkR s.M s.n root at_ a).2.1.map (·.1)) s
      have h2 := (walkR_mem (n := s.n) (root := root) (va := at_) (a := a) hM).2
      rw [List.length_map] at h1
      simp only
      split
      · simp only; omega
      · simp only; omega
theorem trR_same {s : MS} {roots : Int → Option Nat} {cell a : Int} {at_ : Nat} : (trR s roots cell at_ a).2.n = s.n ∧ (trR s roots cell at_ a).2.M = s.M ∧ (trR s roots cell at_ a).2.slots = s.slots ∧ (trR s roots cell at_ a).2.la = s.la ∧ (trR s roots cell at_ a).2.lb = s.lb ∧ (trR s roots cell at_ a).2.ways = s.ways ∧ (trR s roots cell at_ a).2.now ≤ s.now + 1 := by
  unfold trR
  split
  · simp
  · split
    · simp [useT]
    · rename_i root _ _ _
      obtain ⟨x1, x2, x3, x4, x5, x6, x7, x8⟩ := accAll_same ((walkR s.M s.n root at_ a).2.1.map (·.1)) s
      simp only
      split <;> simp [putT, x1, x2, x3, x4, x5, x6, x7, x8]
theorem Mm.n_le {u m c t tb rb : Nat} {s : MS} {roots : Int → Option Nat} {FM : Nat → Prop} (h : Mm w u m c t tb rb s roots FM) : 1 ≤ s.n ∧ s.n ≤ 4096 := by
  obtain ⟨mb, f, hm⟩ := h.sys.mem
  exact hm.hn
theorem mmuUse_c {u m c t tb rb at_ fid : Nat} {size cell a : Int} {cap : List Value} [CF P fid] {s : MS} {roots : Int → Option Nat} {FM : Nat → Prop} (h : Mm w u m c t tb rb s roots FM) (hv : at_ < 4294967296) (ha : -9223372036854775808 ≤ a ∧ a ≤ 9223372036854775807) (hl : -9223372036854775808 ≤ size ∧ size ≤ 9223372036854775807) (hnow : s.now < 9223372036854775807)
   (h0 : fitsR at_ size = false → K (.tuple #[.int .i64 0, .int .i64 1]) w)
   (h1 : ∀ w', fitsR at_ size = true → (trR s roots cell at_ a).1.2.2 ≠ 0 → Fr (TC c t tb) w w' → Mm w' u m c t tb rb (trR s roots cell at_ a).2 roots FM → K (.tuple #[.int .i64 (trR s roots cell at_ a).1.2.1, .int .i64 (trR s roots cell at_ a).1.2.2]) w')
   (h2 : ∀ w', fitsR at_ size = true → (trR s roots cell at_ a).1.2.2 = 0 → Fr (TC c t tb) w w' → Mm w' u m c t tb rb (accS (trR s roots cell at_ a).2 (trR s roots cell at_ a).1.1 (decide (a = 2))).2 roots FM →
     C P fid (List.toArray ([.int .u32 (trR s roots cell at_ a).1.1] ++ cap)) w' (fun _ w'' => K (.tuple #[.int .i64 ((trR s roots cell at_ a).1.2.1 + (accS (trR s roots cell at_ a).2 (trR s roots cell at_ a).1.1 (decide (a = 2))).1 : Nat), .int .i64 0]) w'') E) :
   C P 39 #[ptr u, .int .i64 cell, .int .u32 at_, .int .i64 size, .int .i64 a, .func (.func fid) (List.toArray []) (List.toArray cap)] w K E := by
  have hn := h.n_le
  have hcy := trR_cy (roots := roots) (cell := cell) (a := a) (at_ := at_) h.sys.mem.bytes_lt
  have hto := @trR_to s roots cell a at_
  apply F39
  unfold S39_0
  refine x_callF (fits_c hv hl ?_)
  cases hfit : fitsR at_ size with
  | false =>
    with_reducible refine x_notF ?_; refine Cnd.yes ?_
    exact h0 hfit
  | true =>
    with_reducible refine x_notT ?_; refine Cnd.no ?_
    refine x_callF (Translate_c h hv ha hnow fun w1 e1 h1' => ?_)
    have k1 := h1 w1 hfit
    have k2 := fun w' => h2 w' hfit
    generalize trR s roots cell at_ a = T at *
    obtain ⟨⟨to, cy, fault⟩, s1⟩ := T
    simp only at *
    have hub1 := h1'.mmu.blk
    have key : ∀ b : Bool, b = decide (a = 2) → fault = 0 → X P (.callF 72 #[ptr c, .int .u32 to, .bool b]) 166 w1 (fun t42 w_12 =>
        X P (.field 166 t42 2) 3 w_12 (fun t43 w_13 =>
        X P (.bin .add 3 false false (.int .i64 cy) t43) 3 w_13 (fun t44 w_14 =>
        X P (.callV (.func (.func fid) (List.toArray []) (List.toArray cap)) #[.int .u32 to]) 0 w_14 (fun t47 w_15 =>
        K (Value.tuple #[t44, (Value.int IntKind.i64 0)]) w_15) E) E) E) E := fun b hb hfz => by
      subst hb
      obtain ⟨f, hf, hto'⟩ := hto hfz
      refine x_callF (mm_acc h1' (by omega) fun w2 hit back e2 h2' => ?_)
      have hcy2 := accS_cy (s := s1) (a := to) (wr := decide (a = 2))
      refine x_fieldV fv166 at_2 ?_
      with_reducible refine x_addN (by rw [IntKind.wrap_i64]; omega) ?_
      refine x_callV (args := [.int .u32 to]) ?_
      exact k2 w2 hfz (e1.trans' e2 fun r hr hlt => .inl hr) h2'
    with_reducible refine x_extract at_0 ?_; refine x_extract at_1 ?_; refine x_extract at_2 ?_
    refine x_neq (fun hc => ?_) (fun hc => ?_)
    with_reducible refine Cnd.yes ?_
    rotate_left
    with_reducible refine Cnd.no ?_; refine x_nil ?_; refine x_field0 ?_; refine x_load1 ‹_› at_1 ?_
    refine x_eql (fun hc => ?_) (fun hc => ?_)
    rotate_left
    rotate_left
    · exact k1 ‹_› e1 h1'
    · exact key _ (decide_eq_true ‹_›).symm ‹_›
    · exact key _ (decide_eq_false ‹_›).symm ‹_›
def getR (s : MS) (roots : Int → Option Nat) (cell : Int) (at_ : Nat) (size a : Int) : (Nat × Nat × Int) × MS :=
  if fitsR at_ size = false then ((0, 0, 1), s) else
  let T := trR s roots cell at_ a
  if T.1.2.2 ≠ 0 then ((0, T.1.2.1, T.1.2.2), T.2) else
  let A := accS T.2 T.1.1 (decide (a = 2))
  ((ldv s.M T.1.1 size.toNat, T.1.2.1 + A.1, 0), A.2)
def stR (s : MS) (roots : Int → Option Nat) (cell : Int) (at_ : Nat) (size : Int) (v : Nat) : (Nat × Int) × MS :=
  if fitsR at_ size = false then ((0, 1), s) else
  let T := trR s roots cell at_ 2
  if T.1.2.2 ≠ 0 then ((T.1.2.1, T.1.2.2), T.2) else
  let A := accS T.2 T.1.1 true
  ((T.1.2.1 + A.1, 0), { A.2 with M := put s.M T.1.1 ((stb v).take size.toNat) })
theorem fits_to {at_ f : Nat} {size : Int} (h : fitsR at_ size = true) : ∃ z : Nat, size = z ∧ (z = 1 ∨ z = 2 ∨ z = 4) ∧ (4096 * f + at_ % 4096) % z = 0 ∧ at_ % 4096 + z ≤ 4096 := by
  unfold fitsR at h
  rw [decide_eq_true_eq] at h
  obtain ⟨h1, h2⟩ := h
  rcases h1 with rfl | rfl | rfl
  · exact ⟨1, rfl, by omega, by omega, by omega⟩
  · exact ⟨2, rfl, by omega, by omega, by omega⟩
  · exact ⟨4, rfl, by omega, by omega, by omega⟩
end Go.Eng
namespace Go.Eng
open Go.Proofs Go.MapKept
variable {w : World} {K : Value → World → Prop} {E : List PanicEntry → World → Prop}
instance : CF P 65 := c65
instance : CF P 40 := c40
theorem get_c {u m c t tb rb at_ : Nat} {size cell a : Int} {s : MS} {roots : Int → Option Nat} {FM : Nat → Prop} (h : Mm w u m c t tb rb s roots FM) (hv : at_ < 4294967296) (ha : -9223372036854775808 ≤ a ∧ a ≤ 9223372036854775807) (hl : -9223372036854775808 ≤ size ∧ size ≤ 9223372036854775807) (hnow : s.now < 9223372036854775807)
   (hK : ∀ w', Fr (TC c t tb) w w' → Mm w' u m c t tb rb (getR s roots cell at_ size a).2 roots FM → K (.tuple #[.int .u32 (getR s roots cell at_ size a).1.1, .int .i64 (getR s roots cell at_ size a).1.2.1, .int .i64 (getR s roots cell at_ size a).1.2.2]) w') :
   C P 34 #[ptr u, .int .i64 cell, .int .u32 at_, .int .i64 size, .int .i64 a] w K E := by
  have hn := h.n_le
  have hto := @trR_to s roots cell a at_
  have hsame := @trR_same s roots cell a at_
  apply F34
  unfold S34_0
  with_reducible refine x_box1 oneP ?_; refine x_box1 oneI ?_; refine x_alloc ?_; refine x_load1 (by refine blk_alloc_old' ?_; refine blk_alloc_old' ?_; exact blk_alloc_new) at_0 ?_; refine x_load1 (by refine blk_alloc_old' ?_; exact blk_alloc_new) at_0 ?_; refine x_mkFunc ?_
  generalize hw1 : World.alloc (World.alloc (World.alloc _ _) _) _ = w1
  have e1 : Ext w w1 := by rw [← hw1]; exact (((Fr.refl _ w).alloc _).alloc _).alloc _
  have b5 : w1.heap[w.heap.size]? = some (.cells #[ptr u] 44 (0, 0)) := by rw [← hw1]; refine blk_alloc_old' ?_; refine blk_alloc_old' ?_; exact blk_alloc_new
  have b8 : w1.heap[w.heap.size + 1]? = some (.cells #[.int .i64 size] 3 (0, 0)) := by
    rw [← hw1]; exact blk_alloc_old' (blk_alloc_eq (by rw [size_alloc]))
  have b10 : w1.heap[w.heap.size + 1 + 1]? = some (.cells #[.int .u32 0] 38 (0, 0)) := by
    rw [← hw1]; exact blk_alloc_eq (by rw [size_alloc, size_alloc])
  simp only [size_alloc]
  clear hw1
  have h1 := h.ext e1
  have hlts := h.lts
  have s1 := e1.size
  have hc := hlts c (by simp)
  have ht := hlts t (by simp)
  have htb := hlts tb (by simp)
  refine x_callF (mmuUse_c (cap := [ptr w.heap.size, ptr (w.heap.size + 1), ptr (w.heap.size + 1 + 1)]) h1 hv ha hl hnow (fun hf => ?_) (fun w2 hf hfa e2 h2 => ?_) fun w2 hf hfa e2 h2 => ?_)
  · with_reducible refine x_extract at_0 ?_; refine x_extract at_1 ?_; refine x_load1 ‹_› at_0 ?_; refine x_store1 ‹_› oneI set_0 ?_
    refine xres_3 (rv_load1 (by exact blk_set_same (by exact lt_of_blk ‹_›)) at_0) rv_val rv_val ?_
    have := hK (setBlk w1 (w.heap.size + 1 + 1) (.cells #[.int .u32 0] 38 (0, 0))) ((Fr.of_ext e1).set (fun h => by omega) _)
    simp only [getR, hf] at this
    exact this (h1.frame (Q := fun r => r = w.heap.size + 1 + 1) (Fr.set1 (Fr.refl _ _)) fun r hr he => by have := hlts r hr; omega)
  · have b10' := e2.get (show ¬ (_ ∨ _ ∨ _) by omega) b10
    with_reducible refine x_extract at_0 ?_; refine x_extract at_1 ?_; refine x_load1 ‹_› at_0 ?_; refine x_store1 ‹_› oneI set_0 ?_
    refine xres_3 (rv_load1 (by exact blk_set_same (by exact lt_of_blk ‹_›)) at_0) rv_val rv_val ?_
    have := hK (setBlk w2 (w.heap.size + 1 + 1) (.cells #[.int .u32 0] 38 (0, 0))) (((Fr.of_ext e1).trans e2).set (fun h => by omega) _)
    simp only [getR] at this
    rw [if_neg (by simp [hf]), if_pos hfa] at this
    exact this (h2.frame (Q := fun r => r = w.heap.size + 1 + 1) (Fr.set1 (Fr.refl _ _)) fun r hr he => by have := hlts r hr; omega)
  · have b5' := e2.get (show ¬ (_ ∨ _ ∨ _) by omega) b5
    have b8' := e2.get (show ¬ (_ ∨ _ ∨ _) by omega) b8
    have b10' := e2.get (show ¬ (_ ∨ _ ∨ _) by omega) b10
    have hub2 := h2.mmu.blk
    obtain ⟨f, hfn, hto'⟩ := hto hfa
    clear hto
    obtain ⟨z, rfl, hz, hzm, hzf⟩ := fits_to (f := f) hf
    obtain ⟨g1, g2, g3, g4, g5, g6, g7⟩ := hsame
    have hm2 := h2.sys.mem
    have hn2 : (accS (trR s roots cell at_ a).2 (trR s roots cell at_ a).1.1 (decide (a = 2))).2.n = s.n := g1
    have hM2 : (accS (trR s roots cell at_ a).2 (trR s roots cell at_ a).1.1 (decide (a = 2))).2.M = s.M := g2
    rw [hn2, hM2] at hm2
    have fin := hK
    simp only [getR] at fin
    rw [if_neg (by simp [hf]), if_neg (fun hx => hx hfa)] at fin
    simp only [Int.toNat_natCast] at fin
    generalize accS (trR s roots cell at_ a).2 (trR s roots cell at_ a).1.1 (decide (a = 2)) = A at *
    generalize trR s roots cell at_ a = T at *
    obtain ⟨⟨to, cy, fault⟩, s1⟩ := T
    obtain ⟨acy, s2⟩ := A
    simp only at *
    subst hto'
    apply F65
    unfold S65_0
    with_reducible refine XQ.of rfl ?_; refine x_load1 ‹_› at_0 ?_; refine qstep ?_; refine XQ.of rfl ?_; refine x_nil ?_; refine qstep ?_; refine XQ.of rfl ?_; refine x_field0 ?_; refine qstep ?_; refine XQ.of rfl ?_; refine x_load1 ‹_› at_0 ?_; refine qstep ?_; refine XQ.of rfl ?_; refine x_load1 ‹_› at_0 ?_; refine qstep ?_
    refine x_callF (Load_c (hm2.ext (Ext.drw_self w2)) (by omega) (by omega) (fun hx => by omega) (fun _ hx => ?_) (fun _ _ hx => by omega) fun z' w3 hz' _ _ _ e3 => ?_)
    · exact absurd (by exact_mod_cast hzm) hx
    · obtain rfl : z = z' := by omega
      have e3' : Ext w2 w3 := (Ext.drw_self w2).trans e3
      have b10'' := e3'.get b10'
      with_reducible refine XQ.of rfl ?_; refine x_extract at_0 ?_; refine qstep ?_; refine XQ.of rfl ?_; refine x_extract at_1 ?_; refine qstep ?_; refine x_store1 ‹_› oneI set_0 ?_; refine And.intro ?_ ?_; refine XQ.of rfl ?_; refine x_extract at_1 ?_; refine qstep ?_; exact rfl; refine x_extract at_0 ?_; refine x_extract at_1 ?_; refine x_load1 (by exact blk_set_same (by exact lt_of_blk ‹_›)) at_0 ?_; refine x_store1 (by exact blk_set_same (by exact lt_of_blk ‹_›)) oneI set_0 ?_
      refine xres_3 (rv_load1 (by exact blk_set_same (by refine lt_set ?_; exact lt_of_blk ‹_›)) at_0) rv_val rv_val ?_
      have e4 : Fr (fun r => r = w.heap.size + 1 + 1) w2 (setBlk (setBlk w3 (w.heap.size + 1 + 1) (.cells #[.int .u32 (ldv s.M (4096 * f + at_ % 4096) z)] 38 (0, 0))) (w.heap.size + 1 + 1) (.cells #[.int .u32 (ldv s.M (4096 * f + at_ % 4096) z)] 38 (0, 0))) :=
        Fr.set1 (Fr.set1 (Fr.of_ext e3'))
      exact fin _ (((Fr.of_ext e1).trans e2).trans' e4 fun r hr hlt => by omega) (h2.frame e4 fun r hr he => by have := hlts r hr; omega)
theorem Load_m {u m c t tb rb at_ : Nat} {size cell : Int} {s : MS} {roots : Int → Option Nat} {FM : Nat → Prop} (h : Mm w u m c t tb rb s roots FM) (hv : at_ < 4294967296) (hl : -9223372036854775808 ≤ size ∧ size ≤ 9223372036854775807) (hnow : s.now < 9223372036854775807)
   (hK : ∀ w', Fr (TC c t tb) w w' → Mm w' u m c t tb rb (getR s roots cell at_ size 1).2 roots FM → K (.tuple #[.int .u32 (getR s roots cell at_ size 1).1.1, .int .i64 (getR s roots cell at_ size 1).1.2.1, .int .i64 (getR s roots cell at_ size 1).1.2.2]) w') :
   C P 14 #[ptr u, .int .i64 cell, .int .u32 at_, .int .i64 size] w K E := by
  apply F14
  unfold S14_0
  refine x_callF (get_c h hv (by omega) hl hnow fun w1 e1 h1 => ?_)
  with_reducible refine x_extract at_0 ?_; refine x_extract at_1 ?_; refine x_extract at_2 ?_
  exact hK w1 e1 h1
theorem Fetch_m {u m c t tb rb at_ : Nat} {cell : Int} {s : MS} {roots : Int → Option Nat} {FM : Nat → Prop} (h : Mm w u m c t tb rb s roots FM) (hv : at_ < 4294967296) (hnow : s.now < 9223372036854775807)
   (hK : ∀ w', Fr (TC c t tb) w w' → Mm w' u m c t tb rb (getR s roots cell at_ 4 3).2 roots FM → K (.tuple #[.int .u32 (getR s roots cell at_ 4 3).1.1, .int .i64 (getR s roots cell at_ 4 3).1.2.1, .int .i64 (getR s roots cell at_ 4 3).1.2.2]) w') :
   C P 27 #[ptr u, .int .i64 cell, .int .u32 at_] w K E := by
  apply F27
  unfold S27_0
  refine x_callF (get_c h hv (by omega) (by omega) hnow fun w1 e1 h1 => ?_)
  with_reducible refine x_extract at_0 ?_; refine x_extract at_1 ?_; refine x_extract at_2 ?_
  exact hK w1 e1 h1
theorem Store_m {u m c t tb rb at_ v : Nat} {size cell : Int} {s : MS} {roots : Int → Option Nat} {FM : Nat → Prop} (h : Mm w u m c t tb rb s roots FM) (hv : at_ < 4294967296) (hvv : v < 4294967296) (hl : -9223372036854775808 ≤ size ∧ size ≤ 9223372036854775807) (hnow : s.now < 9223372036854775807)
   (hK : ∀ w' FM', Fr (fun r => FM r ∨ TC c t tb r) w w' → (∀ r, FM' r → FM r ∨ w.heap.size ≤ r) → (∀ r, FM r → FM' r) → Mm w' u m c t tb rb (stR s roots cell at_ size v).2 roots FM' → K (.tuple #[.int .i64 (stR s roots cell at_ size v).1.1, .int .i64 (stR s roots cell at_ size v).1.2]) w') :
   C P 17 #[ptr u, .int .i64 cell, .int .u32 at_, .int .i64 size, .int .u32 v] w K E := by
  have hn := h.n_le
  have hto := @trR_to s roots cell 2 at_
  have hsame := @trR_same s roots cell 2 at_
  apply F17
  unfold S17_0
  with_reducible refine x_box1 oneP ?_; refine x_box1 oneI ?_; refine x_box1 oneI ?_; refine x_load1 (by refine blk_alloc_old' ?_; refine blk_alloc_old' ?_; exact blk_alloc_new) at_0 ?_; refine x_load1 (by refine blk_alloc_old' ?_; exact blk_alloc_new) at_0 ?_; refine x_mkFunc ?_
  generalize hw1 : World.alloc (World.alloc (World.alloc _ _) _) _ = w1
  have e1 : Ext w w1 := by rw [← hw1]; exact (((Fr.refl _ w).alloc _).alloc _).alloc _
  have b5 : w1.heap[w.heap.size]? = some (.cells #[ptr u] 44 (0, 0)) := by rw [← hw1]; refine blk_alloc_old' ?_; refine blk_alloc_old' ?_; exact blk_alloc_new
  have b8 : w1.heap[w.heap.size + 1]? = some (.cells #[.int .i64 size] 3 (0, 0)) := by
    rw [← hw1]; exact blk_alloc_old' (blk_alloc_eq (by rw [size_alloc]))
  have b9 : w1.heap[w.heap.size + 1 + 1]? = some (.cells #[.int .u32 v] 38 (0, 0)) := by
    rw [← hw1]; exact blk_alloc_eq (by rw [size_alloc, size_alloc])
  simp only [size_alloc]
  clear hw1
  have h1 := h.ext e1
  have hlts := h.lts
  have s1 := e1.size
  have hc := hlts c (by simp)
  have ht := hlts t (by simp)
  have htb := hlts tb (by simp)
  refine x_callF (mmuUse_c (cap := [ptr w.heap.size, ptr (w.heap.size + 1), ptr (w.heap.size + 1 + 1)]) h1 hv (by omega) hl hnow (fun hf => ?_) (fun w2 hf hfa e2 h2 => ?_) fun w2 hf hfa e2 h2 => ?_)
  · with_reducible refine x_extract at_0 ?_; refine x_extract at_1 ?_
    have := hK w1 FM (Fr.of_ext e1) (fun r hr => .inl hr) (fun r hr => hr)
    simp only [stR, hf] at this
    exact this h1
  · with_reducible refine x_extract at_0 ?_; refine x_extract at_1 ?_
    have := hK w2 FM (((Fr.of_ext e1).trans e2).mono fun r _ hr => .inr hr) (fun r hr => .inl hr) (fun r hr => hr)
    simp only [stR] at this
    rw [if_neg (by simp [hf]), if_pos hfa] at this
    exact this h2
  · have b5' := e2.get (show ¬ (_ ∨ _ ∨ _) by omega) b5
    have b8' := e2.get (show ¬ (_ ∨ _ ∨ _) by omega) b8
    have b9' := e2.get (show ¬ (_ ∨ _ ∨ _) by omega) b9
    have hub2 := h2.mmu.blk
    obtain ⟨f, hfn, hto'⟩ := hto hfa
    clear hto
    obtain ⟨z, rfl, hz, hzm, hzf⟩ := fits_to (f := f) hf
    obtain ⟨g1, g2, g3, g4, g5, g6, g7⟩ := hsame
    have hm2 := h2.sys.mem
    have hn2 : (accS (trR s roots cell at_ 2).2 (trR s roots cell at_ 2).1.1 (decide ((2 : Int) = 2))).2.n = s.n := g1
    have hM2 : (accS (trR s roots cell at_ 2).2 (trR s roots cell at_ 2).1.1 (decide ((2 : Int) = 2))).2.M = s.M := g2
    rw [hn2, hM2] at hm2
    have fin := hK
    simp only [stR] at fin
    rw [if_neg (by simp [hf]), if_neg (fun hx => hx hfa)] at fin
    rw [show decide ((2 : Int) = 2) = true from rfl] at *
    simp only [Int.toNat_natCast] at fin
    generalize accS (trR s roots cell at_ 2).2 (trR s roots cell at_ 2).1.1 true = A at *
    generalize trR s roots cell at_ 2 = T at *
    obtain ⟨⟨to, cy, fault⟩, s1⟩ := T
    obtain ⟨acy, s2⟩ := A
    simp only at *
    subst hto'
    apply F40
    unfold S40_0
    with_reducible refine XQ.of rfl ?_; refine x_load1 ‹_› at_0 ?_; refine qstep ?_; refine XQ.of rfl ?_; refine x_nil ?_; refine qstep ?_; refine XQ.of rfl ?_; refine x_field0 ?_; refine qstep ?_; refine XQ.of rfl ?_; refine x_load1 ‹_› at_0 ?_; refine qstep ?_; refine XQ.of rfl ?_; refine x_load1 ‹_› at_0 ?_; refine qstep ?_; refine XQ.of rfl ?_; refine x_load1 ‹_› at_0 ?_; refine qstep ?_
    refine x_callF (Store_c (hm2.ext (Ext.drw_self w2)) (by omega) hvv (by omega) (fun hx => by omega) (fun _ hx => ?_) (fun _ _ hx => by omega) fun z' w3 F' hz' _ _ _ e3 k1 k2 k3 => ?_)
    · exact absurd (by exact_mod_cast hzm) hx
    · obtain rfl : z = z' := by omega
      have e3' : Fr FM w2 w3 := (Fr.of_ext (Ext.drw_self w2)).trans e3
      have s2' := e2.size
      obtain ⟨q1, q2⟩ := h2.fm
      obtain ⟨f1, f2, f3, f4⟩ := h2.sys.fm
      have notF : ∀ r, ¬ FM r → r < w2.heap.size → ¬ F' r := fun r hr hlt hF => by
        rcases k1 r hF with hx | hx
        · exact hr hx
        · have : w2.heap.size ≤ r := hx
          omega
      have hl2 := h2.lts
      with_reducible refine x_extract at_0 ?_; refine x_extract at_1 ?_
      refine fin w3 F' ((((Fr.of_ext e1).trans e2).mono fun r _ hr => .inr hr).trans' e3' fun r hr _ => .inl hr) (fun r hr => ?_) k2 ?_
      · rcases k1 r hr with hx | hx
        · exact .inl hx
        · have : w2.heap.size ≤ r := hx
          exact .inr (by omega)
      · refine ⟨⟨by rw [hn2]; exact k3, h2.sys.tlb.frame e3' f1 f2, h2.sys.ca.frame e3' f3, h2.sys.glob.fr e3' f4, h2.sys.te, ⟨notF _ f1 (hl2 _ (by simp)), notF _ f2 (hl2 _ (by simp)), notF _ f3 (hl2 _ (by simp)), notF _ f4 (hl2 _ (by simp))⟩, h2.sys.ne⟩,
          h2.mmu.frame e3' q1 q2, ⟨notF _ q1 (hl2 _ (by simp)), notF _ q2 (hl2 _ (by simp))⟩, h2.ne⟩
end Go.Eng
namespace Go.Eng
open Go.Proofs Go.MapKept
variable {w : World} {K : Value → World → Prop} {E : List PanicEntry → World → Prop}
def flR (s : MS) : Nat × MS := (2 ^ s.la + 8 * dirtyN (linesR s.S (2 ^ s.la)), { s with L := [], S := fun _ => [] })
theorem Flush_m {u m c t tb rb : Nat} {s : MS} {roots : Int → Option Nat} {FM : Nat → Prop} (h : Mm w u m c t tb rb s roots FM)
   (hK : ∀ w', Fr (TC c t tb) w w' → Mm w' u m c t tb rb (flR s).2 roots FM → K (.int .i64 (flR s).1) w') : C P 12 #[ptr u] w K E := by
  have hub := h.mmu.blk
  obtain ⟨f1, f2, f3, f4⟩ := h.sys.fm
  obtain ⟨n1, n2, n3, n4, n5, n6⟩ := h.sys.ne
  obtain ⟨q1, q2, q3, q4, q5, q6, q7⟩ := h.ne
  apply F12
  unfold S12_0
  with_reducible refine x_nil ?_; refine x_field0 ?_; refine x_load1 ‹_› at_2 ?_
  refine x_callF (TlbFlush_c h.sys.tlb fun w1 e1 ht => ?_)
  have h1 : Mm w1 u m c t tb rb { s with L := [] } roots FM := mm_tlb h (e1.mono fun r _ hr => .inr hr) ⟨rfl, rfl, rfl, rfl, rfl, rfl, rfl⟩ ht (by simp)
  have hub1 := h1.mmu.blk
  with_reducible refine x_nil ?_; refine x_field0 ?_; refine x_load1 ‹_› at_1 ?_
  refine x_callF (cacheFlush_c h1.sys.ca fun w2 e2 hc => ?_)
  have h2 : Mm w2 u m c t tb rb { s with L := [], S := fun _ => [] } roots FM :=
    ⟨⟨h1.sys.mem.frame e2 fun r hr he => f3 (he ▸ hr), h1.sys.tlb.frame e2 n2 n3, hc, h1.sys.glob.fr e2 (Ne.symm n6), h1.sys.te, h.sys.fm, h.sys.ne⟩, h1.mmu.frame e2 q1 q4, h.fm, h.ne⟩
  with_reducible refine x_extract at_0 ?_; refine x_extract at_1 ?_
  exact hK w2 ((e1.mono fun r _ hr => .inr (.inr hr)).trans (e2.mono fun r _ hr => .inl hr)) h2
def rootsU (roots : Int → Option Nat) (cell : Int) (table : Nat) : Int → Option Nat := fun k => if k = cell then some table else roots k
theorem Root_m {u m c t tb rb table : Nat} {cell : Int} {s : MS} {roots : Int → Option Nat} {FM : Nat → Prop} (h : Mm w u m c t tb rb s roots FM) (hc : 1 ≤ cell ∧ cell ≤ 8) (ht : table < 4294967296 ∧ table % 4096 = 0)
   (hK : ∀ w', Fr (fun r => r = rb ∨ r = tb) w w' → Mm w' u m c t tb rb { s with L := notOf cell s.L } (rootsU roots cell table) FM → K (.int .i64 0) w') : C P 23 #[ptr u, .int .i64 cell, .int .u32 table] w K E := by
  have hub := h.mmu.blk
  obtain ⟨f1, f2, f3, f4⟩ := h.sys.fm
  obtain ⟨n1, n2, n3, n4, n5, n6⟩ := h.sys.ne
  obtain ⟨q1, q2, q3, q4, q5, q6, q7⟩ := h.ne
  obtain ⟨p1, p2⟩ := h.fm
  obtain ⟨es, ck, f, hrb, hmf, hroots⟩ := h.mmu.map
  have hlts := h.lts
  have lrb := hlts rb (by simp)
  have lu := hlts u (by simp)
  have l1 := hlts 1 (by simp)
  have hrb1 : rb ≠ 1 := by
    intro he
    obtain ⟨T, fz, hg⟩ := h.sys.glob
    rw [← he, hrb] at hg
    cases hg
  apply F23
  unfold S23_0
  refine x_lss (fun hc => by omega) (fun hc => ?_)
  with_reducible refine XG.yes ?_; refine x_val ?_; refine XG.yes ?_
  refine x_gtr (fun hc => by omega) (fun hc => ?_)
  with_reducible refine x_pickF ?_; refine XG.yes ?_; refine x_val ?_; refine XG.yes ?_; refine x_remN (by omega) (by omega) ?_; refine XG.yes ?_
  refine x_neq (fun hc => by omega) (fun hc => ?_)
  with_reducible refine x_pickF ?_; refine Cnd.no ?_; refine x_nil ?_; refine x_field0 ?_; refine x_load1 ‹_› (at_S at_2) ?_
  refine x_mapUpd hrb hmf keyI fun es' ck' hm' hsz => ?_
  generalize hw1 : setBlk w _ _ = w1
  have e1 : Fr (fun r => r = rb) w w1 := by rw [← hw1]; exact Fr.set1 (Fr.refl _ _)
  have b1 : w1.heap[rb]? = some (.map es' ck') := by rw [← hw1]; exact blk_set_same lrb
  clear hw1
  have h1 : Mm w1 u m c t tb rb s (rootsU roots cell table) FM := by
    refine ⟨h.sys.frame e1 fun r hr he => ?_, ⟨e1.get q7 hub, ⟨es', ck', _, b1, hm', fun k => ?_⟩, fun k r hr => ?_⟩, h.fm, h.ne⟩
    · rcases hr with hr | hr | hr | hr | hr
      · exact p2 (he ▸ hr)
      · omega
      · omega
      · omega
      · omega
    · unfold rootsU
      by_cases hk : k = cell
      · subst hk; rw [if_pos rfl, upd_same]; rfl
      · rw [if_neg hk, upd_ne (by simpa using hk), hroots]
    · unfold rootsU at hr
      split at hr
      · cases hr; exact ht.1
      · exact h.mmu.lt k r hr
  have hub1 := h1.mmu.blk
  with_reducible refine x_nil ?_; refine x_field0 ?_; refine x_load1 ‹_› at_2 ?_; refine x_bs_1 oneI ?_
  generalize hw2 : World.alloc _ _ = w2
  have e2 : Ext w1 w2 := by rw [← hw2]; exact (Fr.refl _ w1).alloc _
  have b2 : w2.heap[w1.heap.size]? = some (.cells #[.int .i64 cell] 3 (0, 0)) := by rw [← hw2]; exact blk_alloc_new
  clear hw2
  have h2 := h1.ext e2
  refine x_callF (FlushCell_c h2.sys.tlb b2 fun w3 n e3 ht3 => ?_)
  skip
  refine hK w3 (((e1.mono fun r _ hr => .inl hr).trans (Fr.of_ext e2)).trans (e3.mono fun r _ hr => .inr hr)) (mm_tlb h2 (e3.mono fun r _ hr => .inr hr) ⟨rfl, rfl, rfl, rfl, rfl, rfl, rfl⟩ ht3 fun e he => h.sys.te e ?_)
  exact (List.mem_filter.1 he).1
theorem New_m {m c t tb : Nat} {s : MS} {FM : Nat → Prop} (h : Sys w m c t tb s FM) (hl : m < w.heap.size ∧ c < w.heap.size)
   (hK : ∀ w' u rb, Ext w w' → w.heap.size ≤ u → w.heap.size ≤ rb → Mm w' u m c t tb rb s (fun _ => none) FM → K (.tuple #[ptr u, .int .i64 0]) w') : C P 44 #[ptr m, ptr c, ptr t] w K E := by
  have hm := h.mem.lt
  obtain ⟨mb, f, hmf⟩ := h.mem
  have lt := h.tlb.lt
  apply F44
  unfold S44_0
  with_reducible refine x_eqlP ?_; refine XG.yes ?_; refine x_val ?_; refine XG.yes ?_; refine x_eqlP ?_; refine x_pickF ?_; refine XG.yes ?_; refine x_val ?_; refine XG.yes ?_; refine x_eqlP ?_; refine x_pickF ?_; refine Cnd.no ?_; refine x_makeMap ?_; refine x_buildS (by apply fill_1; exact inferInstance; exact oneP; exact set_0; apply fill_1; exact inferInstance; exact oneP; apply set_S; exact set_0; rotate_left; apply fill_1; exact inferInstance; exact oneP; apply set_S; apply set_S; exact set_0; rotate_left; rotate_left; apply fill_1; exact inferInstance; exact oneM; apply set_S; apply set_S; apply set_S; exact set_0; rotate_left; rotate_left; rotate_left; exact fill_nil; rotate_left; rotate_left; rotate_left; rotate_left; rotate_left; rotate_left; rotate_left; rotate_left) ?_; refine x_boxA ?_
  simp only [size_alloc]
  have e : Ext w ((w.alloc (.map #[] 0)).alloc (.cells #[ptr m, ptr c, ptr t, .map (some w.heap.size)] 85 (0, 0))) := ((Fr.refl _ w).alloc _).alloc _
  refine hK _ (w.heap.size + 1) w.heap.size e (by omega) (by omega) ⟨h.ext e, ⟨by exact blk_alloc_eq (by simp only [size_set, size_alloc]), ⟨#[], 0, fun _ => none, by refine blk_alloc_old' ?_; exact blk_alloc_new, MapOf.empty _ _, fun _ => rfl⟩, fun _ _ h => by cases h⟩, ⟨fun hF => ?_, fun hF => ?_⟩, by omega⟩
  · have := hmf.fin _ hF; omega
  · have := hmf.fin _ hF; omega
end Go.Eng
namespace Go.Eng
open Go.Proofs Go.MapKept
variable {w : World} {K : Value → World → Prop} {E : List PanicEntry → World → Prop}
theorem words_c {at_ fid : Nat} {n : Int} {cap : List Value} [CF P fid] (J : Nat → Nat → World → Prop) (hv : at_ < 4294967296) (hl : -9223372036854775808 ≤ n ∧ n ≤ 9223372036854775807)
   (hf : msgR at_ n = false → K (.tuple #[.int .i64 0, .int .i64 1]) w) (h0 : msgR at_ n = true → J 0 0 w)
   (hs : ∀ (j cy : Nat) w, msgR at_ n = true → J j cy w → 4 * (j : Int) < n → C P fid (List.toArray ([.int .i64 (4 * j : Nat), .int .u32 ((at_ + 4 * j) % 4294967296 : Nat)] ++ cap)) w
     (fun v w' => ∃ (cy' : Nat) (fault : Int), v = .tuple #[.int .i64 cy', .int .i64 fault] ∧ cy' ≤ 60 ∧ (fault ≠ 0 → K (.tuple #[.int .i64 (cy + cy' : Nat), .int .i64 fault]) w') ∧ (fault = 0 → J (j + 1) (cy + cy') w')) E)
   (he : ∀ (j cy : Nat) w, msgR at_ n = true → n = 4 * (j : Int) → J j cy w → K (.tuple #[.int .i64 cy, .int .i64 0]) w) :
   C P 82 #[.int .u32 at_, .int .i64 n, .func (.func fid) (List.toArray []) (List.toArray cap)] w K E := by
  apply F82
  unfold S82_0
  refine x_callF (message_c hv hl ?_)
  cases hm : msgR at_ n with
  | false =>
    with_reducible refine x_notF ?_; refine Cnd.yes ?_
    exact hf hm
  | true =>
    have hm' := hm
    unfold msgR at hm'
    rw [decide_eq_true_eq] at hm'
    obtain ⟨m1, m2, m3, m4⟩ := hm'
    with_reducible refine x_notT ?_; refine Cnd.no ?_
    unfold S82_l5
    refine ⟨fun v8 v9 w' => ∃ j cy : Nat, v8 = .int .i64 cy ∧ v9 = .int .i64 (4 * j : Nat) ∧ 4 * (j : Int) ≤ n ∧ cy ≤ 60 * j ∧ J j cy w', fun _ v9 _ => match v9 with | .int _ i => (n - i).toNat | _ => 0, ⟨0, 0, rfl, rfl, by omega, by omega, h0 hm⟩, ?_⟩
    rintro _ _ w1 ⟨j, cy, rfl, rfl, hj, hcy, hJ⟩
    unfold S82_b5
    refine x_lss (fun hc => ?_) (fun hc => ?_)
    with_reducible refine Cnd.yes ?_; refine x_convN (by rw [IntKind.wrap_u32]; omega) ?_
    rotate_left
    with_reducible refine Cnd.no ?_
    rotate_left
    · refine x_add ?_
      have e1 : IntKind.u32.wrap ((at_ : Int) + ((4 * j : Nat) : Int)) = (((at_ + 4 * j) % 4294967296 : Nat) : Int) := by rw [IntKind.wrap_u32]; omega
      rw [e1]
      refine x_callV (args := [.int .i64 (4 * j : Nat), .int .u32 ((at_ + 4 * j) % 4294967296 : Nat)]) ?_
      refine C_mono (hs j cy w1 hm hJ (by omega)) (fun v w2 hx => ?_) fun _ _ hx => hx
      obtain ⟨cy', fault, rfl, k1, k2, k3⟩ := hx
      with_reducible refine x_extract at_0 ?_; refine x_extract at_1 ?_; refine x_addN (by rw [IntKind.wrap_i64]; omega) ?_
      refine x_neq (fun hc => ?_) (fun hc => ?_)
      with_reducible refine Cnd.yes ?_
      rotate_left
      with_reducible refine Cnd.no ?_; refine x_addN (by rw [IntKind.wrap_i64]; omega) ?_
      rotate_left
      · have := k2 ‹_›
        rw [show (cy : Int) + (cy' : Int) = ((cy + cy' : Nat) : Int) by omega]
        exact this
      · refine ⟨⟨j + 1, cy + cy', by congr 1, by congr 1, by omega, by omega, k3 ‹_›⟩, by simp only; omega⟩
    · unfold S82_j11
      exact he j cy w1 hm (by omega) hJ
theorem getR_same {s : MS} {roots : Int → Option Nat} {cell a size : Int} {at_ : Nat} : (getR s roots cell at_ size a).2.n = s.n ∧ (getR s roots cell at_ size a).2.M = s.M ∧ (getR s roots cell at_ size a).2.slots = s.slots ∧ (getR s roots cell at_ size a).2.la = s.la ∧ (getR s roots cell at_ size a).2.lb = s.lb ∧ (getR s roots cell at_ size a).2.ways = s.ways ∧ (getR s roots cell at_ size a).2.now ≤ s.now + 1 := by
  have h := @trR_same s roots cell a at_
  unfold getR
  split
  · simp
  · simp only
    split
    · exact h
    · exact h
theorem getR_cy {s : MS} {roots : Int → Option Nat} {cell a size : Int} {at_ : Nat} (hM : ∀ x, s.M x < 256) : (getR s roots cell at_ size a).1.2.1 ≤ 60 := by
  have h := trR_cy (roots := roots) (cell := cell) (a := a) (at_ := at_) hM
  unfold getR
  split
  · simp
  · simp only
    split
    · simp only; omega
    · have := accS_cy (s := (trR s roots cell at_ a).2) (a := (trR s roots cell at_ a).1.1) (wr := decide (a = 2))
      simp only; omega
theorem getR_v {s : MS} {roots : Int → Option Nat} {cell a size : Int} {at_ : Nat} (hM : ∀ x, s.M x < 256) : (getR s roots cell at_ size a).1.1 < 4294967296 := by
  unfold getR
  split
  · simp
  · rename_i hf
    simp only
    split
    · simp
    · obtain ⟨z, rfl, hz, _⟩ := fits_to (f := 0) (show fitsR at_ size = true by simpa using hf)
      have := ldv_lt hM (trR s roots cell at_ a).1.1 z
      simp only [Int.toNat_natCast]
      have h2 : 2 ^ (8 * z) ≤ 4294967296 := by rcases hz with rfl | rfl | rfl <;> decide
      omega
def readL (s : MS) (roots : Int → Option Nat) (cell : Int) : List Nat → (Nat × Int × List Nat) × MS
  | [] => ((0, 0, []), s)
  | a :: l =>
    let g := getR s roots cell a 4 1
    if g.1.2.2 ≠ 0 then ((g.1.2.1, g.1.2.2, []), g.2) else
    let q := readL g.2 roots cell l
    ((g.1.2.1 + q.1.1, q.1.2.1, stb g.1.1 ++ q.1.2.2), q.2)
def addrs (at_ n : Nat) : List Nat := (List.range (n / 4)).map fun j => (at_ + 4 * j) % 4294967296
theorem addrs_drop {at_ n j : Nat} (h : j < n / 4) : (addrs at_ n).drop j = (at_ + 4 * j) % 4294967296 :: (addrs at_ n).drop (j + 1) := by
  rw [List.drop_eq_getElem_cons (by simpa [addrs] using h)]
  simp [addrs]
def OwnB (w : World) (b : Nat) (v : Value) (l : List Nat) : Prop := w.ownsRow b 5 1 v l.length (u8s l)
theorem OwnB.nil {b : Nat} : OwnB w b (.slice none 0 0) [] := World.ownsRow_nil w b 5 1
theorem OwnB.frame {w' : World} {S : Nat → Prop} {b : Nat} {v : Value} {l : List Nat} (h : OwnB w b v l) (hf : Fr S w w') (hs : ∀ r, b ≤ r → r < w.heap.size → ¬ S r) : OwnB w' b v l := by
  refine ⟨h.1, ?_⟩
  rcases h.2 with hn | ⟨g, cap, cur, rfl, hb, hg, rest⟩
  · exact .inl hn
  · exact .inr ⟨g, cap, cur, rfl, hb, hf.get (hs g hb (lt_of_blk hg)) hg, rest⟩
theorem OwnB.mono {b b' : Nat} {v : Value} {l : List Nat} (h : OwnB w b v l) (hb : b' ≤ b) : OwnB w b' v l := by
  refine ⟨h.1, ?_⟩
  rcases h.2 with hn | ⟨g, cap, cur, rfl, hb', hg, rest⟩
  · exact .inl hn
  · exact .inr ⟨g, cap, cur, rfl, by omega, hg, rest⟩
end Go.Eng
namespace Go.Eng
open Go.Proofs Go.MapKept
variable {w : World} {K : Value → World → Prop} {E : List PanicEntry → World → Prop}
instance : CF P 83 := c83
instance : CF P 84 := c84
theorem x_bytes4 {v : Nat} {K : Value → World → Prop} (hv : v < 4294967296) (h : ∀ w', Ext w w' → Holds w' ⟨w.heap.size, 0, none⟩ (u8s (stb v)) → w'.heap.size = w.heap.size + 1 → K (.slice (some ⟨w.heap.size, 0, none⟩) 4 4) w') :
   X P (.conv 38 5 (.int .u32 v)) 5 w (fun t22 w_9 =>
  X P (.bin .shr 38 false true (.int .u32 v) (Value.int IntKind.u64 8)) 38 w_9 (fun t24 w_10 =>
  X P (.conv 38 5 t24) 5 w_10 (fun t25 w_11 =>
  X P (.bin .shr 38 false true (.int .u32 v) (Value.int IntKind.u64 16)) 38 w_11 (fun t27 w_12 =>
  X P (.conv 38 5 t27) 5 w_12 (fun t28 w_13 =>
  X P (.bin .shr 38 false true (.int .u32 v) (Value.int IntKind.u64 24)) 38 w_13 (fun t30 w_14 =>
  X P (.conv 38 5 t30) 5 w_14 (fun t31 w_15 =>
  X P (.buildSlice 34 4 #[(0, t22), (1, t25), (2, t28), (3, t31)]) 34 w_15 K E) E) E) E) E) E) E) E := by
  have c8 : ∀ x : Nat, IntKind.u8.wrap (x : Int) = ((x % 256 : Nat) : Int) := fun x => by rw [IntKind.wrap_u8]; omega
  refine x_conv ?_
  rw [c8]
  refine x_shrN (s := 8) (by decide) ?_
  refine x_conv ?_
  rw [c8]
  refine x_shrN (s := 16) (by decide) ?_
  refine x_conv ?_
  rw [c8]
  refine x_shrN (s := 24) (by decide) ?_
  refine x_conv ?_
  rw [c8]
  refine x_bs_4 oneI oneI oneI oneI ?_
  refine h _ ((Fr.refl _ w).alloc _) ?_ (by rw [size_alloc])
  have := holds_blk (w := w.alloc (.cells #[.int .u8 (v % 256 : Nat), .int .u8 (v / 2 ^ 8 % 256 : Nat), .int .u8 (v / 2 ^ 16 % 256 : Nat), .int .u8 (v / 2 ^ 24 % 256 : Nat)] 5 (0, 0))) (b := w.heap.size) (o := 0) (n := 4) blk_alloc_new (by simp)
  simpa [u8s, stb] using this
theorem rd_word {u m c t tb rb b2 b3 b4 at_ base : Nat} {cell : Int} {i : Int} {s : MS} {roots : Int → Option Nat} {FM : Nat → Prop} {v0 : Value} {l : List Nat} (h : Mm w u m c t tb rb s roots FM) (hv : at_ < 4294967296) (hnow : s.now < 9223372036854775807) (hcell : -9223372036854775808 ≤ cell ∧ cell ≤ 9223372036854775807)
   (h2 : w.heap[b2]? = some (.cells #[ptr u] 44 (0, 0))) (h3 : w.heap[b3]? = some (.cells #[.int .i64 cell] 3 (0, 0))) (h4 : w.heap[b4]? = some (.cells #[v0] 34 (0, 0))) (hown : OwnB w base v0 l) (hl : l.length ≤ 256)
   (hbase : ∀ r, FM r ∨ r = c ∨ r = t ∨ r = tb ∨ r = 1 ∨ r = u ∨ r = rb → r < b2) (h23 : b2 < b3) (h34 : b3 < b4) (hb : b4 < base) (hbs : base ≤ w.heap.size)
   (hK : ∀ w' v', Fr (fun r => TC c t tb r ∨ b4 ≤ r) w w' → Mm w' u m c t tb rb (getR s roots cell at_ 4 1).2 roots FM → w'.heap[b4]? = some (.cells #[v'] 34 (0, 0)) → OwnB w' base v' (l ++ stb (getR s roots cell at_ 4 1).1.1) → K (.tuple #[.int .i64 (getR s roots cell at_ 4 1).1.2.1, .int .i64 (getR s roots cell at_ 4 1).1.2.2]) w') :
   C P 83 (List.toArray ([.int .i64 i, .int .u32 at_] ++ [ptr b2, ptr b3, ptr b4])) w K E := by
  have hgv := getR_v (roots := roots) (cell := cell) (a := 1) (size := 4) (at_ := at_) h.sys.mem.bytes_lt
  have lc := hbase c (by simp)
  have lt := hbase t (by simp)
  have ltb := hbase tb (by simp)
  have l4 := lt_of_blk h4
  apply F83
  unfold S83_0
  with_reducible refine x_load1 ‹_› at_0 ?_; refine x_load1 ‹_› at_0 ?_
  refine x_callF (Load_m h hv (by omega) hnow fun w1 e1 h1 => ?_)
  have h41 := e1.get (show ¬ (_ ∨ _ ∨ _) by omega) h4
  have own1 : OwnB w1 base v0 l := hown.frame e1 fun r hr _ hq => by rcases hq with hq | hq | hq <;> omega
  generalize getR s roots cell at_ 4 1 = G at *
  obtain ⟨⟨v, cy, fault⟩, s1⟩ := G
  simp only at *
  have hs1 := e1.size
  with_reducible refine x_extract at_0 ?_; refine x_extract at_1 ?_; refine x_extract at_2 ?_; refine x_load1 ‹_› at_0 ?_
  refine x_bytes4 hgv fun w2 e2 hH hsz => ?_
  have own2 : OwnB w2 base v0 l := own1.frame e2 fun r _ _ hq => hq
  have h42 := e2.get h41
  have hs2 := e2.size
  refine x_append (size := 1) (news := u8s (stb v)) own2 (by simp [u8s, stb]) hH u8s_one (by simp [maxLen]; omega) (by omega) (by omega) fun v' w3 o3 g3 => ?_
  have e3 : Fr (fun r => base ≤ r) w2 w3 := (Fr.refl _ w2).grown g3 fun r hr _ => (World.ownsRow.lt own2 r hr).1
  have h43 := e3.get (show ¬ base ≤ b4 by omega) h42
  have own3 : OwnB w3 base v' (l ++ stb v) := by
    have e : u8s l ++ u8s (stb v) = u8s (l ++ stb v) := by simp [u8s]
    rw [e] at o3
    have : (l ++ stb v).length = l.length + 4 := by simp [stb]
    simpa [OwnB, this] using o3
  obtain ⟨a, cp, rfl⟩ := own_len own3
  with_reducible refine x_store1 ‹_› oneS set_0 ?_
  generalize hw4 : setBlk w3 _ _ = w4
  have e4 : Fr (fun r => r = b4) w3 w4 := by rw [← hw4]; exact Fr.set1 (Fr.refl _ _)
  have h44 : w4.heap[b4]? = some (.cells #[.slice a (l ++ stb v).length cp] 34 (0, 0)) := by rw [← hw4]; exact blk_set_same (lt_of_blk h43)
  clear hw4
  have e14 : Fr (fun r => b4 ≤ r) w1 w4 := ((Fr.of_ext e2).trans (e3.mono fun r _ hr => by omega)).trans (e4.mono fun r _ hr => by omega)
  refine hK w4 _ ((e1.mono fun r _ hr => .inl hr).trans (e14.mono fun r _ hr => .inr hr)) (h1.frame e14 fun r hr => ?_) h44 (own3.frame e4 fun r hr _ hq => by omega)
  have := hbase r hr
  omega
theorem readL_same {roots : Int → Option Nat} {cell : Int} : ∀ (l : List Nat) (s : MS), (readL s roots cell l).2.n = s.n ∧ (readL s roots cell l).2.M = s.M ∧ (readL s roots cell l).2.slots = s.slots ∧ (readL s roots cell l).2.la = s.la ∧ (readL s roots cell l).2.lb = s.lb ∧ (readL s roots cell l).2.ways = s.ways ∧ (readL s roots cell l).2.now ≤ s.now + l.length
  | [], s => by simp [readL]
  | a :: l, s => by
    have h := @getR_same s roots cell 1 4 a
    simp only [readL]
    split
    · obtain ⟨a1, a2, a3, a4, a5, a6, a7⟩ := h
      exact ⟨a1, a2, a3, a4, a5, a6, by simp only [List.length_cons]; omega⟩
    · have h2 := readL_same (roots := roots) (cell := cell) l (getR s roots cell a 4 1).2
      simp only [List.length_cons]
      obtain ⟨a1, a2, a3, a4, a5, a6, a7⟩ := h
      obtain ⟨b1, b2, b3, b4, b5, b6, b7⟩ := h2
      exact ⟨b1.trans a1, b2.trans a2, b3.trans a3, b4.trans a4, b5.trans a5, b6.trans a6, by omega⟩
theorem Read_m {u m c t tb rb at_ : Nat} {n cell : Int} {s : MS} {roots : Int → Option Nat} {FM : Nat → Prop} (h : Mm w u m c t tb rb s roots FM) (hv : at_ < 4294967296) (hl : -9223372036854775808 ≤ n ∧ n ≤ 9223372036854775807) (hnow : s.now < 9223372036854775000) (hcell : -9223372036854775808 ≤ cell ∧ cell ≤ 9223372036854775807)
   (hf : msgR at_ n = false → ∀ w', Ext w w' → K (.tuple #[.slice none 0 0, .int .i64 0, .int .i64 1]) w')
   (hK : ∀ w' v, msgR at_ n = true → Fr (TC c t tb) w w' → Mm w' u m c t tb rb (readL s roots cell (addrs at_ n.toNat)).2 roots FM → ((readL s roots cell (addrs at_ n.toNat)).1.2.1 ≠ 0 → v = .slice none 0 0) →
     ((readL s roots cell (addrs at_ n.toNat)).1.2.1 = 0 → OwnB w' w.heap.size v (readL s roots cell (addrs at_ n.toNat)).1.2.2) →
     K (.tuple #[v, .int .i64 (readL s roots cell (addrs at_ n.toNat)).1.1, .int .i64 (readL s roots cell (addrs at_ n.toNat)).1.2.1]) w') :
   C P 62 #[ptr u, .int .i64 cell, .int .u32 at_, .int .i64 n] w K E := by
  have hM := h.sys.mem.bytes_lt
  apply F62
  unfold S62_0
  with_reducible refine x_box1 oneP ?_; refine x_box1 oneI ?_; refine x_alloc ?_; refine x_mkFunc ?_
  generalize hw1 : World.alloc (World.alloc (World.alloc _ _) _) _ = w1
  have e1 : Ext w w1 := by rw [← hw1]; exact (((Fr.refl _ w).alloc _).alloc _).alloc _
  have b2 : w1.heap[w.heap.size]? = some (.cells #[ptr u] 44 (0, 0)) := by rw [← hw1]; refine blk_alloc_old' ?_; refine blk_alloc_old' ?_; exact blk_alloc_new
  have b3 : w1.heap[w.heap.size + 1]? = some (.cells #[.int .i64 cell] 3 (0, 0)) := by
    rw [← hw1]; exact blk_alloc_old' (blk_alloc_eq (by rw [size_alloc]))
  have b4 : w1.heap[w.heap.size + 1 + 1]? = some (.cells #[.slice none 0 0] 34 (0, 0)) := by
    rw [← hw1]; exact blk_alloc_eq (by rw [size_alloc, size_alloc])
  have hs1 : w1.heap.size = w.heap.size + 1 + 1 + 1 := by rw [← hw1]; simp only [size_alloc]
  simp only [size_alloc]
  clear hw1
  have h1 := h.ext e1
  have hlts := h.lts
  have lc := hlts c (by simp)
  have lt := hlts t (by simp)
  have ltb := hlts tb (by simp)
  have fin : ∀ (cy : Nat) (fault : Int) (v : Value) (l : List Nat) (w2 : World), msgR at_ n = true → Fr (fun r => TC c t tb r ∨ w.heap.size + 1 + 1 ≤ r) w1 w2 → Mm w2 u m c t tb rb (readL s roots cell (addrs at_ n.toNat)).2 roots FM →
      w2.heap[w.heap.size + 1 + 1]? = some (.cells #[v] 34 (0, 0)) → OwnB w2 (w.heap.size + 1 + 1 + 1) v l → (readL s roots cell (addrs at_ n.toNat)).1.1 = cy → (readL s roots cell (addrs at_ n.toNat)).1.2.1 = fault → (fault = 0 → (readL s roots cell (addrs at_ n.toNat)).1.2.2 = l) →
      X P (.extract (.tuple #[.int .i64 cy, .int .i64 fault]) 0) 3 w2 (fun t19 w_6 =>
  X P (.extract (.tuple #[.int .i64 cy, .int .i64 fault]) 1) 49 w_6 (fun t20 w_7 =>
  X P (.bin .neq 49 false true t20 (Value.int IntKind.i64 0)) 4 w_7 (fun t22 w_8 =>
  Cnd t22 (
    X P (.store 34 (ptr (w.heap.size + 1 + 1)) (Value.slice none 0 0)) 0 w_8 (fun _ w_9 =>
    S62_j5 (ptr (w.heap.size + 1 + 1)) t19 t20 w_9 K E) E) (
    S62_j5 (ptr (w.heap.size + 1 + 1)) t19 t20 w_8 K E)) E) E) E := fun cy fault v l w2 hm e2 h2 hb4 ho r1 r2 r3 => by
    subst r1 r2
    have e02 : Fr (TC c t tb) w w2 := (Fr.of_ext e1).trans' e2 fun r hr hlt => by rcases hr with hr | hr; exact hr; omega
    obtain ⟨a, cp, rfl⟩ := own_len ho
    with_reducible refine x_extract at_0 ?_; refine x_extract at_1 ?_
    refine x_neq (fun hc => ?_) (fun hc => ?_)
    with_reducible refine Cnd.yes ?_; refine x_store1 ‹_› oneS set_0 ?_
    rotate_left
    with_reducible refine Cnd.no ?_
    rotate_left
    · generalize hw3 : setBlk w2 _ _ = w3
      have e3 : Fr (fun r => r = w.heap.size + 1 + 1) w2 w3 := by rw [← hw3]; exact Fr.set1 (Fr.refl _ _)
      have b3' : w3.heap[w.heap.size + 1 + 1]? = some (.cells #[.slice none 0 0] 34 (0, 0)) := by rw [← hw3]; exact blk_set_same (lt_of_blk hb4)
      clear hw3
      unfold S62_j5
      with_reducible refine x_load1 ‹_› at_0 ?_
      exact hK w3 _ hm (e02.trans' e3 fun r hr hlt => by omega) (h2.frame e3 fun r hr he => by have := hlts r hr; omega) (fun _ => rfl) (fun hz => absurd hz ‹_›)
    · unfold S62_j5
      with_reducible refine x_load1 ‹_› at_0 ?_
      have hz : (readL s roots cell (addrs at_ n.toNat)).1.2.1 = 0 := by assumption
      exact hK w2 _ hm e02 h2 (fun hx => absurd hz hx) (fun _ => by rw [r3 hz]; exact ho.mono (by omega))
  refine x_callF (words_c (cap := [ptr w.heap.size, ptr (w.heap.size + 1), ptr (w.heap.size + 1 + 1)])
    (fun j cy w' => ∃ sj v l, Fr (fun r => TC c t tb r ∨ w.heap.size + 1 + 1 ≤ r) w1 w' ∧ Mm w' u m c t tb rb sj roots FM ∧ w'.heap[w.heap.size + 1 + 1]? = some (.cells #[v] 34 (0, 0)) ∧ OwnB w' (w.heap.size + 1 + 1 + 1) v l ∧ l.length = 4 * j ∧ sj.now ≤ s.now + j ∧ (∀ x, sj.M x < 256) ∧
      readL s roots cell (addrs at_ n.toNat) = ((cy + (readL sj roots cell ((addrs at_ n.toNat).drop j)).1.1, (readL sj roots cell ((addrs at_ n.toNat).drop j)).1.2.1, l ++ (readL sj roots cell ((addrs at_ n.toNat).drop j)).1.2.2), (readL sj roots cell ((addrs at_ n.toNat).drop j)).2)) hv hl (fun hm => ?_) (fun hm => ?_) (fun j cy w2 hm hJ hj => ?_) fun j cy w2 hm hj hJ => ?_)
  · with_reducible refine x_extract at_0 ?_; refine x_extract at_1 ?_
    refine x_neq (fun hc => ?_) (fun hc => by omega)
    with_reducible refine Cnd.yes ?_; refine x_store1 ‹_› oneS set_0 ?_
    unfold S62_j5
    have e4 : Ext w (setBlk w1 (w.heap.size + 1 + 1) (.cells #[.slice none 0 0] 34 (0, 0))) := e1.set (fun h => by omega) _
    with_reducible refine x_load1 (by exact blk_set_same (by exact lt_of_blk ‹_›)) at_0 ?_
    exact hf hm _ e4
  · exact ⟨s, _, [], Fr.refl _ _, h1, b4, OwnB.nil, rfl, by omega, hM, by simp⟩
  · obtain ⟨sj, v, l, e2, h2, hb4, ho, hlen, hno, hMj, heq⟩ := hJ
    have hm' := hm
    unfold msgR at hm'
    rw [decide_eq_true_eq] at hm'
    obtain ⟨m1, m2, m3, m4⟩ := hm'
    have hs2 := e2.size
    rw [addrs_drop (by omega)] at heq
    have hcy := getR_cy (roots := roots) (cell := cell) (a := 1) (size := 4) (at_ := (at_ + 4 * j) % 4294967296) hMj
    have hsame := @getR_same sj roots cell 1 4 ((at_ + 4 * j) % 4294967296)
    refine rd_word (base := w.heap.size + 1 + 1 + 1) h2 (by omega) (by omega) hcell (e2.get (show ¬ ((_ ∨ _ ∨ _) ∨ _) by omega) b2) (e2.get (show ¬ ((_ ∨ _ ∨ _) ∨ _) by omega) b3) hb4 ho (by omega) hlts (by omega) (by omega) (by omega) (by omega) fun w3 v' e3 h3 hb4' ho' => ?_
    simp only [readL] at heq
    generalize getR sj roots cell ((at_ + 4 * j) % 4294967296) 4 1 = G at *
    obtain ⟨⟨gv, gcy, gf⟩, s3⟩ := G
    simp only at *
    refine ⟨gcy, gf, rfl, hcy, fun hfa => ?_, fun hfa => ?_⟩
    · rw [if_pos hfa] at heq
      refine fin (cy + gcy) gf v' _ w3 hm (e2.trans e3) (by rw [heq]; exact h3) hb4' ho' (by rw [heq]) (by rw [heq]) fun hz => absurd hz hfa
    · rw [if_neg (fun hx => hx hfa)] at heq
      refine ⟨s3, v', _, e2.trans e3, h3, hb4', ho', by simp [stb, hlen]; omega, by omega, by rw [hsame.2.1]; exact hMj, ?_⟩
      rw [heq]
      simp only [Nat.add_assoc, List.append_assoc]
  · obtain ⟨sj, v, l, e2, h2, hb4, ho, hlen, hno, hMj, heq⟩ := hJ
    have hd : (addrs at_ n.toNat).drop j = [] := List.drop_of_length_le (by simp [addrs]; omega)
    rw [hd] at heq
    simp only [readL, Nat.add_zero, List.append_nil] at heq
    exact fin cy 0 v l w2 hm e2 (by rw [heq]; exact h2) hb4 ho (by rw [heq]) (by rw [heq]) fun _ => by rw [heq]
end Go.Eng
namespace Go.Eng
open Go.Proofs Go.MapKept
variable {w : World} {K : Value → World → Prop} {E : List PanicEntry → World → Prop}
theorem x_appendZ {ty t tn e : TypeId} {cs : Array Bool} {bytes : Nat} {z : Value} {kn : IntKind} {k base : Nat} [hu : UT P t (.slice e)] [hn : UT P tn (.int kn)] [he : EL P e 1 bytes #[z]] (hk : 0 < k) (hk2 : k ≤ 16777216) (hb : bytes ≤ 16) (hbase : base ≤ w.heap.size)
    (h : ∀ v' w', w'.ownsRow base e 1 v' k (List.replicate k z) → Ext w w' → (∃ c, v' = .slice (some ⟨w.heap.size, 0, none⟩) k c ∧ k ≤ c) → K v' w') : X P (.callB .append #[t, tn] cs #[.slice none 0 0, .int .i64 k]) ty w K E := by
  obtain ⟨i, zv, g1, g2, g3, g4, hz, g5, g6⟩ := he.h
  have hk1 : k * i.bytes ≤ 16777216 * 16 := Nat.mul_le_mul hk2 (by rw [g4]; exact hb)
  have hfit : Builtin.nextslicecap (0 + k) 0 * i.bytes ≤ 281474976710656 := growslice_fits (by omega) (by rw [Nat.zero_add]; omega)
  have hr := Go.Lib.run_append_grow_zeros (P := P) w t tn ty e i zv .i64 kn hu.h hn.h g1 g2 none 0 0 [] (by simp [Builtin.firstCells, loadCells, loadCellsFrom]) k hk (by omega) (by omega) (by omega) (by omega) hfit
  have hge := grownCap_ge w (0 + k) 0 e
  have hcm := grownCap_le_maxLen w (0 + k) 0 e (by simp [maxLen]; omega)
  rw [Nat.zero_add] at hr hge hcm
  have hz1 : zv.cells = #[z] := hz
  refine .run (by simp [Cop.sem, builtin, hr]) (h _ _ ⟨by simp, .inr ⟨w.heap.size, grownCap w k 0 e, Builtin.zeroCells zv.cells k ++ Builtin.zeroCells zv.cells (grownCap w k 0 e - k), rfl, hbase, heap_alloc_new w.drew _, hge, hcm, ?_, ?_⟩⟩ ((Fr.refl _ w).drw.alloc _) ⟨_, rfl, hge⟩)
  · rw [hz1]
    simp [Builtin.zeroCells]
    omega
  · rw [hz1]
    apply List.ext_getElem?
    intro j
    by_cases hj : j < k
    · simp [Builtin.zeroCells, List.getElem?_take, hj, Nat.lt_of_lt_of_le hj hge, List.getElem?_replicate, Array.getElem?_append, Nat.mod_one]
    · simp [List.getElem?_take, hj, List.getElem?_replicate]
theorem Grow_c {k base : Nat} (hk : 0 < k) (hk2 : k ≤ 16777216) (hb : base ≤ w.heap.size) (h : ∀ v' w', OwnB w' base v' [] → Ext w w' → K v' w') : C P 106 #[.slice none 0 0, .int .i64 k] w K E := by
  apply F106
  unfold S106_0
  refine x_lss (fun hc => by omega) (fun hc => ?_)
  with_reducible refine Cnd.no ?_
  unfold S106_j3
  with_reducible refine x_capS ?_; refine x_lenS ?_; refine x_subN (by rw [IntKind.wrap_i64]; omega) ?_; refine x_subN (by rw [IntKind.wrap_i64]; omega) ?_
  refine x_gtr (fun hc => ?_) (fun hc => by omega)
  with_reducible refine Cnd.yes ?_; refine x_capS ?_
  refine x_sliceSh (by omega) (by omega) ?_
  skip
  rw [show ((k : Int) - (((0 : Nat) : Int) - ((0 : Nat) : Int))) = (k : Int) by omega]
  refine x_appendZ (z := .int .u8 0) hk hk2 (by omega) hb fun v' w' o e hv => ?_
  obtain ⟨c, rfl, hc⟩ := hv
  obtain ⟨g, cur, hg, hbg, hgb, hsz, ht, _⟩ := own_at o hk
  with_reducible refine x_lenS ?_
  refine x_sliceSh (by omega) (by omega) ?_
  unfold S106_j6
  refine h _ w' ⟨rfl, .inr ?_⟩ e
  rcases o.2 with ⟨hx, _⟩ | ⟨g', cap', cur', hv, hb', hg', hc', hm', hs', ht'⟩
  · cases hx
  · simp only [Value.slice.injEq, Option.some.injEq] at hv
    obtain ⟨h1, _, rfl⟩ := hv
    rw [h1]
    exact ⟨g', c, cur', rfl, hb', hg', by simp, hm', hs', by rw [show u8s [] = [] from rfl]; simp⟩
theorem Concat_c {sb pb po L cp base : Nat} {l : List Nat} (hs : w.heap[sb]? = some (.cells #[.slice (some ⟨pb, po, none⟩) L cp] 34 (0, 0))) (hl : l.length = L) (hL : 0 < L ∧ L ≤ 16777216) (hp : Holds w ⟨pb, po, none⟩ (u8s l)) (hpb : pb < w.heap.size) (hb : base ≤ w.heap.size)
   (hbp : pb < base)
   (h : ∀ v' w', OwnB w' base v' l → Fr (fun r => base ≤ r) w w' → K v' w') : C P 99 #[.slice (some ⟨sb, 0, none⟩) 1 1] w K E := by
  apply F99
  unfold S99_0
  with_reducible refine x_lenS ?_
  unfold S99_l3
  refine ⟨fun v3 v11 w' => w = w' ∧ ((v3 = .int .i64 0 ∧ v11 = .int .i64 0) ∨ (v3 = .int .i64 L ∧ v11 = .int .i64 1)), fun _ v11 _ => match v11 with | .int _ i => 1 - i.toNat | _ => 0, ⟨rfl, .inl ⟨rfl, rfl⟩⟩, ?_⟩
  rintro _ _ w0 ⟨hw0, ⟨rfl, rfl⟩ | ⟨rfl, rfl⟩⟩ <;> subst hw0
  · unfold S99_b3
    refine x_lss (fun hc => ?_) (fun hc => by omega)
    with_reducible refine Cnd.yes ?_
    refine x_idxS (by omega) ?_
    rw [show 0 + Int.toNat 0 * 1 = 0 from rfl]
    with_reducible refine x_load1 ‹_› at_0 ?_; refine x_lenS ?_; refine x_addN (by rw [IntKind.wrap_i64]; omega) ?_
    refine x_lss (fun hc => by omega) (fun hc => ?_)
    with_reducible refine Cnd.no ?_
    unfold S99_j8
    with_reducible refine x_addN (by rw [IntKind.wrap_i64]; omega) ?_
    refine ⟨⟨rfl, .inr ⟨by congr 1; omega, rfl⟩⟩, by simp⟩
  · unfold S99_b3
    refine x_lss (fun hc => by omega) (fun hc => ?_)
    with_reducible refine Cnd.no ?_
    unfold S99_j9
    refine x_callF (Grow_c (base := base) hL.1 hL.2 hb fun v1 w1 o1 e1 => ?_)
    have hs1 := e1.get hs
    with_reducible refine x_lenS ?_
    unfold S99_l11
    have hp1 := holds_fr hp e1 hpb id
    have sz1 := e1.size
    refine ⟨fun v6 v27 w' => (v1 = v6 ∧ v27 = .int .i64 0 ∧ w1 = w') ∨ (v27 = .int .i64 1 ∧ OwnB w' base v6 l ∧ Fr (fun r => base ≤ r) w w'), fun _ v27 _ => match v27 with | .int _ i => 1 - i.toNat | _ => 0, .inl ⟨rfl, rfl, rfl⟩, ?_⟩
    rintro _ _ w2 (⟨rfl, rfl, rfl⟩ | ⟨rfl, o2, e2⟩)
    · unfold S99_b11
      refine x_lss (fun hc => ?_) (fun hc => by omega)
      with_reducible refine Cnd.yes ?_
      refine x_idxS (by omega) ?_
      rw [show 0 + Int.toNat 0 * 1 = 0 from rfl]
      with_reducible refine x_load1 ‹_› at_0 ?_
      refine x_append (size := 1) (bytes := 1) (m := L) (news := u8s l) o1 (by simp [u8s, hl]) hp1 u8s_one (by simp [maxLen]; omega) (by simp; omega) (by have := e1.size; omega) fun v' w3 o3 g3 => ?_
      with_reducible refine x_addN (by rw [IntKind.wrap_i64]; omega) ?_
      refine ⟨.inr ⟨rfl, ?_, ?_⟩, by simp⟩
      · have : u8s [] ++ u8s l = u8s l := by simp [u8s]
        rw [this] at o3
        rw [show ([] : List Nat).length + L = l.length by simp [hl]] at o3
        exact o3
      · exact ((Fr.of_ext e1).trans ((Fr.refl _ _).grown g3 fun r hr _ => (World.ownsRow.lt o1 r hr).1))
    · unfold S99_b11
      refine x_lss (fun hc => by omega) (fun hc => ?_)
      with_reducible refine Cnd.no ?_
      unfold S99_j15
      exact h _ w2 o2 e2
theorem memWrite_c {m n at_ sb pb po L cp : Nat} {l : List Nat} {M : Nat → Nat} {F : Nat → Prop} (hm : Mem w m n M F) (ha : at_ < 4294967296) (hs : w.heap[sb]? = some (.cells #[.slice (some ⟨pb, po, none⟩) L cp] 34 (0, 0))) (hl : l.length = L) (hL : 0 < L ∧ L ≤ 16777216) (hp : Holds w ⟨pb, po, none⟩ (u8s l)) (hpb : pb < w.heap.size)
   (h8 : ∀ x ∈ l, x < 256)
   (h0 : 4096 * n < at_ + L → ∀ w', Ext w w' → K (.int .i64 22) w')
   (h1 : at_ + L ≤ 4096 * n → ∀ w' F', Fr F w w' → (∀ r, F' r → F r ∨ w.heap.size ≤ r) → (∀ r, F r → F' r) → Mem w' m n (put M at_ l) F' → K (.int .i64 0) w') :
   C P 85 #[ptr m, .int .u32 at_, .slice (some ⟨sb, 0, none⟩) 1 1] w K E := by
  have hn : 1 ≤ n ∧ n ≤ 4096 := by obtain ⟨mb, f, h⟩ := hm; exact h.hn
  have hfin : ∀ r, F r → r < w.heap.size := by obtain ⟨mb, f, h⟩ := hm; exact h.fin
  apply F85
  unfold S85_0
  refine x_callF (Concat_c (base := w.heap.size) hs hl hL hp hpb (Nat.le_refl _) hpb fun v w1 o1 e1 => ?_)
  have e1' : Ext w w1 := ⟨e1.os, e1.tape, e1.output, e1.size, fun r hr _ => e1.blk r hr (by omega)⟩
  have hm1 := hm.ext e1'
  have hb1 : ∃ mb, w1.heap[m]? = some (.cells #[.int .i64 n, .map (some mb)] 157 (0, 0)) := by obtain ⟨mb, f, h⟩ := hm1; exact ⟨mb, h.blk⟩
  obtain ⟨mb, hb1⟩ := hb1
  obtain ⟨a, c, rfl⟩ := own_len o1
  obtain ⟨g, cur, rfl, hg, hgb, hsz, ht, hcap⟩ := own_at o1 (by omega)
  with_reducible refine x_lenS ?_
  refine x_callF (place_c (n := n) hb1 (by omega) (by omega) (by omega) (fun hx => by omega) (fun _ hx => ?_) fun _ hx => ?_)
  · refine x_neq (fun hc => ?_) (fun hc => by omega)
    with_reducible refine Cnd.yes ?_
    exact h0 (by omega) w1 e1'
  · refine x_neq (fun hc => by omega) (fun hc => ?_)
    with_reducible refine Cnd.no ?_
    have hh : Holds w1 ⟨g, 0, none⟩ (u8s l) := by
      have := holds_blk (w := w1) (o := 0) (n := l.length * 1) hgb (by omega)
      rw [List.drop_zero, ht] at this
      exact this
    refine x_callF (write_c hm1 hcap hh h8 (lt_of_blk hgb) (fun hF => by have := hfin _ hF; omega) (by omega) fun w2 F' e2 k1 k2 hm2 => ?_)
    skip
    have sz1 := e1.size
    exact h1 (by omega) w2 F' ((Fr.of_ext e1').trans e2) (fun r hr => by rcases k1 r hr with hq | hq; exact .inl hq; exact .inr (by omega)) k2 hm2
end Go.Eng
namespace Go.Eng
open Go.Proofs Go.MapKept
variable {w : World} {K : Value → World → Prop} {E : List PanicEntry → World → Prop}
def u32s (l : List Nat) : List Value := l.map fun x => Value.int .u32 (x : Nat)
def OwnU (w : World) (b : Nat) (v : Value) (l : List Nat) : Prop := w.ownsRow b 38 1 v l.length (u32s l)
theorem OwnU.nil {b : Nat} : OwnU w b (.slice none 0 0) [] := World.ownsRow_nil w b 38 1
theorem OwnU.frame {w' : World} {S : Nat → Prop} {b : Nat} {v : Value} {l : List Nat} (h : OwnU w b v l) (hf : Fr S w w') (hs : ∀ r, b ≤ r → r < w.heap.size → ¬ S r) : OwnU w' b v l := by
  refine ⟨h.1, ?_⟩
  rcases h.2 with hn | ⟨g, cap, cur, rfl, hb, hg, rest⟩
  · exact .inl hn
  · exact .inr ⟨g, cap, cur, rfl, hb, hf.get (hs g hb (lt_of_blk hg)) hg, rest⟩
def wrL (s : MS) (roots : Int → Option Nat) (cell : Int) : List Nat → (Nat × Int × List Nat) × MS
  | [] => ((0, 0, []), s)
  | a :: l =>
    let T := trR s roots cell a 2
    if T.1.2.2 ≠ 0 then ((T.1.2.1, T.1.2.2, []), T.2) else
    let q := wrL T.2 roots cell l
    ((T.1.2.1 + q.1.1, q.1.2.1, T.1.1 :: q.1.2.2), q.2)
def wr2 (s : MS) : List Nat → List Nat → Nat × MS
  | [], _ => (0, s)
  | to :: ps, l =>
    let A := accS s to true
    let q := wr2 { A.2 with M := put A.2.M to (l.take 4) } ps (l.drop 4)
    (A.1 + q.1, q.2)
def writeR (s : MS) (roots : Int → Option Nat) (cell : Int) (at_ : Nat) (l : List Nat) : (Nat × Int) × MS :=
  if msgR at_ l.length = false then ((0, 1), s) else
  let p := wrL s roots cell (addrs at_ l.length)
  if p.1.2.1 ≠ 0 then ((p.1.1, p.1.2.1), p.2) else
  let q := wr2 p.2 p.1.2.2 l
  ((p.1.1 + q.1, 0), q.2)
theorem wr_word {u m c t tb rb b2 b3 b4 at_ base : Nat} {cell : Int} {i : Int} {s : MS} {roots : Int → Option Nat} {FM : Nat → Prop} {v0 : Value} {l : List Nat} (h : Mm w u m c t tb rb s roots FM) (hv : at_ < 4294967296) (hnow : s.now < 9223372036854775807)
   (h2 : w.heap[b2]? = some (.cells #[ptr u] 44 (0, 0))) (h3 : w.heap[b3]? = some (.cells #[.int .i64 cell] 3 (0, 0))) (h4 : w.heap[b4]? = some (.cells #[v0] 117 (0, 0))) (hown : OwnU w base v0 l) (hl : l.length ≤ 256)
   (hbase : ∀ r, FM r ∨ r = c ∨ r = t ∨ r = tb ∨ r = 1 ∨ r = u ∨ r = rb → r < b2) (h23 : b2 < b3) (h34 : b3 < b4) (hb : b4 < base) (hbs : base ≤ w.heap.size)
   (hK : ∀ w' v', Fr (fun r => TC c t tb r ∨ b4 ≤ r) w w' → Mm w' u m c t tb rb (trR s roots cell at_ 2).2 roots FM → w'.heap[b4]? = some (.cells #[v'] 117 (0, 0)) → OwnU w' base v' (l ++ [(trR s roots cell at_ 2).1.1]) → K (.tuple #[.int .i64 (trR s roots cell at_ 2).1.2.1, .int .i64 (trR s roots cell at_ 2).1.2.2]) w') :
   C P 84 (List.toArray ([.int .i64 i, .int .u32 at_] ++ [ptr b2, ptr b3, ptr b4])) w K E := by
  have lc := hbase c (by simp)
  have lt := hbase t (by simp)
  have ltb := hbase tb (by simp)
  have l4 := lt_of_blk h4
  apply F84
  unfold S84_0
  with_reducible refine x_load1 ‹_› at_0 ?_; refine x_load1 ‹_› at_0 ?_
  refine x_callF (Translate_c h hv (by omega) hnow fun w1 e1 h1 => ?_)
  have h41 := e1.get (show ¬ (_ ∨ _ ∨ _) by omega) h4
  have own1 : OwnU w1 base v0 l := hown.frame e1 fun r hr _ hq => by rcases hq with hq | hq | hq <;> omega
  generalize trR s roots cell at_ 2 = G at *
  obtain ⟨⟨v, cy, fault⟩, s1⟩ := G
  simp only at *
  have hs1 := e1.size
  with_reducible refine x_extract at_0 ?_; refine x_extract at_1 ?_; refine x_extract at_2 ?_; refine x_load1 ‹_› at_0 ?_; refine x_bs_1 oneI ?_
  generalize hw2 : World.alloc _ _ = w2
  have e2 : Ext w1 w2 := by rw [← hw2]; exact (Fr.refl _ w1).alloc _
  have b2' : w2.heap[w1.heap.size]? = some (.cells #[.int .u32 v] 38 (0, 0)) := by rw [← hw2]; exact blk_alloc_new
  clear hw2
  have hH : Holds w2 ⟨w1.heap.size, 0, none⟩ (u32s [v]) := by
    have := holds_blk (w := w2) (o := 0) (n := 1) b2' (by simp)
    simpa [u32s] using this
  have own2 : OwnU w2 base v0 l := own1.frame e2 fun r _ _ hq => hq
  have h42 := e2.get h41
  have hs2 := e2.size
  refine x_append (size := 1) (m := 1) (news := u32s [v]) own2 (by simp [u32s]) hH (by simp [u32s, Value.oneCell']) (by simp [maxLen]; omega) (by omega) (by omega) fun v' w3 o3 g3 => ?_
  have e3 : Fr (fun r => base ≤ r) w2 w3 := (Fr.refl _ w2).grown g3 fun r hr _ => (World.ownsRow.lt own2 r hr).1
  have h43 := e3.get (show ¬ base ≤ b4 by omega) h42
  have own3 : OwnU w3 base v' (l ++ [v]) := by
    have e : u32s l ++ u32s [v] = u32s (l ++ [v]) := by simp [u32s]
    rw [e] at o3
    simpa [OwnU] using o3
  obtain ⟨a, cp, rfl⟩ := own_len own3
  with_reducible refine x_store1 ‹_› oneS set_0 ?_
  generalize hw4 : setBlk w3 _ _ = w4
  have e4 : Fr (fun r => r = b4) w3 w4 := by rw [← hw4]; exact Fr.set1 (Fr.refl _ _)
  have h44 : w4.heap[b4]? = some (.cells #[.slice a (l ++ [v]).length cp] 117 (0, 0)) := by rw [← hw4]; exact blk_set_same (lt_of_blk h43)
  clear hw4
  have e14 : Fr (fun r => b4 ≤ r) w1 w4 := ((Fr.of_ext e2).trans (e3.mono fun r _ hr => by omega)).trans (e4.mono fun r _ hr => by omega)
  refine hK w4 _ ((e1.mono fun r _ hr => .inl hr).trans (e14.mono fun r _ hr => .inr hr)) (h1.frame e14 fun r hr => ?_) h44 (own3.frame e4 fun r hr _ hq => by omega)
  have := hbase r hr
  omega
theorem wrL_same {roots : Int → Option Nat} {cell : Int} : ∀ (l : List Nat) (s : MS), (wrL s roots cell l).2.n = s.n ∧ (wrL s roots cell l).2.M = s.M ∧ (wrL s roots cell l).2.slots = s.slots ∧ (wrL s roots cell l).2.la = s.la ∧ (wrL s roots cell l).2.lb = s.lb ∧ (wrL s roots cell l).2.ways = s.ways ∧ (wrL s roots cell l).2.now ≤ s.now + l.length
  | [], s => by simp [wrL]
  | a :: l, s => by
    have h := @trR_same s roots cell 2 a
    simp only [wrL]
    split
    · obtain ⟨a1, a2, a3, a4, a5, a6, a7⟩ := h
      exact ⟨a1, a2, a3, a4, a5, a6, by simp only [List.length_cons]; omega⟩
    · have h2 := wrL_same (roots := roots) (cell := cell) l (trR s roots cell a 2).2
      simp only [List.length_cons]
      obtain ⟨a1, a2, a3, a4, a5, a6, a7⟩ := h
      obtain ⟨b1, b2, b3, b4, b5, b6, b7⟩ := h2
      exact ⟨b1.trans a1, b2.trans a2, b3.trans a3, b4.trans a4, b5.trans a5, b6.trans a6, by omega⟩
theorem wrL_ok {roots : Int → Option Nat} {cell : Int} : ∀ (l : List Nat) (s : MS), (∀ a ∈ l, a % 4 = 0) → (wrL s roots cell l).1.2.1 = 0 → (wrL s roots cell l).1.2.2.length = l.length ∧ ∀ to ∈ (wrL s roots cell l).1.2.2, to + 4 ≤ 4096 * s.n
  | [], s, _, _ => by simp [wrL]
  | a :: l, s, hl, h => by
    have ha := hl a (by simp)
    simp only [wrL] at h ⊢
    split at h
    · rename_i h1; exact absurd h h1
    · rename_i h1
      rw [if_neg h1]
      obtain ⟨f, hf, hto⟩ := @trR_to s roots cell 2 a (by simpa using h1)
      obtain ⟨k1, k2⟩ := wrL_ok l _ (fun x hx => hl x (List.mem_cons_of_mem _ hx)) h
      rw [(@trR_same s roots cell 2 a).1] at k2
      refine ⟨by simp only [List.length_cons, k1], fun to hm => ?_⟩
      rcases List.mem_cons.1 hm with rfl | hm
      · rw [hto]; omega
      · exact k2 to hm
end Go.Eng
namespace Go.Eng
open Go.Proofs Go.MapKept
variable {w : World} {K : Value → World → Prop} {E : List PanicEntry → World → Prop}
theorem mm_mem {w' : World} {u m c t tb rb : Nat} {s : MS} {M : Nat → Nat} {roots : Int → Option Nat} {FM F' : Nat → Prop} (h : Mm w u m c t tb rb s roots FM) (hf : Fr FM w w') (k1 : ∀ r, F' r → FM r ∨ w.heap.size ≤ r) (hm : Mem w' m s.n M F') :
    Mm w' u m c t tb rb { s with M := M } roots F' := by
  obtain ⟨q1, q2⟩ := h.fm
  obtain ⟨f1, f2, f3, f4⟩ := h.sys.fm
  have hl2 := h.lts
  have notF : ∀ r, ¬ FM r → r < w.heap.size → ¬ F' r := fun r hr hlt hF => by
    rcases k1 r hF with hx | hx
    · exact hr hx
    · omega
  exact ⟨⟨hm, h.sys.tlb.frame hf f1 f2, h.sys.ca.frame hf f3, h.sys.glob.fr hf f4, h.sys.te, ⟨notF _ f1 (hl2 _ (by simp)), notF _ f2 (hl2 _ (by simp)), notF _ f3 (hl2 _ (by simp)), notF _ f4 (hl2 _ (by simp))⟩, h.sys.ne⟩,
    h.mmu.frame hf q1 q2, ⟨notF _ q1 (hl2 _ (by simp)), notF _ q2 (hl2 _ (by simp))⟩, h.ne⟩
theorem wr_loop {u m c t tb rb b4 cy0 pb po cp : Nat} {pv : Value} {s0 : MS} {roots : Int → Option Nat} {FM : Nat → Prop} {ps l : List Nat} (h : Mm w u m c t tb rb s0 roots FM)
   (hps : ∀ to ∈ ps, to + 4 ≤ 4096 * s0.n) (hlen : l.length = 4 * ps.length) (hsm : ps.length ≤ 64) (hcy : cy0 ≤ 1000000) (h4 : w.heap[b4]? = some (.cells #[ptr u] 44 (0, 0))) (ho : OwnU w b4 pv ps) (hb4 : ∀ r, FM r ∨ r = c ∨ r = t ∨ r = tb ∨ r = 1 ∨ r = u ∨ r = rb → r < b4)
   (hcp : l.length ≤ cp) (hp : Holds w ⟨pb, po, none⟩ (u8s l)) (hpb : pb < w.heap.size) (hpF : ¬ FM pb ∧ pb ≠ c ∧ pb ≠ t ∧ pb ≠ tb) (h8 : ∀ x ∈ l, x < 256)
   (hK : ∀ w' FM', Fr (fun r => FM r ∨ TC c t tb r) w w' → (∀ r, FM' r → FM r ∨ w.heap.size ≤ r) → (∀ r, FM r → FM' r) → Mm w' u m c t tb rb (wr2 s0 ps l).2 roots FM' → K (.tuple #[.int .i64 (cy0 + (wr2 s0 ps l).1 : Nat), .int .i64 0]) w') :
   S63_l6 (.slice (some ⟨pb, po, none⟩) l.length cp) (ptr b4) (.int .i64 cy0) pv (.int .i64 ps.length) (.int .i64 0) w (fun x11 y => S63_j11 x11 y K E) E := by
  have hn := h.n_le
  have lc := hb4 c (by simp)
  have lt := hb4 t (by simp)
  have ltb := hb4 tb (by simp)
  have l4 := lt_of_blk h4
  have hFl : ∀ r, FM r → r < b4 := fun r hr => hb4 r (.inl hr)
  obtain ⟨a, cap, rfl⟩ := own_len ho
  unfold S63_l6
  refine ⟨fun v11 v29 w' => ∃ (j cy : Nat) (sj : MS) (FMj : Nat → Prop), v11 = .int .i64 cy ∧ v29 = .int .i64 j ∧ j ≤ ps.length ∧ Fr (fun r => FM r ∨ TC c t tb r) w w' ∧ Mm w' u m c t tb rb sj roots FMj ∧ (∀ r, FMj r → FM r ∨ w.heap.size ≤ r) ∧ (∀ r, FM r → FMj r) ∧ cy ≤ cy0 + 20 * j ∧ sj.n = s0.n ∧
      cy0 + (wr2 s0 ps l).1 = cy + (wr2 sj (ps.drop j) (l.drop (4 * j))).1 ∧ (wr2 s0 ps l).2 = (wr2 sj (ps.drop j) (l.drop (4 * j))).2, fun _ v29 _ => match v29 with | .int _ j => ps.length - j.toNat | _ => 0,
      ⟨0, cy0, s0, FM, rfl, rfl, by omega, Fr.refl _ _, h, fun r hr => .inl hr, fun r hr => hr, by omega, rfl, by simp, by simp⟩, ?_⟩
  rintro _ _ w1 ⟨j, cy, sj, FMj, rfl, rfl, hj, e1, h1, k1, k2, hcyj, hnj, heq1, heq2⟩
  have h41 := e1.get (fun hq => by rcases hq with hq | hq | hq | hq; exact absurd (hFl _ hq) (by omega); all_goals omega) h4
  have s1 := e1.size
  unfold S63_b6
  refine x_lss (fun hc => ?_) (fun hc => ?_)
  with_reducible refine Cnd.yes ?_
  rotate_left
  with_reducible refine Cnd.no ?_
  rotate_left
  · have hjl : j < ps.length := by omega
    obtain ⟨g, cur, rfl, hg, hgb, hgs, ht, hcap⟩ := own_at ho (by omega)
    have hgb1 := e1.get (fun hq => by rcases hq with hq | hq | hq | hq; exact absurd (hFl _ hq) (by omega); all_goals omega) hgb
    refine x_idxS (by omega) ?_
    rw [show 0 + (j : Int).toNat * 1 = j by omega]
    have hat : cur[j]? = some (.int .u32 (ps[j] : Nat)) := by
      have := congrArg (fun x => x[j]?) ht
      simp only [List.getElem?_take, u32s, List.getElem?_map] at this
      rw [if_pos (by omega)] at this
      simpa [hjl] using this
    have hub1 := h1.mmu.blk
    with_reducible refine x_load1 ‹_› ‹_› ?_; refine x_load1 ‹_› at_0 ?_; refine x_nil ?_; refine x_field0 ?_; refine x_load1 ‹_› at_1 ?_
    have hto := hps ps[j] (List.getElem_mem hjl)
    refine x_callF (mm_acc h1 (by omega) fun w2 hit back e2 h2 => ?_)
    have hcy2 := accS_cy (s := sj) (a := ps[j]) (wr := true)
    have hdp : ps.drop j = ps[j] :: ps.drop (j + 1) := List.drop_eq_getElem_cons hjl
    rw [hdp] at heq1 heq2
    simp only [wr2] at heq1 heq2
    have hn2 : (accS sj ps[j] true).2.n = s0.n := hnj
    generalize accS sj ps[j] true = A at *
    obtain ⟨acy, s2⟩ := A
    simp only at *
    have e12 : Fr (fun r => FM r ∨ TC c t tb r) w w2 := e1.trans (e2.mono fun r _ hr => .inr (.inl hr))
    have h42 := e2.get (by omega) h41
    have hub2 := h2.mmu.blk
    refine x_fieldV fv166 at_2 ?_
    have hub2' := h2.mmu.blk
    with_reducible refine x_addN (by rw [IntKind.wrap_i64]; omega) ?_; refine XQ.of rfl ?_; refine x_load1 ‹_› at_0 ?_; refine qstep ?_; refine XQ.of rfl ?_; refine x_nil ?_; refine qstep ?_; refine XQ.of rfl ?_; refine x_field0 ?_; refine qstep ?_; refine XQ.of rfl ?_; refine x_load1 ‹_› at_0 ?_; refine qstep ?_; refine XQ.of rfl ?_; refine x_mulN (by rw [IntKind.wrap_i64]; omega) ?_; refine qstep ?_; refine XQ.of rfl ?_; refine x_mulN (by rw [IntKind.wrap_i64]; omega) ?_; refine qstep ?_; refine XQ.of rfl ?_; refine x_addN (by rw [IntKind.wrap_i64]; omega) ?_; refine qstep ?_; refine XQ.of rfl ?_
    refine x_sliceS (by omega) (by omega) (by omega) ?_
    rw [if_neg (by omega), show po + ((4 : Int) * (j : Int)).toNat * 1 = po + 4 * j by omega, show ((4 : Int) * (j : Int) + 4).toNat - ((4 : Int) * (j : Int)).toNat = 4 by omega, show cp - ((4 : Int) * (j : Int)).toNat = cp - 4 * j by omega]
    with_reducible refine qstep ?_; refine x_bs_1 oneS ?_; refine And.intro ?_ ?_; refine XQ.of rfl ?_; refine x_load1 (by refine blk_alloc_old' ?_; assumption) at_0 ?_; refine qstep ?_; exact rfl; refine And.intro ?_ ?_; refine XQ.of rfl ?_; refine x_field0 ?_; refine qstep ?_; exact rfl; refine And.intro ?_ ?_; refine XQ.of rfl ?_; refine x_nil ?_; refine qstep ?_; exact rfl; refine And.intro ?_ ?_; refine XQ.of rfl ?_; refine x_load1 (by refine blk_alloc_old' ?_; assumption) at_0 ?_; refine qstep ?_; exact rfl
    generalize hw3 : World.alloc _ _ = w3
    have e3 : Ext w2 w3 := by rw [← hw3]; exact ((Fr.refl _ w2).drw).alloc _
    have b3 : w3.heap[(drw w2).heap.size]? = some (.cells #[.slice (some ⟨pb, po + 4 * j, none⟩) 4 (cp - 4 * j)] 34 (0, 0)) := by rw [← hw3]; exact blk_alloc_new
    clear hw3
    have h3 := h2.ext e3
    have e13 : Fr (fun r => FM r ∨ TC c t tb r) w w3 := e12.trans (Fr.of_ext e3)
    have hp3 : Holds w3 ⟨pb, po, none⟩ (u8s l) := holds_fr hp e13 hpb (by rintro (hq | hq | hq | hq); exact hpF.1 hq; exact hpF.2.1 hq; exact hpF.2.2.1 hq; exact hpF.2.2.2 hq)
    have hpd : Holds w3 ⟨pb, po + 4 * j, none⟩ (u8s ((l.drop (4 * j)).take 4)) := holds_take (holds_u8s hp3)
    have s3 := e13.size
    have hn3 : s2.n = s0.n := hn2
    have hm3 := h3.sys.mem
    refine x_callF (memWrite_c hm3 (by omega) b3 (by rw [List.length_take, List.length_drop]; omega) (by omega) hpd (by omega) (fun x hx => h8 x (List.mem_of_mem_drop (List.mem_of_mem_take hx))) (fun hx => by rw [hn3] at hx; omega) fun _ w4 F' e4 q1 q2 hm4 => ?_)
    have h4' := mm_mem h3 e4 q1 hm4
    with_reducible refine x_addN (by rw [IntKind.wrap_i64]; omega) ?_
    refine ⟨⟨j + 1, cy + acy, _, F', by congr 1, by congr 1, by omega, ?_, h4', fun r hr => ?_, fun r hr => q2 r (k2 r hr), by omega, hn2, ?_, ?_⟩, by simp only; omega⟩
    · exact e13.trans' e4 fun r hr hlt => by rcases k1 r hr with hq | hq; exact .inl hq; omega
    · rcases q1 r hr with hq | hq
      · exact k1 r hq
      · exact .inr (by omega)
    · rw [heq1, List.drop_drop, Nat.add_assoc]
      rw [show 4 * j + 4 = 4 * (j + 1) by omega]
    · rw [heq2, List.drop_drop]
      rw [show 4 * j + 4 = 4 * (j + 1) by omega]
  · have hjl : j = ps.length := by omega
    subst hjl
    rw [List.drop_length] at heq1 heq2
    simp only [wr2, Nat.add_zero] at heq1 heq2
    unfold S63_j11
    rw [← heq2] at h1
    have := hK w1 FMj e1 k1 k2 h1
    rw [heq1] at this
    exact this
theorem wrL_cy {roots : Int → Option Nat} {cell : Int} : ∀ (l : List Nat) (s : MS), (∀ x, s.M x < 256) → (wrL s roots cell l).1.1 ≤ 40 * l.length
  | [], s, _ => by simp [wrL]
  | a :: l, s, hM => by
    have h := trR_cy (roots := roots) (cell := cell) (a := 2) (at_ := a) hM
    simp only [wrL, List.length_cons]
    split
    · simp only; omega
    · have h2 := wrL_cy (roots := roots) (cell := cell) l (trR s roots cell a 2).2 (by rw [(@trR_same s roots cell 2 a).2.1]; exact hM)
      simp only; omega
theorem Write_m {u m c t tb rb at_ n cp : Nat} {cell : Int} {a : Option Addr} {s : MS} {roots : Int → Option Nat} {FM : Nat → Prop} {l : List Nat} (h : Mm w u m c t tb rb s roots FM) (hv : at_ < 4294967296) (hnow : s.now < 9223372036854775000) (hln : l.length = n) (hnb : n ≤ 140737488355328)
   (hsrc : 0 < n → ∃ pb po, a = some ⟨pb, po, none⟩ ∧ n ≤ cp ∧ Holds w ⟨pb, po, none⟩ (u8s l) ∧ pb < w.heap.size ∧ ¬ FM pb ∧ pb ≠ c ∧ pb ≠ t ∧ pb ≠ tb) (h8 : ∀ x ∈ l, x < 256)
   (hK : ∀ w' FM', Fr (fun r => FM r ∨ TC c t tb r) w w' → (∀ r, FM' r → FM r ∨ w.heap.size ≤ r) → (∀ r, FM r → FM' r) → Mm w' u m c t tb rb (writeR s roots cell at_ l).2 roots FM' → K (.tuple #[.int .i64 (writeR s roots cell at_ l).1.1, .int .i64 (writeR s roots cell at_ l).1.2]) w') :
   C P 63 #[ptr u, .int .i64 cell, .int .u32 at_, .slice a n cp] w K E := by
  have hM := h.sys.mem.bytes_lt
  have hfin : ∀ r, FM r → r < w.heap.size := fun r hr => h.lts r (.inl hr)
  apply F63
  unfold S63_0
  with_reducible refine x_box1 oneP ?_; refine x_box1 oneI ?_; refine x_alloc ?_; refine x_lenS ?_; refine x_mkFunc ?_
  generalize hw1 : World.alloc (World.alloc (World.alloc _ _) _) _ = w1
  have e1 : Ext w w1 := by rw [← hw1]; exact (((Fr.refl _ w).alloc _).alloc _).alloc _
  have b2 : w1.heap[w.heap.size]? = some (.cells #[ptr u] 44 (0, 0)) := by rw [← hw1]; refine blk_alloc_old' ?_; refine blk_alloc_old' ?_; exact blk_alloc_new
  have b3 : w1.heap[w.heap.size + 1]? = some (.cells #[.int .i64 cell] 3 (0, 0)) := by
    rw [← hw1]; exact blk_alloc_old' (blk_alloc_eq (by rw [size_alloc]))
  have b4 : w1.heap[w.heap.size + 1 + 1]? = some (.cells #[.slice none 0 0] 117 (0, 0)) := by
    rw [← hw1]; exact blk_alloc_eq (by rw [size_alloc, size_alloc])
  have hs1 : w1.heap.size = w.heap.size + 1 + 1 + 1 := by rw [← hw1]; simp only [size_alloc]
  simp only [size_alloc]
  clear hw1
  have h1 := h.ext e1
  have hlts := h.lts
  have lc := hlts c (by simp)
  have lt := hlts t (by simp)
  have ltb := hlts tb (by simp)
  have wr : writeR s roots cell at_ l = if msgR at_ n = false then ((0, 1), s) else
    if (wrL s roots cell (addrs at_ n)).1.2.1 ≠ 0 then (((wrL s roots cell (addrs at_ n)).1.1, (wrL s roots cell (addrs at_ n)).1.2.1), (wrL s roots cell (addrs at_ n)).2) else
    (((wrL s roots cell (addrs at_ n)).1.1 + (wr2 (wrL s roots cell (addrs at_ n)).2 (wrL s roots cell (addrs at_ n)).1.2.2 l).1, 0), (wr2 (wrL s roots cell (addrs at_ n)).2 (wrL s roots cell (addrs at_ n)).1.2.2 l).2) := by
    simp only [writeR, hln]
  refine x_callF (words_c (cap := [ptr w.heap.size, ptr (w.heap.size + 1), ptr (w.heap.size + 1 + 1)])
    (fun j cy w' => ∃ sj v ps, Fr (fun r => TC c t tb r ∨ w.heap.size + 1 + 1 ≤ r) w1 w' ∧ Mm w' u m c t tb rb sj roots FM ∧ w'.heap[w.heap.size + 1 + 1]? = some (.cells #[v] 117 (0, 0)) ∧ OwnU w' (w.heap.size + 1 + 1 + 1) v ps ∧ ps.length = j ∧ sj.now ≤ s.now + j ∧ (∀ x, sj.M x < 256) ∧
      wrL s roots cell (addrs at_ n) = ((cy + (wrL sj roots cell ((addrs at_ n).drop j)).1.1, (wrL sj roots cell ((addrs at_ n).drop j)).1.2.1, ps ++ (wrL sj roots cell ((addrs at_ n).drop j)).1.2.2), (wrL sj roots cell ((addrs at_ n).drop j)).2)) hv (by omega) (fun hm => ?_) (fun hm => ?_) (fun j cy w2 hm hJ hj => ?_) fun j cy w2 hm hj hJ => ?_)
  · with_reducible refine x_extract at_0 ?_; refine x_extract at_1 ?_
    refine x_neq (fun hc => ?_) (fun hc => by omega)
    with_reducible refine Cnd.yes ?_
    have := hK w1 FM (Fr.of_ext e1) (fun r hr => .inl hr) (fun r hr => hr)
    rw [wr, if_pos hm] at this
    exact this h1
  · exact ⟨s, _, [], Fr.refl _ _, h1, b4, OwnU.nil, rfl, by omega, hM, by simp⟩
  · obtain ⟨sj, v, ps, e2, h2, hb4, ho, hlen, hno, hMj, heq⟩ := hJ
    have hm' := hm
    unfold msgR at hm'
    rw [decide_eq_true_eq] at hm'
    obtain ⟨m1, m2, m3, m4⟩ := hm'
    have hs2 := e2.size
    rw [addrs_drop (by omega)] at heq
    have hcy := trR_cy (roots := roots) (cell := cell) (a := 2) (at_ := (at_ + 4 * j) % 4294967296) hMj
    have hsame := @trR_same sj roots cell 2 ((at_ + 4 * j) % 4294967296)
    refine wr_word (base := w.heap.size + 1 + 1 + 1) h2 (by omega) (by omega) (e2.get (show ¬ ((_ ∨ _ ∨ _) ∨ _) by omega) b2) (e2.get (show ¬ ((_ ∨ _ ∨ _) ∨ _) by omega) b3) hb4 ho (by omega) hlts (by omega) (by omega) (by omega) (by omega) fun w3 v' e3 h3 hb4' ho' => ?_
    simp only [wrL] at heq
    generalize trR sj roots cell ((at_ + 4 * j) % 4294967296) 2 = G at *
    obtain ⟨⟨gv, gcy, gf⟩, s3⟩ := G
    simp only at *
    refine ⟨gcy, gf, rfl, by omega, fun hfa => ?_, fun hfa => ?_⟩
    · rw [if_pos hfa] at heq
      with_reducible refine x_extract at_0 ?_; refine x_extract at_1 ?_
      refine x_neq (fun hc => ?_) (fun hc => by omega)
      with_reducible refine Cnd.yes ?_
      have := hK w3 FM (((Fr.of_ext e1).trans' (e2.trans e3) fun r hr hlt => by rcases hr with hr | hr; exact .inr hr; omega)) (fun r hr => .inl hr) (fun r hr => hr)
      rw [wr, if_neg (by simp [hm]), if_pos (by rw [heq]; exact hfa), heq] at this
      exact this h3
    · rw [if_neg (fun hx => hx hfa)] at heq
      refine ⟨s3, v', _, e2.trans e3, h3, hb4', ho', by simp [hlen], by omega, by rw [hsame.2.1]; exact hMj, ?_⟩
      rw [heq]
      simp only [Nat.add_assoc, List.append_assoc, List.singleton_append]
  · obtain ⟨sj, v, ps, e2, h2, hb4, ho, hlen, hno, hMj, heq⟩ := hJ
    have hd : (addrs at_ n).drop j = [] := List.drop_of_length_le (by simp [addrs]; omega)
    rw [hd] at heq
    simp only [wrL, Nat.add_zero, List.append_nil] at heq
    have hm' := hm
    unfold msgR at hm'
    rw [decide_eq_true_eq] at hm'
    obtain ⟨m1, m2, m3, m4⟩ := hm'
    have hadr : ∀ x ∈ addrs at_ n, x % 4 = 0 := fun x hx => by
      simp only [addrs, List.mem_map, List.mem_range] at hx
      obtain ⟨i, hi, rfl⟩ := hx
      omega
    have hok := wrL_ok (roots := roots) (cell := cell) (addrs at_ n) s hadr (by rw [heq])
    have hcy := wrL_cy (roots := roots) (cell := cell) (addrs at_ n) s hM
    have hsame := wrL_same (roots := roots) (cell := cell) (addrs at_ n) s
    have hal : (addrs at_ n).length = n / 4 := by simp [addrs]
    rw [hal] at hcy hok
    have fin : ∀ w' FM', Fr (fun r => FM r ∨ TC c t tb r) w w' → (∀ r, FM' r → FM r ∨ w.heap.size ≤ r) → (∀ r, FM r → FM' r) → Mm w' u m c t tb rb (wr2 sj ps l).2 roots FM' → K (.tuple #[.int .i64 (cy + (wr2 sj ps l).1 : Nat), .int .i64 0]) w' := fun w' FM' g1 g2 g3 g4 => by
      have := hK w' FM' g1 g2 g3
      rw [wr, if_neg (by simp [hm]), if_neg (by rw [heq]; simp), heq] at this
      exact this g4
    rw [heq] at hok hcy hsame
    simp only at hok hcy hsame
    have e02 : Fr (fun r => FM r ∨ TC c t tb r) w w2 := (Fr.of_ext e1).trans' e2 fun r hr hlt => by rcases hr with hr | hr; exact .inr hr; omega
    have hs2 := e2.size
    obtain ⟨av, cv, rfl⟩ := own_len ho
    have hb2' := e2.get (show ¬ ((_ ∨ _ ∨ _) ∨ _) by omega) b2
    with_reducible refine x_extract at_0 ?_; refine x_extract at_1 ?_
    refine x_neq (fun hc => by omega) (fun hc => ?_)
    with_reducible refine Cnd.no ?_; refine x_load1 ‹_› at_0 ?_; refine x_lenS ?_
    rw [show ((ps.length : Nat) : Int) = ((ps.length : Nat) : Int) from rfl]
    by_cases hn0 : n = 0
    · have hps : ps = [] := List.eq_nil_of_length_eq_zero (by omega)
      subst hps
      unfold S63_l6
      refine ⟨fun v11 v29 w' => v11 = .int .i64 cy ∧ v29 = .int .i64 0 ∧ w2 = w', fun _ _ _ => 0, ⟨rfl, rfl, rfl⟩, ?_⟩
      rintro _ _ w0 ⟨rfl, rfl, hw0⟩
      subst hw0
      unfold S63_b6
      rw [show (([] : List Nat).length : Int) = 0 from rfl]
      refine x_lss (fun hc => by omega) (fun hc => ?_)
      with_reducible refine Cnd.no ?_
      unfold S63_j11
      exact fin w2 FM e02 (fun r hr => .inl hr) (fun r hr => hr) h2
    · obtain ⟨pb, po, rfl, hcp, hp, hpb, hpF⟩ := hsrc (by omega)
      subst hln
      have hp2 : Holds w2 ⟨pb, po, none⟩ (u8s l) := holds_fr hp e02 hpb (by rintro (hq | hq | hq | hq); exact hpF.1 hq; exact hpF.2.1 hq; exact hpF.2.2.1 hq; exact hpF.2.2.2 hq)
      refine wr_loop (b4 := w.heap.size) h2 (by rw [hsame.1]; exact hok.2) (by omega) (by omega) (by omega) hb2' ?_ hlts hcp hp2 (by omega) hpF h8 fun w' FM' g1 g2 g3 g4 => ?_
      · refine ⟨ho.1, ?_⟩
        rcases ho.2 with hq | ⟨g, cap', cur, hq, hg, rest⟩
        · exact .inl hq
        · exact .inr ⟨g, cap', cur, hq, by omega, rest⟩
      · exact fin w' FM' (e02.trans g1) (fun r hr => by rcases g2 r hr with hq | hq; exact .inl hq; exact .inr (by omega)) g3 g4
end Go.Eng
namespace Go.Eng
open Go.Proofs Go.MapKept
variable {w : World} {K : Value → World → Prop} {E : List PanicEntry → World → Prop}
structure Rg where
  v : Nat
  p : Nat
  n : Int
  perm : Nat
structure Rg.Ok (r : Rg) : Prop where
  v : r.v < 4294967296
  p : r.p < 4294967296
  n : -9223372036854775808 ≤ r.n ∧ r.n ≤ 9223372036854775807
  perm : r.perm < 256
def rgV (r : Rg) : List Value := [.int .u32 r.v, .int .u32 r.p, .int .i64 r.n, .int .u8 r.perm]
def RgAt (w : World) (v : Value) (l : List Rg) : Prop :=
  ∃ a cap, v = .slice a l.length cap ∧ l.length ≤ cap ∧ (l ≠ [] → ∃ g o c, a = some ⟨g, o, none⟩ ∧ w.heap[g]? = some (.cells c 60 (0, 0)) ∧ ∀ (i : Nat) (h : i < l.length), SubAt c (o + 4 * i) 4 (rgV l[i]).toArray)
def Keep60 (w w' : World) : Prop := ∀ (b : Nat) (c : Array Value) (fz : Nat × Nat), w.heap[b]? = some (.cells c 60 fz) → w'.heap[b]? = some (.cells c 60 fz)
theorem Keep60.ext {w' : World} (h : Ext w w') : Keep60 w w' := fun _ _ _ hb => h.get hb
theorem RgAt.keep {w' : World} {v : Value} {l : List Rg} (h : RgAt w v l) (k : Keep60 w w') : RgAt w' v l := by
  obtain ⟨a, cap, h1, h2, h3⟩ := h
  refine ⟨a, cap, h1, h2, fun hl => ?_⟩
  obtain ⟨g, o, c, h4, h5, h6⟩ := h3 hl
  exact ⟨g, o, c, h4, k _ _ _ h5, h6⟩
theorem pageOf_c {r : Rg} {k : Nat} (hr : r.Ok) (hk : r.p / 4096 + k < 4294967296) (h : ∀ w', Ext w w' → K (entV 1 r.perm (r.p / 4096 + k)) w') : C P 77 #[.agg (rgV r).toArray, .int .u32 k] w K E := by
  have hp := hr.p
  apply F77
  unfold S77_0 rgV
  with_reducible refine x_boxA ?_; refine x_alloc ?_; refine x_field0 ?_; refine x_load1 (by refine blk_alloc_old' ?_; exact blk_alloc_new) (at_S at_2) ?_; refine x_field0 ?_; refine x_load1 (by refine blk_alloc_old' ?_; exact blk_alloc_new) at_1 ?_
  refine x_shrN (s := 12) (by decide) ?_
  with_reducible refine x_addN (by rw [IntKind.wrap_u32]; omega) ?_; refine x_buildS (by apply fill_1; exact inferInstance; exact oneI; exact set_0; apply fill_1; exact inferInstance; exact oneI; apply set_S; exact set_0; rotate_left; apply fill_1; exact inferInstance; exact oneI; apply set_S; apply set_S; exact set_0; rotate_left; rotate_left; exact fill_nil; rotate_left; rotate_left; rotate_left; rotate_left; rotate_left; rotate_left) ?_; refine x_storeA blk_alloc_new rfl (by simp [Value.oneCell']) (lay_cons (lay_cons (lay_cons lay_nil))) ?_
  rw [show ((r.p / 2 ^ 12 : Nat) : Int) + (k : Int) = ((r.p / 4096 + k : Nat) : Int) by omega]
  refine xres_1 (rv_loadA (by exact blk_set_same lt_alloc_new) (sub_cons (sub_cons (sub_cons sub_nil)))) ?_
  refine h _ ?_
  exact (((Fr.refl _ w).alloc _).alloc _).set (fun h => by rw [size_alloc] at h; omega) _
def mayBeR (r : Rg) : Bool := decide ((encR 1 r.perm (r.p / 4096)).2 = 0 ∧ r.v % 4096 = 0 ∧ r.p % 4096 = 0 ∧ 1 ≤ r.n ∧ r.n ≤ 1048576 - (r.v / 4096 : Nat) ∧ r.n ≤ 4096 - (r.p / 4096 : Nat))
theorem mayBe_c {r : Rg} (hr : r.Ok) (h : ∀ w', Ext w w' → K (.bool (mayBeR r)) w') : C P 50 #[.agg (rgV r).toArray] w K E := by
  obtain ⟨h1, h2, h3, h4⟩ := hr
  apply F50
  unfold S50_0
  refine x_boxA ?_
  generalize hw1 : World.alloc _ _ = w1
  have e1 : Ext w w1 := by rw [← hw1]; exact (Fr.refl _ w).alloc _
  have b1 : w1.heap[w.heap.size]? = some (.cells (rgV r).toArray 60 (0, 0)) := by rw [← hw1]; exact blk_alloc_new
  clear hw1
  refine x_loadA (n := 4) (vs := (rgV r).toArray) b1 (by unfold rgV; apply sub_cons; apply sub_cons; apply sub_cons; apply sub_cons; exact sub_nil) ?_
  refine x_callF (pageOf_c (r := r) (k := 0) ⟨h1, h2, h3, h4⟩ (by omega) fun w2 e2 => ?_)
  refine x_callF (Encode_c h4 (by omega) fun w3 e3 => ?_)
  have e13 : Ext w1 w3 := e2.trans e3
  have b3 := e13.get b1
  have fin := h w3 (e1.trans e13)
  rw [Nat.add_zero]
  unfold mayBeR at fin
  unfold rgV at b3
  generalize hen : (encR 1 r.perm (r.p / 4096)).2 = en at *
  with_reducible refine x_extract at_0 ?_; refine x_extract at_1 ?_; refine x_field0 ?_; refine x_load1 ‹_› at_0 ?_; refine x_remN (by omega) (by omega) ?_
  refine x_eql (fun hc => ?_) (fun hc => ?_)
  with_reducible refine XG.yes ?_; refine x_field0 ?_; refine XG.yes ?_; refine x_load1 ‹_› at_1 ?_; refine XG.yes ?_; refine x_remN (by omega) (by omega) ?_; refine XG.yes ?_
  refine x_eql (fun hc => ?_) (fun hc => ?_)
  with_reducible refine x_pickT ?_
  refine x_eql (fun hc => ?_) (fun hc => ?_)
  with_reducible refine XG.yes ?_; refine x_val ?_; refine x_pickT ?_; refine XG.yes ?_; refine x_field0 ?_; refine XG.yes ?_; refine x_load1 ‹_› at_2 ?_; refine XG.yes ?_
  refine x_geq (fun hc => ?_) (fun hc => ?_)
  with_reducible refine x_pickT ?_; refine XG.yes ?_; refine x_field0 ?_; refine XG.yes ?_; refine x_load1 ‹_› at_2 ?_; refine XG.yes ?_; refine x_field0 ?_; refine XG.yes ?_; refine x_load1 ‹_› at_0 ?_; refine XG.yes ?_
  rotate_left
  with_reducible refine x_pickT ?_; refine XG.no (by decide) ?_; refine XG.no (by decide) ?_; refine XG.no (by decide) ?_; refine XG.no (by decide) ?_; refine XG.no (by decide) ?_; refine XG.no (by decide) ?_; refine XG.no (by decide) ?_; refine XG.no (by decide) ?_; refine x_pickF ?_; refine XG.no (by decide) ?_; refine XG.no (by decide) ?_; refine XG.no (by decide) ?_; refine XG.no (by decide) ?_; refine XG.no (by decide) ?_; refine XG.no (by decide) ?_; refine XG.no (by decide) ?_; refine XG.no (by decide) ?_; refine x_pickF ?_
  rotate_left
  with_reducible refine XG.no (by decide) ?_; refine x_pickF ?_; refine XG.no (by decide) ?_; refine XG.no (by decide) ?_; refine XG.no (by decide) ?_; refine x_pickF ?_; refine XG.no (by decide) ?_; refine XG.no (by decide) ?_; refine XG.no (by decide) ?_; refine XG.no (by decide) ?_; refine XG.no (by decide) ?_; refine XG.no (by decide) ?_; refine XG.no (by decide) ?_; refine XG.no (by decide) ?_; refine x_pickF ?_; refine XG.no (by decide) ?_; refine XG.no (by decide) ?_; refine XG.no (by decide) ?_; refine XG.no (by decide) ?_; refine XG.no (by decide) ?_; refine XG.no (by decide) ?_; refine XG.no (by decide) ?_; refine XG.no (by decide) ?_; refine x_pickF ?_
  rotate_left
  with_reducible refine x_pickT ?_
  refine x_eql (fun hc => ?_) (fun hc => ?_)
  with_reducible refine XG.yes ?_; refine x_val ?_; refine x_pickT ?_; refine XG.no (by decide) ?_; refine XG.no (by decide) ?_; refine XG.no (by decide) ?_; refine x_pickF ?_; refine XG.no (by decide) ?_; refine XG.no (by decide) ?_; refine XG.no (by decide) ?_; refine XG.no (by decide) ?_; refine XG.no (by decide) ?_; refine XG.no (by decide) ?_; refine XG.no (by decide) ?_; refine XG.no (by decide) ?_; refine x_pickF ?_; refine XG.no (by decide) ?_; refine XG.no (by decide) ?_; refine XG.no (by decide) ?_; refine XG.no (by decide) ?_; refine XG.no (by decide) ?_; refine XG.no (by decide) ?_; refine XG.no (by decide) ?_; refine XG.no (by decide) ?_; refine x_pickF ?_
  rotate_left
  with_reducible refine XG.no (by decide) ?_; refine x_pickF ?_; refine XG.no (by decide) ?_; refine XG.no (by decide) ?_; refine XG.no (by decide) ?_; refine x_pickF ?_; refine XG.no (by decide) ?_; refine XG.no (by decide) ?_; refine XG.no (by decide) ?_; refine XG.no (by decide) ?_; refine XG.no (by decide) ?_; refine XG.no (by decide) ?_; refine XG.no (by decide) ?_; refine XG.no (by decide) ?_; refine x_pickF ?_; refine XG.no (by decide) ?_; refine XG.no (by decide) ?_; refine XG.no (by decide) ?_; refine XG.no (by decide) ?_; refine XG.no (by decide) ?_; refine XG.no (by decide) ?_; refine XG.no (by decide) ?_; refine XG.no (by decide) ?_; refine x_pickF ?_
  rotate_left
  with_reducible refine XG.no (by decide) ?_; refine XG.no (by decide) ?_; refine XG.no (by decide) ?_; refine XG.no (by decide) ?_; refine x_pickF ?_
  refine x_eql (fun hc => ?_) (fun hc => ?_)
  with_reducible refine XG.yes ?_; refine x_val ?_; refine x_pickT ?_; refine XG.no (by decide) ?_; refine XG.no (by decide) ?_; refine XG.no (by decide) ?_; refine x_pickF ?_; refine XG.no (by decide) ?_; refine XG.no (by decide) ?_; refine XG.no (by decide) ?_; refine XG.no (by decide) ?_; refine XG.no (by decide) ?_; refine XG.no (by decide) ?_; refine XG.no (by decide) ?_; refine XG.no (by decide) ?_; refine x_pickF ?_; refine XG.no (by decide) ?_; refine XG.no (by decide) ?_; refine XG.no (by decide) ?_; refine XG.no (by decide) ?_; refine XG.no (by decide) ?_; refine XG.no (by decide) ?_; refine XG.no (by decide) ?_; refine XG.no (by decide) ?_; refine x_pickF ?_
  rotate_left
  with_reducible refine XG.no (by decide) ?_; refine x_pickF ?_; refine XG.no (by decide) ?_; refine XG.no (by decide) ?_; refine XG.no (by decide) ?_; refine x_pickF ?_; refine XG.no (by decide) ?_; refine XG.no (by decide) ?_; refine XG.no (by decide) ?_; refine XG.no (by decide) ?_; refine XG.no (by decide) ?_; refine XG.no (by decide) ?_; refine XG.no (by decide) ?_; refine XG.no (by decide) ?_; refine x_pickF ?_; refine XG.no (by decide) ?_; refine XG.no (by decide) ?_; refine XG.no (by decide) ?_; refine XG.no (by decide) ?_; refine XG.no (by decide) ?_; refine XG.no (by decide) ?_; refine XG.no (by decide) ?_; refine XG.no (by decide) ?_; refine x_pickF ?_
  rotate_left
  all_goals try (refine x_shrN (s := 12) (by decide) ?_)
  all_goals try (first | (refine XG.yes ?_; refine x_convN (by rw [IntKind.wrap_i64]; omega) ?_; refine XG.yes ?_; refine x_subN (by rw [IntKind.wrap_i64]; omega) ?_; refine XG.yes ?_; refine x_leq (fun hc => ?_) (fun hc => ?_); refine x_pickT ?_; refine XG.yes ?_; refine x_field0 ?_; refine XG.yes ?_; refine x_load1 ‹_› at_2 ?_; refine XG.yes ?_; refine x_field0 ?_; refine XG.yes ?_; refine x_load1 ‹_› at_1 ?_; refine XG.yes ?_; rotate_left; refine x_pickT ?_; refine XG.no (by decide) ?_; refine XG.no (by decide) ?_; refine XG.no (by decide) ?_; refine XG.no (by decide) ?_; refine XG.no (by decide) ?_; refine XG.no (by decide) ?_; refine XG.no (by decide) ?_; refine XG.no (by decide) ?_; refine x_pickF ?_; rotate_left) | (skip))
  all_goals try (refine x_shrN (s := 12) (by decide) ?_)
  all_goals try (first | (refine XG.yes ?_; refine x_convN (by rw [IntKind.wrap_i64]; omega) ?_; refine XG.yes ?_; refine x_subN (by rw [IntKind.wrap_i64]; omega) ?_; refine XG.yes ?_; refine x_leq (fun hc => ?_) (fun hc => ?_); refine x_pickT ?_; rotate_left; refine x_pickT ?_; rotate_left) | (skip))
  all_goals
    first
      | (rw [decide_eq_true (by omega)] at fin; exact fin)
      | (rw [decide_eq_false (by omega)] at fin; exact fin)
instance : CF P 49 := c49
theorem map1_c {r : Rg} (hr : r.Ok) (h : ∀ w', Ext w w' → K (.bool (!mayBeR r)) w') : C P 49 #[.agg (rgV r).toArray] w K E := by
  apply F49
  unfold S49_0
  refine x_boxA ?_
  generalize hw1 : World.alloc _ _ = w1
  have e1 : Ext w w1 := by rw [← hw1]; exact (Fr.refl _ w).alloc _
  have b1 : w1.heap[w.heap.size]? = some (.cells (rgV r).toArray 60 (0, 0)) := by rw [← hw1]; exact blk_alloc_new
  clear hw1
  refine x_loadA (n := 4) (vs := (rgV r).toArray) b1 (by unfold rgV; apply sub_cons; apply sub_cons; apply sub_cons; apply sub_cons; exact sub_nil) ?_
  refine x_callF (mayBe_c hr fun w2 e2 => ?_)
  refine .run r_not ?_
  exact h w2 (e1.trans e2)
theorem IndexRg_c {v : Value} {l : List Rg} (hl : RgAt w v l) (hok : ∀ r ∈ l, r.Ok) (hlen : l.length ≤ 1000000)
   (h0 : ∀ w', Ext w w' → (∀ r ∈ l, mayBeR r = true) → K (.int .i64 (-1)) w') (h1 : ∀ w' (i : Nat), Ext w w' → ¬ (∀ r ∈ l, mayBeR r = true) → K (.int .i64 i) w') : C P 75 #[v, .func (.func 49) #[] #[]] w K E := by
  obtain ⟨a, cap, rfl, hcap, hg⟩ := hl
  apply F75
  unfold S75_0
  with_reducible refine x_lenS ?_
  unfold S75_l2
  refine ⟨fun v8 w2 => ∃ i : Nat, v8 = .int .i64 i ∧ i ≤ l.length ∧ Ext w w2 ∧ ∀ r ∈ l.take i, mayBeR r = true, fun v8 _ => match v8 with | .int _ i => l.length - i.toNat | _ => 0, ⟨0, rfl, by omega, Fr.refl _ _, by simp⟩, ?_⟩
  rintro _ w2 ⟨i, rfl, hi, hx, hno⟩
  unfold S75_b2
  refine x_lss (fun hc => ?_) (fun hc => ?_)
  with_reducible refine Cnd.yes ?_
  rotate_left
  with_reducible refine Cnd.no ?_
  rotate_left
  · have hlt : i < l.length := by omega
    obtain ⟨g, o, c, rfl, hgb, hs⟩ := hg (fun h => by rw [h] at hlt; simp at hlt)
    refine x_idxS (by omega) ?_
    have hsub := hs i hlt
    rw [show o + (i : Int).toNat * 4 = o + 4 * i by omega]
    refine x_loadA (hx.get hgb) hsub ?_
    refine x_callV (args := [.agg (rgV l[i]).toArray]) (first := []) (cap := []) ?_
    refine map1_c (hok _ (List.getElem_mem hlt)) fun w3 e3 => ?_
    cases hm : mayBeR l[i] with
    | false =>
      simp only [Bool.not_false]
      with_reducible refine Cnd.yes ?_
      refine h1 w3 i (hx.trans e3) fun hall => ?_
      rw [hall _ (List.getElem_mem hlt)] at hm
      cases hm
    | true =>
      simp only [Bool.not_true]
      with_reducible refine Cnd.no ?_; refine x_addN (by rw [IntKind.wrap_i64]; omega) ?_
      refine ⟨⟨i + 1, by congr 1, by omega, hx.trans e3, fun r hr => ?_⟩, by simp only; omega⟩
      rw [List.take_succ_eq_append_getElem hlt] at hr
      rcases List.mem_append.1 hr with hr | hr
      · exact hno r hr
      · rw [List.mem_singleton.1 hr]; exact hm
  · unfold S75_j7
    exact h0 w2 hx (by rwa [show l.take i = l from List.take_of_length_le (by omega)] at hno)
theorem badRg_c {v : Value} {l : List Rg} (hl : RgAt w v l) (hok : ∀ r ∈ l, r.Ok) (hlen : l.length ≤ 1000000)
   (h : ∀ w' b, Ext w w' → (b = false ↔ ∀ r ∈ l, mayBeR r = true) → K (.bool b) w') : C P 48 #[v, .func (.func 49) #[] #[]] w K E := by
  apply F48
  unfold S48_0
  refine x_callF (IndexRg_c hl hok hlen (fun w' e hall => ?_) fun w' i e hall => ?_)
  · refine x_geq (fun hc => by omega) (fun hc => ?_)
    exact h w' false e ⟨fun _ => hall, fun _ => rfl⟩
  · refine x_geq (fun hc => ?_) (fun hc => by omega)
    exact h w' true e ⟨(fun hx => by cases hx), fun hx => absurd hx hall⟩
theorem IndexU_c {a : Option Addr} {cp : Nat} {xs : List Nat} {x : Nat} (ho : ∃ b, w.ownsRow b 38 1 (.slice a xs.length cp) xs.length (u32s xs)) (hl : xs.length ≤ 1000000)
   (h0 : x ∉ xs → K (.int .i64 (-1)) w) (h1 : ∀ i : Nat, x ∈ xs → K (.int .i64 i) w) : C P 80 #[.slice a xs.length cp, .int .u32 x] w K E := by
  obtain ⟨base, ho⟩ := ho
  apply F80
  unfold S80_0
  with_reducible refine x_lenS ?_
  unfold S80_l2
  refine ⟨fun v8 w2 => ∃ i : Nat, v8 = .int .i64 i ∧ i ≤ xs.length ∧ w = w2 ∧ x ∉ xs.take i, fun v8 _ => match v8 with | .int _ i => xs.length - i.toNat | _ => 0, ⟨0, rfl, by omega, rfl, by simp⟩, ?_⟩
  rintro _ w0 ⟨i, rfl, hi, hw0, hno⟩
  subst hw0
  unfold S80_b2
  refine x_lss (fun hc => ?_) (fun hc => ?_)
  with_reducible refine Cnd.yes ?_
  rotate_left
  with_reducible refine Cnd.no ?_
  rotate_left
  · have hlt : i < xs.length := by omega
    obtain ⟨g, cur, rfl, hg, hb, hsz, ht, hcap⟩ := own_at ho (by omega)
    refine x_idxS (by omega) ?_
    have hat : cur[i]? = some (.int .u32 (xs[i] : Nat)) := by
      have := congrArg (fun x => x[i]?) ht
      simp only [List.getElem?_take, u32s, List.getElem?_map] at this
      rw [if_pos (by omega)] at this
      simpa [hlt] using this
    rw [show 0 + (i : Int).toNat * 1 = i by omega]
    with_reducible refine x_load1 ‹_› ‹_› ?_
    refine x_eql (fun hc => ?_) (fun hc => ?_)
    with_reducible refine Cnd.yes ?_
    rotate_left
    with_reducible refine Cnd.no ?_; refine x_addN (by rw [IntKind.wrap_i64]; omega) ?_
    rotate_left
    · exact h1 i (by rw [show x = xs[i] by omega]; exact List.getElem_mem _)
    · refine ⟨⟨i + 1, by congr 1, by omega, rfl, ?_⟩, by simp only; omega⟩
      rw [List.take_succ_eq_append_getElem hlt]
      intro hm
      rcases List.mem_append.1 hm with hm | hm
      · exact hno hm
      · rw [List.mem_singleton] at hm
        omega
  · unfold S80_j7
    refine h0 ?_
    rwa [show i = xs.length by omega, List.take_length] at hno
theorem ContainsU_c {v : Value} {xs : List Nat} {x b : Nat} (ho : OwnU w b v xs) (hl : xs.length ≤ 1000000)
   (h : K (.bool (decide (x ∈ xs))) w) : C P 56 #[v, .int .u32 x] w K E := by
  obtain ⟨a, cp, rfl⟩ := own_len ho
  apply F56
  unfold S56_0
  refine x_callF (IndexU_c ⟨b, ho⟩ hl (fun hn => ?_) fun i hi => ?_)
  · refine x_geq (fun hc => by omega) (fun hc => ?_)
    rwa [decide_eq_false hn] at h
  · refine x_geq (fun hc => ?_) (fun hc => by omega)
    rwa [decide_eq_true hi] at h
theorem encR_lt {k : Int} {p f : Nat} (hp : p < 256) : (encR k p f).1 < 4294967296 := by
  unfold encR
  repeat' split
  all_goals simp only
  all_goals omega
theorem lay_c {m n table index p f : Nat} {k : Int} {M : Nat → Nat} {F : Nat → Prop} (hm : Mem w m n M F) (hp : p < 256) (hf : f < 4294967296) (ht : table % 4 = 0) (hin : table + 4 * index + 4 ≤ 4096 * n)
   (h : ∀ w' F', Fr F w w' → (∀ r, F' r → F r ∨ w.heap.size ≤ r) → (∀ r, F r → F' r) → Mem w' m n (put M (table + 4 * index) (stb (encR k p f).1)) F' → K (.tuple #[]) w') :
   C P 59 #[ptr m, .int .u32 table, .int .u32 index, entV k p f] w K E := by
  have hn : 1 ≤ n ∧ n ≤ 4096 := by obtain ⟨mb, f, hm⟩ := hm; exact hm.hn
  have hfin : ∀ r, F r → r < w.heap.size := by obtain ⟨mb, f, h⟩ := hm; exact h.fin
  apply F59
  unfold S59_0
  with_reducible refine x_boxA ?_; refine x_loadA blk_alloc_new (sub_cons (sub_cons (sub_cons sub_nil))) ?_
  generalize hw1 : World.alloc _ _ = w1
  have e1 : Ext w w1 := by rw [← hw1]; exact (Fr.refl _ w).alloc _
  clear hw1
  refine x_callF (Encode_c hp hf fun w2 e2 => ?_)
  have hlt := encR_lt (k := k) (p := p) (f := f) hp
  with_reducible refine x_extract at_0 ?_; refine x_extract at_1 ?_; refine x_mulN (by rw [IntKind.wrap_u32]; omega) ?_; refine x_addN (by rw [IntKind.wrap_u32]; omega) ?_
  rw [show (table : Int) + (4 : Int) * (index : Int) = ((table + 4 * index : Nat) : Int) by omega]
  have e12 := e1.trans e2
  have s1 := e12.size
  refine x_callF (Store_c (hm.ext e12) (by omega) hlt (by omega) (fun hx => by omega) (fun _ hx => by omega) (fun _ _ hx => by omega) fun z w3 F' hz _ _ _ e3 k1 k2 k3 => ?_)
  obtain rfl : z = 4 := by omega
  skip
  exact h w3 F' ((Fr.of_ext e12).trans e3) (fun r hr => by rcases k1 r hr with hq | hq; exact .inl hq; exact .inr (by omega)) k2 k3
end Go.Eng
namespace Go.Eng
open Go.Proofs Go.MapKept
variable {w : World} {K : Value → World → Prop} {E : List PanicEntry → World → Prop}
def rgPgs (r : Rg) : List (Nat × Nat × Nat) := (List.range r.n.toNat).map fun k => (r.v / 4096 + k, r.perm, r.p / 4096 + k)
def pgs (l : List Rg) : List (Nat × Nat × Nat) := l.flatMap rgPgs
theorem rgPgs_len {r : Rg} : (rgPgs r).length = r.n.toNat := by simp [rgPgs]
theorem pgs_succ {l : List Rg} {j : Nat} (h : j < l.length) : pgs (l.take (j + 1)) = pgs (l.take j) ++ rgPgs l[j] := by
  simp only [pgs]
  rw [List.take_succ_eq_append_getElem h, List.flatMap_append]
  simp
theorem pgs_at {l : List Rg} {j k : Nat} (h : j < l.length) (hk : k < l[j].n.toNat) : (pgs l)[(pgs (l.take j)).length + k]? = some (l[j].v / 4096 + k, l[j].perm, l[j].p / 4096 + k) := by
  have e : pgs l = pgs (l.take (j + 1)) ++ pgs (l.drop (j + 1)) := by
    conv => lhs; rw [← List.take_append_drop (j + 1) l]
    simp only [pgs, List.flatMap_append]
  rw [e, pgs_succ h, List.append_assoc, List.getElem?_append_right (by omega), Nat.add_sub_cancel_left, List.getElem?_append_left (by rw [rgPgs_len]; exact hk)]
  simp [rgPgs, hk]
abbrev plV (p : Nat) : Value := .agg #[.int .u32 (p / 1024 : Nat), .int .u32 (p % 1024 : Nat)]
theorem mayBe_iff {r : Rg} (h : mayBeR r = true) : (encR 1 r.perm (r.p / 4096)).2 = 0 ∧ r.v % 4096 = 0 ∧ r.p % 4096 = 0 ∧ 1 ≤ r.n ∧ r.n ≤ 1048576 - (r.v / 4096 : Nat) ∧ r.n ≤ 4096 - (r.p / 4096 : Nat) := by
  unfold mayBeR at h
  exact of_decide_eq_true h
theorem pages1_c {v0 sl : Value} {b1 : Nat} {l : List Rg} {fz : Nat × Nat} (hb1 : w.heap[b1]? = some (.cells #[sl] 57 fz)) (hl : RgAt w sl l) (hrk : ∀ r ∈ l, r.Ok) (hok : ∀ r ∈ l, mayBeR r = true) (hlen : l.length ≤ 1000000)
   (J : Nat → (Nat → Prop) → World → Prop) (hst : ∀ i G w w', J i G w → Ext w w' → J i G w') (hfin : ∀ i G w, J i G w → ∀ r, G r → r < w.heap.size) (G0 : Nat → Prop) (h0 : J 0 G0 w) (hG0 : ∀ g o n c, sl = .slice (some ⟨g, o, none⟩) n c → ¬ G0 g)
   (hr : ∀ i G w (p : Nat × Nat × Nat) (K' : Value → World → Prop), (pgs l)[i]? = some p → J i G w → (∀ w' G', Fr G w w' → (∀ r, G' r → G r ∨ w.heap.size ≤ r) → J (i + 1) G' w' → K' (.bool true) w') → (∀ w', K (.tuple #[]) w' → K' (.bool false) w') → X P (.callV v0 #[plV p.1, entV 1 p.2.1 p.2.2]) 4 w K' E)
   (hK : ∀ w' G, J (pgs l).length G w' → K (.tuple #[]) w') : C P 78 #[v0, ptr b1] w K E := by
  obtain ⟨a, cap, rfl, hcap, hg⟩ := hl
  apply F78
  unfold S78_0
  with_reducible refine x_load1 ‹_› at_0 ?_; refine x_lenS ?_
  unfold S78_l1
  refine ⟨fun v8 w' => ∃ (j : Nat) (G : Nat → Prop), v8 = .int .i64 j ∧ j ≤ l.length ∧ J (pgs (l.take j)).length G w' ∧ ∀ g o, a = some ⟨g, o, none⟩ → ¬ G g ∧ w'.heap[g]? = w.heap[g]?, fun v8 _ => match v8 with | .int _ j => l.length - j.toNat | _ => 0, ⟨0, G0, rfl, by omega, h0, fun g o hx => ⟨hG0 g o _ _ (by rw [hx]), rfl⟩⟩, ?_⟩
  rintro _ w1 ⟨j, G, rfl, hj, hJ, hkg⟩
  unfold S78_b1
  refine x_lss (fun hc => ?_) (fun hc => ?_)
  with_reducible refine Cnd.yes ?_
  rotate_left
  with_reducible refine Cnd.no ?_
  rotate_left
  · have hjl : j < l.length := by omega
    obtain ⟨g, o, c, rfl, hgb, hs⟩ := hg (fun h => by rw [h] at hjl; simp at hjl)
    obtain ⟨hGg, hgb1⟩ := hkg g o rfl
    rw [hgb] at hgb1
    have hm := mayBe_iff (hok _ (List.getElem_mem hjl))
    have hrj := hrk _ (List.getElem_mem hjl)
    have hpa := fun k hk => pgs_at (k := k) hjl hk
    have hps := pgs_succ hjl
    have hsub := hs j hjl
    generalize l[j] = r at *
    obtain ⟨m1, m2, m3, m4, m5, m6⟩ := hm
    have hv := hrj.v
    obtain ⟨n, hn⟩ : ∃ n : Nat, r.n = n := ⟨r.n.toNat, by omega⟩
    refine x_idxS (by omega) ?_
    rw [show o + (j : Int).toNat * 4 = o + 4 * j by omega]
    refine x_loadA hgb1 hsub ?_
    unfold rgV
    rw [hn]
    with_reducible refine x_alloc ?_; refine x_storeA blk_alloc_new rfl (by simp [Value.oneCell']) (lay_cons (lay_cons (lay_cons (lay_cons lay_nil)))) ?_; refine x_field0 ?_; refine x_load1 (by exact blk_set_same lt_alloc_new) at_2 ?_; refine x_convN (by rw [IntKind.wrap_u32]; omega) ?_
    generalize hw2 : setBlk _ _ _ = w2
    have e2 : Ext w1 w2 := by rw [← hw2]; exact ((Fr.refl _ w1).alloc _).set (fun h => by omega) _
    have b2 : w2.heap[w1.heap.size]? = some (.cells #[.int .u32 r.v, .int .u32 r.p, .int .i64 n, .int .u8 r.perm] 60 (0, 0)) := by rw [← hw2]; exact blk_set_same lt_alloc_new
    clear hw2
    have hG2 := hfin _ _ _ hJ
    skip
    unfold S78_l4
    refine ⟨fun v15 w' => ∃ (k : Nat) (G : Nat → Prop), v15 = .int .u32 k ∧ k ≤ n ∧ J ((pgs (l.take j)).length + k) G w' ∧ (¬ G g ∧ w'.heap[g]? = some (.cells c 60 (0, 0))) ∧ ¬ G w1.heap.size ∧ w'.heap[w1.heap.size]? = some (.cells #[.int .u32 r.v, .int .u32 r.p, .int .i64 n, .int .u8 r.perm] 60 (0, 0)), fun v15 _ => match v15 with | .int _ k => n - k.toNat | _ => 0,
      ⟨0, G, rfl, by omega, hst _ _ _ _ hJ e2, ⟨hGg, e2.get hgb1⟩, fun hx => by have := hG2 _ hx; omega, b2⟩, ?_⟩
    rintro _ w3 ⟨k, G3, rfl, hk, hJ3, ⟨hg3, hgb3⟩, hG3, b3⟩
    unfold S78_b4
    refine x_lss (fun hc => ?_) (fun hc => ?_)
    with_reducible refine Cnd.yes ?_; refine XQ.of rfl ?_; refine x_field0 ?_; refine qstep ?_; refine XQ.of rfl ?_; refine x_load1 ‹_› at_0 ?_; refine qstep ?_; refine XQ.of rfl ?_
    rotate_left
    with_reducible refine Cnd.no ?_
    rotate_left
    · have hkn : k < n := by omega
      skip
      refine x_shrN (s := 12) (by decide) (qstep ?_)
      with_reducible refine XQ.of rfl ?_; refine x_addN (by rw [IntKind.wrap_u32]; omega) ?_; refine qstep ?_; refine XQ.of rfl ?_; refine x_loadA ‹_› (sub_cons (sub_cons (sub_cons (sub_cons sub_nil)))) ?_; refine qstep ?_
      rw [show ((r.v / 2 ^ 12 : Nat) : Int) + (k : Int) = ((r.v / 4096 + k : Nat) : Int) by omega]
      refine x_callF (placeOf_c (by omega) fun w4 e4 => ?_)
      have b4 := e4.get b3
      with_reducible refine And.intro ?_ ?_; refine XQ.of rfl ?_; refine x_loadA ‹_› (sub_cons (sub_cons (sub_cons (sub_cons sub_nil)))) ?_; refine qstep ?_; exact rfl
      have hpo : ∀ (K : Value → World → Prop) (E : List PanicEntry → World → Prop), (∀ w', Ext w4 w' → K (entV 1 r.perm (r.p / 4096 + k)) w') → C P 77 #[.agg #[.int .u32 r.v, .int .u32 r.p, .int .i64 n, .int .u8 r.perm], .int .u32 k] w4 K E := fun K E h => by
        have := pageOf_c (K := K) (E := E) (w := w4) hrj (k := k) (by omega) h
        unfold rgV at this
        rw [hn] at this
        exact this
      refine x_callF (hpo _ _ fun w5 e5 => ?_)
      have e35 : Ext w3 w5 := (Ext.drw_self w3).trans (e4.trans e5)
      have hJ5 := hst _ _ _ _ hJ3 e35
      have b5 := e5.get b4
      have g5 := e35.get hgb3
      refine hr _ G3 w5 _ _ (hpa k (by omega)) hJ5 (fun w6 G6 f6 i6 hJ6 => ?_) fun w6 hK6 => ?_
      · have b6 := f6.get hG3 b5
        have l5 := lt_of_blk b5
        have lg5 := lt_of_blk g5
        with_reducible refine XQ.of rfl ?_; refine x_notT ?_; refine qstep ?_; refine Cnd.no ?_; refine x_addN (by rw [IntKind.wrap_u32]; omega) ?_
        exact ⟨⟨k + 1, G6, by congr 1, by omega, hJ6, ⟨fun hx => by rcases i6 _ hx with hq | hq; exact hg3 hq; omega, f6.get hg3 g5⟩, fun hx => by rcases i6 _ hx with hq | hq; exact hG3 hq; omega, b6⟩, by simp only; omega⟩
      · with_reducible refine XQ.of rfl ?_; refine x_notF ?_; refine qstep ?_; refine Cnd.yes ?_
        exact hK6
    · unfold S78_j8
      with_reducible refine x_addN (by rw [IntKind.wrap_i64]; omega) ?_
      refine ⟨⟨j + 1, G3, by congr 1, by omega, ?_, fun g' o' hx => ?_⟩, by simp only; omega⟩
      · rw [hps, List.length_append, rgPgs_len, hn, show ((n : Nat) : Int).toNat = k by omega]
        exact hJ3
      · simp only [Option.some.injEq, Addr.mk.injEq, and_true] at hx
        obtain ⟨rfl, rfl⟩ := hx
        exact ⟨hg3, by rw [hgb3, hgb]⟩
  · have := hK w1 G
    rw [show l.take j = l from List.take_of_length_le (by omega)] at hJ
    exact this hJ
end Go.Eng
namespace Go.Eng
open Go.Proofs Go.MapKept
variable {w : World} {K : Value → World → Prop} {E : List PanicEntry → World → Prop}
abbrev SS1 := List Nat × (Nat → Option Nat) × List Nat
def step1 (M : Nat → Nat) (n root : Nat) (p : Nat) (st : SS1) : Option SS1 :=
  if p ∈ st.1 then none else
  match wd M n (root + 4 * (p / 1024)) with
  | none => none
  | some x =>
    if (decR x).2.2.2 ≠ 0 ∨ (decR x).1 = 1 ∨ ((decR x).1 = 2 ∧ ¬ (decR x).2.2.1 < n) then none
    else if (decR x).1 = 0 then some (p :: st.1, st.2.1, if p / 1024 ∈ st.2.2 then st.2.2 else st.2.2 ++ [p / 1024])
    else if (wd M n (4096 * (decR x).2.2.1 + 4 * (p % 1024))).getD 0 ≠ 0 then none
    else some (p :: st.1, (fun k => if k = p / 1024 then some (4096 * (decR x).2.2.1) else st.2.1 k), st.2.2)
def scan (M : Nat → Nat) (n root : Nat) : List Nat → SS1 → Option SS1
  | [], st => some st
  | p :: l, st => (step1 M n root p st).bind (scan M n root l)
structure ScanSt (w : World) (b6 b7 b8 sm tm base : Nat) (v : Value) (st : SS1) : Prop where
  h6 : w.heap[b6]? = some (.cells #[.map (some sm)] 115 (0, 0))
  h7 : w.heap[b7]? = some (.cells #[.map (some tm)] 116 (0, 0))
  seen : ∃ es ck f, w.heap[sm]? = some (.map es ck) ∧ MapOf es ck (Two .u32 .u32) f ∧ ∀ p : Nat, f (plV p) = if p ∈ st.1 then some (.agg #[]) else none
  tabs : ∃ es ck f, w.heap[tm]? = some (.map es ck) ∧ MapOf es ck (IsKey (.int .u32)) f ∧ ∀ k : Nat, f (.int .u32 k) = (st.2.1 k).map fun t => .int .u32 (t : Nat)
  h8 : w.heap[b8]? = some (.cells #[v] 117 (0, 0))
  want : OwnU w base v st.2.2
def GS (b8 sm tm : Nat) (v : Value) (r : Nat) : Prop := r = sm ∨ r = tm ∨ r = b8 ∨ v.ownBlock = some r
theorem plV_inj {p q : Nat} : plV p = plV q ↔ p = q := by
  constructor
  · intro h
    simp only [plV, Value.agg.injEq, Array.mk.injEq, List.cons.injEq, Value.int.injEq, true_and, and_true] at h
    omega
  · rintro rfl; rfl
instance a123 : SA P 123 0 := ⟨⟨_, Tryz.underlying123, rfl⟩, by kernel_rfl⟩
theorem x_appendB {ty t e : TypeId} {cs : Array Bool} {size bytes : Nat} {z : Array Value} {base : Nat} {v : Value} {n : Nat} {xs news : List Value} {a : Addr} {m c : Nat} [hu : UT P t (.slice e)] [he : EL P e size bytes z] (hm0 : 0 < m)
    (hown : w.ownsRow base e size v n xs) (hl : news.length = m * size) (hx : Holds w a news) (h1 : ∀ u ∈ news, u.oneCell' = true) (h63 : n + m ≤ maxLen) (hby : (n + m) * bytes ≤ 140737488355328) (hbase : base ≤ w.heap.size)
    (h : ∀ v' w', w'.ownsRow base e size v' (n + m) (xs ++ news) → w.grownBy w' v.ownBlock → (v'.ownBlock = v.ownBlock ∨ v'.ownBlock = some w.heap.size) → K v' w') : X P (.callB .append #[t, t] cs #[v, .slice (some a) m c]) ty w K E := by
  obtain ⟨i, zv, g1, g2, g3, g4, rfl, g5, g6⟩ := he.h
  obtain ⟨v', w', k1, k2, k3, _⟩ := run_append_own (P := P) w base t ty e i zv size bytes hu.h g1 g2 g3 g4 g5 g6 v n xs hown a m c news hl hx h1 h63 hby hbase
  refine .run (by simp [Cop.sem, builtin, k1]) (h v' w' k2 k3 ?_)
  subst g3
  subst g4
  simp only [maxLen] at h63
  rcases hown.2 with ⟨rfl, rfl⟩ | ⟨g, cap, cur, rfl, hbg, hg, hnc, hcm, hcs, htake⟩
  · have hr := run_append_nil (P := P) w t ty e i zv hu.h g1 g2 a m c news hl hx hm0 (by omega) (by have hb := hby; simp only [Nat.zero_add] at hb; omega)
    rw [k1] at hr
    cases hr
    exact .inr rfl
  · by_cases hroom : n + m ≤ cap
    · have hfit : n * i.size + news.length ≤ cur.size := by rw [hl, hcs, ← Nat.add_mul]; exact Nat.mul_le_mul_right _ hroom
      have hr := run_append_room (P := P) w t ty e i hu.h g1 g n cap cur hg a m c news hl hx h1 hroom hfit
      rw [k1] at hr
      cases hr
      exact .inl rfl
    · have holds : ∀ j u, xs[j]? = some u → w.cell? ((⟨g, 0, none⟩ : Addr).add j) = some u := hown.cells (g := g) rfl
      have hr := run_append_grow (P := P) w t ty e i zv hu.h g1 g2 ⟨g, 0, none⟩ n cap xs hown.1 holds a m c news hl hx (by omega) (by omega) (growslice_fits (by omega) hby)
      rw [k1] at hr
      cases hr
      exact .inr rfl
theorem decR_k {v : Nat} : (decR v).1 = 0 ∨ (decR v).1 = 1 ∨ (decR v).1 = 2 := by
  simp only [decR, kindOf]
  repeat' split
  all_goals simp
theorem tword_w {m n table index : Nat} {M : Nat → Nat} {F : Nat → Prop} (hm : Mem w m n M F) (ht : table < 4294967296) (hi : index < 4294967296)
   (h0 : ∀ a : Nat, wd M n (table + 4 * index) = none → K (.tuple #[.int .u32 a, .int .u32 (0 : Nat), .bool false]) w)
   (h1 : ∀ a x w', wd M n (table + 4 * index) = some x → Ext w w' → K (.tuple #[.int .u32 (a : Nat), .int .u32 (x : Nat), .bool true]) w') :
   C P 53 #[ptr m, .int .u32 table, .int .u32 index] w K E := by
  refine tword_c hm ht hi (fun hx => ?_) (fun hx hr => ?_) fun x w' hx hr e => ?_
  · exact h0 0 (by unfold wd; rw [if_neg (by omega)])
  · exact h0 _ (by unfold wd; rw [if_pos hx]; exact hr)
  · exact h1 _ x w' (by unfold wd; rw [if_pos hx]; exact hr) e
theorem y7_c {b2 b4 b5 b6 b7 b8 b9 sm tm base s a m n root p : Nat} {e4 : Int} {v : Value} {st : SS1} {M : Nat → Nat} {F : Nat → Prop} {N : World → Prop} {R : Value → World → Prop}
   (hm : Mem w m n M F) (hs : w.heap[s]? = some (spaceO a root)) (hroot : root < 4294967296) (hp : p < 4294967296) (hlen : st.2.2.length ≤ 100000)
   (h2 : w.heap[b2]? = some (.cells #[ptr s] 72 (0, 0))) (h4 : w.heap[b4]? = some (.cells #[.int .i64 e4] 53 (0, 0))) (h5 : w.heap[b5]? = some (.cells #[ptr m] 41 (0, 0))) (h9 : w.heap[b9]? = some (.cells #[.int .u32 (p / 1024 : Nat), .int .u32 (p % 1024 : Nat)] 122 (0, 0)))
   (hS : ScanSt w b6 b7 b8 sm tm base v st) (hb : base ≤ w.heap.size)
   (hor : s < b2 ∧ b2 < b4 ∧ b4 < b5 ∧ b5 < sm ∧ sm < b6 ∧ b6 < tm ∧ tm < b7 ∧ b7 < b8 ∧ b8 < base ∧ base ≤ b9) (hF : ∀ r, F r → r < b2)
   (hN : ∀ w' v' st', step1 M n root p st = some st' → Fr (GS b8 sm tm v) w w' → (v'.ownBlock = v.ownBlock ∨ ∀ r, v'.ownBlock = some r → w.heap.size ≤ r) → ScanSt w' b6 b7 b8 sm tm base v' st' → N w')
   (hR : ∀ w', step1 M n root p st = none → Fr (fun r => GS b8 sm tm v r ∨ r = b4) w w' → w'.heap[b4]? = some (.cells #[.int .i64 71] 53 (0, 0)) → R (ptr b4) w') :
   S22_y7 (ptr b2) (ptr b4) (ptr b5) (ptr b6) (ptr b7) (ptr b8) (ptr b9) w N R (fun _ _ => False) := by
  obtain ⟨h6, h7, ⟨es, ck, fs, hsm, ms, hfs⟩, ⟨et, ct, ft, htm, mt, hft⟩, h8, hw⟩ := hS
  obtain ⟨o1, o2, o3, o4, o5, o6, o7, o8, o9, o10⟩ := hor
  have hfp := hfs p
  unfold plV at hfp
  unfold S22_y7
  have hwl : ∀ x, v.ownBlock = some x → base ≤ x ∧ x < w.heap.size := fun x hx => World.ownsRow.lt hw x hx
  by_cases hps : p ∈ st.1
  · rw [if_pos hps] at hfp
    have h0 : step1 M n root p st = none := by unfold step1; rw [if_pos hps]
    with_reducible refine x_load1 ‹_› at_0 ?_; refine x_loadA ‹_› (sub_cons (sub_cons sub_nil)) ?_; refine x_lookOkS ‹_› ‹_› two_mk ‹_› ?_; refine x_extract at_0 ?_; refine x_extract at_1 ?_; refine x_alloc ?_; refine x_storeW blk_alloc_new rfl (by decide) rfl ?_; refine Cnd.yes ?_; refine x_store1 (by refine blk_set_ne' ?_ (by exact Nat.ne_of_lt (by exact lt_of_blk ‹_›)); refine blk_alloc_old' ?_; assumption) oneI set_0 ?_
    refine hR _ h0 ((((Fr.refl _ w).alloc _).set (fun h => by omega) _).set (fun _ => .inr rfl) _) ?_
    with_reducible exact blk_set_same (by refine lt_set ?_; refine lt_alloc ?_; exact lt_of_blk ‹_›)
  · rw [if_neg hps] at hfp
    with_reducible refine x_load1 ‹_› at_0 ?_; refine x_loadA ‹_› (sub_cons (sub_cons sub_nil)) ?_; refine x_lookOkN ‹_› ‹_› two_mk ‹_› ?_; refine x_extract at_0 ?_; refine x_extract at_1 ?_; refine x_alloc ?_; refine x_storeW blk_alloc_new rfl (by decide) rfl ?_; refine Cnd.no ?_; refine x_load1 (by refine blk_set_ne' ?_ (by exact Nat.ne_of_lt (by exact lt_of_blk ‹_›)); refine blk_alloc_old' ?_; assumption) at_0 ?_; refine x_loadA (by refine blk_set_ne' ?_ (by exact Nat.ne_of_lt (by exact lt_of_blk ‹_›)); refine blk_alloc_old' ?_; assumption) (sub_cons (sub_cons sub_nil)) ?_; refine x_buildS fill_nil ?_
    generalize hw1 : setBlk _ _ _ = w1
    have e1 : Ext w w1 := by rw [← hw1]; exact ((Fr.refl _ w).alloc _).set (fun h => by omega) _
    clear hw1
    have h61 := e1.get h6
    have h91 := e1.get h9
    have hsm1 := e1.get hsm
    skip
    refine x_mapUpd hsm1 ms two_mk fun es1 ck1 ms1 _ => ?_
    generalize hw2 : setBlk w1 _ _ = w2
    have e2 : Fr (fun r => r = sm) w1 w2 := by rw [← hw2]; exact Fr.set1 (Fr.refl _ _)
    have hsm2 : w2.heap[sm]? = some (.map es1 ck1) := by rw [← hw2]; exact blk_set_same (lt_of_blk hsm1)
    clear hw2
    have e02 : Fr (fun r => r = sm) w w2 := (Fr.of_ext e1).trans e2
    have hm2 := hm.frame e02 fun r hr he => by have := hF r hr; omega
    have hs2 := e02.get (by omega) hs
    have h22 := e02.get (by omega) h2
    have h42 := e02.get (by omega) h4
    have h52 := e02.get (by omega) h5
    have h72 := e02.get (by omega) h7
    have h92 := e02.get (by omega) h9
    have h82 := e02.get (by omega) h8
    have h62 := e02.get (by omega) h6
    have htm2 := e02.get (by omega) htm
    have hw2 : OwnU w2 base v st.2.2 := hw.frame e02 fun r hr _ he => by omega
    have l9 := lt_of_blk h9
    have seen' : ∀ q : Nat, upd fs (plV p) (.agg #[]) (plV q) = if q ∈ p :: st.1 then some (.agg #[]) else none := fun q => by
      by_cases hq : q = p
      · subst hq; rw [upd_same, if_pos (by simp)]
      · rw [upd_ne (fun hx => hq (plV_inj.1 hx)), hfs q]
        simp [hq]
    with_reducible refine XQ.of rfl ?_; refine x_load1 ‹_› at_0 ?_; refine qstep ?_; refine XQ.of rfl ?_; refine x_load1 ‹_› at_0 ?_; refine qstep ?_; refine XQ.of rfl ?_; refine x_nil ?_; refine qstep ?_; refine XQ.of rfl ?_; refine x_field0 ?_; refine qstep ?_; refine XQ.of rfl ?_; refine x_load1 ‹_› at_1 ?_; refine qstep ?_; refine XQ.of rfl ?_; refine x_field0 ?_; refine qstep ?_; refine XQ.of rfl ?_; refine x_load1 ‹_› at_0 ?_; refine qstep ?_
    have dec : ∀ (a x : Nat) (there : Bool) w3, x < 4294967296 → Ext w2 w3 → (there = false → step1 M n root p st = none) → (there = true → wd M n (root + 4 * (p / 1024)) = some x) →
        X P (.callF 54 #[.int .u32 x]) 130 w3 (fun t61 w_13 =>
    X P (.extract t61 0) 129 w_13 (fun t62 w_14 =>
    X P (.extract t61 1) 53 w_14 (fun t63 w_15 =>
    X P (.alloc 129) 0 w_15 (fun t15 w_16 =>
    X P (.store 129 t15 t62) 0 w_16 (fun _ w_17 =>
    X P (.un .not (.bool there)) 4 w_17 (fun t86 w_18 =>
    XG (some t86) false P (.val t63) 53 w_18 (fun t88 w_19 =>
    XG (some t86) false P (.bin .neq 53 false true t88 (Value.int IntKind.i64 0)) 4 w_19 (fun t89 w_20 =>
    X P (.pick t86 (Value.bool true) t89) 4 w_20 (fun t90 w_21 =>
    XG (some t90) false P (.fieldAddr 129 t15 0) 0 w_21 (fun t92 w_22 =>
    XG (some t90) false P (.load 127 t92) 127 w_22 (fun t93 w_23 =>
    XG (some t90) false P (.bin .eql 127 false true t93 (Value.int IntKind.i64 1)) 4 w_23 (fun t94 w_24 =>
    X P (.pick t90 (Value.bool true) t94) 4 w_24 (fun t95 w_25 =>
    XG (some t95) false P (.fieldAddr 129 t15 0) 0 w_25 (fun t97 w_26 =>
    XG (some t95) false P (.load 127 t97) 127 w_26 (fun t98 w_27 =>
    XG (some t95) false P (.bin .eql 127 false true t98 (Value.int IntKind.i64 2)) 4 w_27 (fun t99 w_28 =>
    XG (some t95) false P (.val t99) 4 w_28 (fun t100 w_29 =>
    XG (some t100) true P (.load 41 (ptr b5)) 41 w_29 (fun t101 w_30 =>
    XG (some t100) true P (.fieldAddr 129 t15 2) 0 w_30 (fun t102 w_31 =>
    XG (some t100) true P (.load 38 t102) 38 w_31 (fun t103 w_32 =>
    XG (some t100) true P (.callF 55 #[t101, t103]) 4 w_32 (fun t104 w_33 =>
    XG (some t100) true P (.un .not t104) 4 w_33 (fun t105 w_34 =>
    XG (some t95) false P (.pick t100 t105 (Value.bool false)) 4 w_34 (fun t106 w_35 =>
    X P (.pick t95 (Value.bool true) t106) 4 w_35 (fun t107 w_36 =>
    Cnd t107 (
      X P (.store 53 (ptr b4) (Value.int IntKind.i64 71)) 0 w_36 (fun _ w_37 =>
      R (ptr b4) w_37) (fun _ _ => False)) (
      X P (.fieldAddr 129 t15 0) 0 w_36 (fun t109 w_37 =>
      X P (.load 127 t109) 127 w_37 (fun t110 w_38 =>
      X P (.bin .eql 127 false true t110 (Value.int IntKind.i64 0)) 4 w_38 (fun t111 w_39 =>
      Cnd t111 (
        X P (.load 117 (ptr b8)) 117 w_39 (fun t112 w_40 =>
        X P (.fieldAddr 122 (ptr b9) 0) 0 w_40 (fun t113 w_41 =>
        X P (.load 38 t113) 38 w_41 (fun t114 w_42 =>
        X P (.callF 56 #[t112, t114]) 4 w_42 (fun t115 w_43 =>
        X P (.un .not t115) 4 w_43 (fun t116 w_44 =>
        Cnd t116 (
          X P (.load 117 (ptr b8)) 117 w_44 (fun t117 w_45 =>
          X P (.fieldAddr 122 (ptr b9) 0) 0 w_45 (fun t118 w_46 =>
          X P (.load 38 t118) 38 w_46 (fun t119 w_47 =>
          X P (.buildSlice 117 1 #[(0, t119)]) 117 w_47 (fun t120 w_48 =>
          X P (.callB .append #[117, 117] #[false, false] #[t117, t120]) 117 w_48 (fun t121 w_49 =>
          X P (.store 117 (ptr b8) t121) 0 w_49 (fun _ w_50 =>
          N w_50) (fun _ _ => False)) (fun _ _ => False)) (fun _ _ => False)) (fun _ _ => False)) (fun _ _ => False)) (fun _ _ => False)) (
          N w_44)) (fun _ _ => False)) (fun _ _ => False)) (fun _ _ => False)) (fun _ _ => False)) (fun _ _ => False)) (
        X P (.load 116 (ptr b7)) 116 w_39 (fun t64 w_40 =>
        X P (.fieldAddr 122 (ptr b9) 0) 0 w_40 (fun t65 w_41 =>
        X P (.load 38 t65) 38 w_41 (fun t66 w_42 =>
        X P (.fieldAddr 129 t15 2) 0 w_42 (fun t67 w_43 =>
        X P (.load 38 t67) 38 w_43 (fun t68 w_44 =>
        X P (.bin .shl 38 false true t68 (Value.int IntKind.u64 12)) 38 w_44 (fun t69 w_45 =>
        X P (.mapUpdate 116 t64 t66 t69) 0 w_45 (fun _ w_46 =>
        X P (.load 41 (ptr b5)) 41 w_46 (fun t71 w_47 =>
        X P (.load 116 (ptr b7)) 116 w_47 (fun t72 w_48 =>
        X P (.fieldAddr 122 (ptr b9) 0) 0 w_48 (fun t73 w_49 =>
        X P (.load 38 t73) 38 w_49 (fun t74 w_50 =>
        X P (.lookup 116 t72 t74 false) 38 w_50 (fun t75 w_51 =>
        X P (.fieldAddr 122 (ptr b9) 1) 0 w_51 (fun t76 w_52 =>
        X P (.load 38 t76) 38 w_52 (fun t77 w_53 =>
        X P (.callF 53 #[t71, t75, t77]) 125 w_53 (fun t78 w_54 =>
        X P (.extract t78 0) 38 w_54 (fun t79 w_55 =>
        X P (.extract t78 1) 38 w_55 (fun t80 w_56 =>
        X P (.extract t78 2) 4 w_56 (fun t81 w_57 =>
        X P (.bin .neq 38 false true t80 (Value.int IntKind.u32 0)) 4 w_57 (fun t83 w_58 =>
        Cnd t83 (
          X P (.store 53 (ptr b4) (Value.int IntKind.i64 71)) 0 w_58 (fun _ w_59 =>
          R (ptr b4) w_59) (fun _ _ => False)) (
          N w_58)) (fun _ _ => False)) (fun _ _ => False)) (fun _ _ => False)) (fun _ _ => False)) (fun _ _ => False)) (fun _ _ => False)) (fun _ _ => False)) (fun _ _ => False)) (fun _ _ => False)) (fun _ _ => False)) (fun _ _ => False)) (fun _ _ => False)) (fun _ _ => False)) (fun _ _ => False)) (fun _ _ => False)) (fun _ _ => False)) (fun _ _ => False)) (fun _ _ => False)) (fun _ _ => False))) (fun _ _ => False)) (fun _ _ => False)) (fun _ _ => False))) (fun _ _ => False)) (fun _ _ => False)) (fun _ _ => False)) (fun _ _ => False)) (fun _ _ => False)) (fun _ _ => False)) (fun _ _ => False)) (fun _ _ => False)) (fun _ _ => False)) (fun _ _ => False)) (fun _ _ => False)) (fun _ _ => False)) (fun _ _ => False)) (fun _ _ => False)) (fun _ _ => False)) (fun _ _ => False)) (fun _ _ => False)) (fun _ _ => False)) (fun _ _ => False)) (fun _ _ => False)) (fun _ _ => False)) (fun _ _ => False)) (fun _ _ => False)) (fun _ _ => False) := fun a x there w3 hx e23 ht0 ht1 => by
      refine x_callF (Decode_c hx fun w4 e34 => ?_)
      have e24 := e23.trans e34
      have hdp := @decR_p x
      have hdf := @decR_f' x
      with_reducible refine x_extract at_0 ?_; refine x_extract at_1 ?_; refine x_alloc ?_; refine x_storeA blk_alloc_new rfl (by simp [Value.oneCell']) (lay_cons (lay_cons (lay_cons lay_nil))) ?_
      generalize hw5 : setBlk _ _ _ = w5
      have e45 : Ext w4 w5 := by rw [← hw5]; exact ((Fr.refl _ w4).alloc _).set (fun h => by omega) _
      have b15 : w5.heap[w4.heap.size]? = some (.cells #[.int .i64 (decR x).1, .int .u8 (decR x).2.1, .int .u32 (decR x).2.2.1] 129 (0, 0)) := by rw [← hw5]; exact blk_set_same lt_alloc_new
      clear hw5
      have e25 := e24.trans e45
      have e05 : Fr (fun r => r = sm) w w5 := e02.trans (Fr.of_ext e25)
      have hm5 := hm2.ext e25
      have h45 := e25.get h42
      have h55 := e25.get h52
      have h75 := e25.get h72
      have h95 := e25.get h92
      have h85 := e25.get h82
      have h65 := e25.get h62
      have hsm5 := e25.get hsm2
      have htm5 := e25.get htm2
      have hw5 : OwnU w5 base v st.2.2 := hw2.frame e25 fun r _ _ he => he
      have s5 := e05.size
      have s4 := e24.size
      have s2 := e02.size
      have bad : ∀ w6, step1 M n root p st = none → Fr (fun r => r = tm) w5 w6 → R (ptr b4) (setBlk w6 b4 (.cells #[.int .i64 71] 53 (0, 0))) := fun w6 h0 e6 => by
        refine hR _ h0 ((((e05.mono fun r _ hr => .inl (.inl hr)).trans (e6.mono fun r _ hr => .inl (.inr (.inl hr))))).set (fun _ => .inr rfl) _) ?_
        exact blk_set_same (e6.lt (lt_of_blk h45))
      cases there with
      | false =>
        have h0 := ht0 rfl
        with_reducible refine x_notF ?_; refine XG.no (by decide) ?_; refine XG.no (by decide) ?_; refine x_pickT ?_; refine XG.no (by decide) ?_; refine XG.no (by decide) ?_; refine XG.no (by decide) ?_; refine x_pickT ?_; refine XG.no (by decide) ?_; refine XG.no (by decide) ?_; refine XG.no (by decide) ?_; refine XG.no (by decide) ?_; refine XG.undef ?_; refine XG.undef ?_; refine XG.undef ?_; refine XG.undef ?_; refine XG.undef ?_; refine XG.no (by decide) ?_; refine x_pickT ?_; refine Cnd.yes ?_; refine x_store1 ‹_› oneI set_0 ?_
        exact bad w5 h0 (Fr.refl _ _)
      | true =>
        have hwx := ht1 rfl
        have hst : step1 M n root p st = if (decR x).2.2.2 ≠ 0 ∨ (decR x).1 = 1 ∨ ((decR x).1 = 2 ∧ ¬ (decR x).2.2.1 < n) then none
          else if (decR x).1 = 0 then some (p :: st.1, st.2.1, if p / 1024 ∈ st.2.2 then st.2.2 else st.2.2 ++ [p / 1024])
          else if (wd M n (4096 * (decR x).2.2.1 + 4 * (p % 1024))).getD 0 ≠ 0 then none
          else some (p :: st.1, (fun k => if k = p / 1024 then some (4096 * (decR x).2.2.1) else st.2.1 k), st.2.2) := by
          simp only [step1, if_neg hps, hwx]
        have hdk := @decR_k x
        generalize decR x = d at *
        obtain ⟨k, pe, f, en⟩ := d
        simp only at *
        with_reducible refine x_notT ?_; refine XG.yes ?_; refine x_val ?_; refine XG.yes ?_
        refine x_neq (fun hc => ?_) (fun hc => ?_)
        with_reducible refine x_pickF ?_; refine XG.no (by decide) ?_; refine XG.no (by decide) ?_; refine XG.no (by decide) ?_; refine x_pickT ?_; refine XG.no (by decide) ?_; refine XG.no (by decide) ?_; refine XG.no (by decide) ?_; refine XG.no (by decide) ?_; refine XG.undef ?_; refine XG.undef ?_; refine XG.undef ?_; refine XG.undef ?_; refine XG.undef ?_; refine XG.no (by decide) ?_; refine x_pickT ?_; refine Cnd.yes ?_; refine x_store1 ‹_› oneI set_0 ?_
        rotate_left
        with_reducible refine x_pickF ?_; refine XG.yes ?_; refine x_field0 ?_; refine XG.yes ?_; refine x_load1 ‹_› at_0 ?_; refine XG.yes ?_
        refine x_eql (fun hc => ?_) (fun hc => ?_)
        with_reducible refine x_pickF ?_; refine XG.no (by decide) ?_; refine XG.no (by decide) ?_; refine XG.no (by decide) ?_; refine XG.no (by decide) ?_; refine XG.undef ?_; refine XG.undef ?_; refine XG.undef ?_; refine XG.undef ?_; refine XG.undef ?_; refine XG.no (by decide) ?_; refine x_pickT ?_; refine Cnd.yes ?_; refine x_store1 ‹_› oneI set_0 ?_
        rotate_left
        with_reducible refine x_pickF ?_; refine XG.yes ?_; refine x_field0 ?_; refine XG.yes ?_; refine x_load1 ‹_› at_0 ?_; refine XG.yes ?_
        refine x_eql (fun hc => ?_) (fun hc => ?_)
        with_reducible refine XG.yes ?_; refine x_val ?_; refine XG.yes ?_; refine x_load1 ‹_› at_0 ?_; refine XG.yes ?_; refine x_field0 ?_; refine XG.yes ?_; refine x_load1 ‹_› at_2 ?_; refine XG.yes ?_
        rotate_left
        with_reducible refine XG.yes ?_; refine x_val ?_; refine XG.no (by decide) ?_; refine XG.no (by decide) ?_; refine XG.no (by decide) ?_; refine XG.no (by decide) ?_; refine XG.no (by decide) ?_; refine XG.yes ?_; refine x_pickF ?_; refine x_pickF ?_; refine Cnd.no ?_; refine x_field0 ?_; refine x_load1 ‹_› at_0 ?_
        refine x_eql (fun hc => ?_) (fun hc => by omega)
        with_reducible refine Cnd.yes ?_; refine x_load1 ‹_› at_0 ?_; refine x_field0 ?_; refine x_load1 ‹_› at_0 ?_
        rotate_left
        · exact bad w5 (by rw [hst, if_pos (by omega)]) (Fr.refl _ _)
        · exact bad w5 (by rw [hst, if_pos (by omega)]) (Fr.refl _ _)
        · -- a table
          have hk2 : k = 2 := by assumption
          have hen : en = 0 := by omega
          refine x_callF (lies_c hm5 (by omega) ?_)
          by_cases hfn : f < n
          · rw [decide_eq_true hfn]
            rw [if_neg (by omega), if_neg (by omega)] at hst
            with_reducible refine XG.yes ?_; refine x_notT ?_; refine XG.yes ?_; refine x_pickT ?_; refine x_pickF ?_; refine Cnd.no ?_; refine x_field0 ?_; refine x_load1 ‹_› at_0 ?_
            refine x_eql (fun hc => by omega) (fun hc => ?_)
            with_reducible refine Cnd.no ?_; refine x_load1 ‹_› at_0 ?_; refine x_field0 ?_; refine x_load1 ‹_› at_0 ?_; refine x_field0 ?_; refine x_load1 ‹_› at_2 ?_
            refine x_shlN' (s := 12) rfl (by omega) (by omega) ?_
            refine x_mapUpd htm5 mt keyI fun et6 ct6 mt6 _ => ?_
            generalize hw6 : setBlk w5 _ _ = w6
            have e56 : Fr (fun r => r = tm) w5 w6 := by rw [← hw6]; exact Fr.set1 (Fr.refl _ _)
            have htm6 : w6.heap[tm]? = some (.map et6 ct6) := by rw [← hw6]; exact blk_set_same (lt_of_blk htm5)
            clear hw6
            have h56 := e56.get (by omega) h55
            have h76 := e56.get (by omega) h75
            have h96 := e56.get (by omega) h95
            have hm6 := hm5.frame e56 fun r hr he => by have := hF r hr; omega
            have hup : upd ft (.int .u32 (p / 1024 : Nat)) (.int .u32 (f * 2 ^ 12 : Nat)) (.int .u32 (p / 1024 : Nat)) = some (.int .u32 (f * 2 ^ 12 : Nat)) := upd_same
            with_reducible refine x_load1 ‹_› at_0 ?_; refine x_load1 ‹_› at_0 ?_; refine x_field0 ?_; refine x_load1 ‹_› at_0 ?_; refine x_lookS ‹_› ‹_› keyI ‹_› ?_; refine x_field0 ?_; refine x_load1 ‹_› at_1 ?_
            have htab : ∀ q : Nat, upd ft (.int .u32 (p / 1024 : Nat)) (.int .u32 (f * 2 ^ 12 : Nat)) (.int .u32 (q : Nat)) = ((if q = p / 1024 then some (4096 * f) else st.2.1 q : Option Nat)).map fun t => .int .u32 (t : Nat) := fun q => by
              by_cases hq : q = p / 1024
              · subst hq
                rw [upd_same, if_pos rfl, show f * 2 ^ 12 = 4096 * f by omega]; rfl
              · rw [upd_ne (by simp; omega), if_neg hq, hft]
            have fin : ∀ w7, (wd M n (4096 * f + 4 * (p % 1024))).getD 0 = 0 → Ext w6 w7 → N w7 := fun w7 hz e67 => by
              rw [if_neg (by rw [hz]; simp)] at hst
              refine hN w7 v _ hst (((e05.mono fun r _ hr => .inl hr).trans (e56.mono fun r _ hr => .inr (.inl hr))).trans (Fr.of_ext e67)) (.inl rfl) ⟨?_, ?_, ?_, ?_, ?_, ?_⟩
              · exact e67.get (e56.get (by omega) h65)
              · exact e67.get h76
              · exact ⟨es1, ck1, _, e67.get (e56.get (by omega) hsm5), ms1, seen'⟩
              · exact ⟨et6, ct6, _, e67.get htm6, mt6, htab⟩
              · exact e67.get (e56.get (by omega) h85)
              · exact (hw5.frame e56 fun r hr _ he => by omega).frame e67 fun r _ _ he => he
            refine x_callF (tword_w hm6 (by omega) (by omega) (fun a hx => ?_) fun a y w7 hx e67 => ?_)
            · with_reducible refine x_extract at_0 ?_; refine x_extract at_1 ?_; refine x_extract at_2 ?_
              refine x_neq (fun hc => by omega) (fun hc => ?_)
              with_reducible refine Cnd.no ?_
              refine fin w6 ?_ (Fr.refl _ _)
              rw [show f * 2 ^ 12 = 4096 * f by omega] at hx
              rw [hx]; rfl
            · have h47 := e67.get (e56.get (by omega) h45)
              rw [show f * 2 ^ 12 = 4096 * f by omega] at hx
              with_reducible refine x_extract at_0 ?_; refine x_extract at_1 ?_; refine x_extract at_2 ?_
              refine x_neq (fun hc => ?_) (fun hc => ?_)
              with_reducible refine Cnd.yes ?_; refine x_store1 ‹_› oneI set_0 ?_
              rotate_left
              with_reducible refine Cnd.no ?_
              rotate_left
              · refine bad w7 ?_ (e56.trans (Fr.of_ext e67))
                rw [hst, if_pos]
                rw [hx]
                simp only [Option.getD_some]
                omega
              · refine fin w7 ?_ e67
                rw [hx]
                simp only [Option.getD_some]
                omega
          · rw [decide_eq_false hfn]
            with_reducible refine XG.yes ?_; refine x_notF ?_; refine XG.yes ?_; refine x_pickT ?_; refine x_pickF ?_; refine Cnd.yes ?_; refine x_store1 ‹_› oneI set_0 ?_
            exact bad w5 (by rw [hst, if_pos (by omega)]) (Fr.refl _ _)
        · -- none: wanted
          rw [if_neg (by omega), if_pos (by omega)] at hst
          refine x_callF (ContainsU_c hw5 (by omega) ?_)
          have fin : ∀ w7 v', Fr (fun r => r = b8 ∨ v.ownBlock = some r) w5 w7 → (v'.ownBlock = v.ownBlock ∨ ∀ r, v'.ownBlock = some r → w.heap.size ≤ r) → w7.heap[b8]? = some (.cells #[v'] 117 (0, 0)) → OwnU w7 base v' (if p / 1024 ∈ st.2.2 then st.2.2 else st.2.2 ++ [p / 1024]) → N w7 := fun w7 v' e57 hv' h87 ho7 => by
            have nb : ∀ x, x < base → x ≠ b8 → ¬ (x = b8 ∨ v.ownBlock = some x) := fun x hx hn hq => by
              rcases hq with hq | hq
              · exact hn hq
              · have := (hwl x hq).1; omega
            refine hN w7 v' _ hst ((e05.mono fun r _ hr => .inl hr).trans (e57.mono fun r _ hr => by rcases hr with hr | hr; exact .inr (.inr (.inl hr)); exact .inr (.inr (.inr hr)))) hv' ⟨?_, ?_, ?_, ?_, h87, ho7⟩
            · exact e57.get (nb _ (by omega) (by omega)) h65
            · exact e57.get (nb _ (by omega) (by omega)) h75
            · exact ⟨es1, ck1, _, e57.get (nb _ (by omega) (by omega)) hsm5, ms1, seen'⟩
            · exact ⟨et, ct, ft, e57.get (nb _ (by omega) (by omega)) htm5, mt, hft⟩
          by_cases hin : p / 1024 ∈ st.2.2
          · rw [decide_eq_true hin]
            rw [if_pos hin] at fin
            with_reducible refine x_notT ?_; refine Cnd.no ?_
            exact fin w5 v (Fr.refl _ _) (.inl rfl) h85 hw5
          · rw [decide_eq_false hin]
            rw [if_neg hin] at fin
            with_reducible refine x_notF ?_; refine Cnd.yes ?_; refine x_load1 ‹_› at_0 ?_; refine x_field0 ?_; refine x_load1 ‹_› at_0 ?_; refine x_bs_1 oneI ?_
            generalize hw6 : World.alloc _ _ = w6
            have e56 : Ext w5 w6 := by rw [← hw6]; exact (Fr.refl _ w5).alloc _
            have b6' : w6.heap[w5.heap.size]? = some (.cells #[.int .u32 (p / 1024 : Nat)] 38 (0, 0)) := by rw [← hw6]; exact blk_alloc_new
            clear hw6
            have s6 := e56.size
            have hH : Holds w6 ⟨w5.heap.size, 0, none⟩ (u32s [p / 1024]) := by
              have := holds_blk (w := w6) (o := 0) (n := 1) b6' (by simp)
              simpa [u32s] using this
            have own6 : OwnU w6 base v st.2.2 := hw5.frame e56 fun r _ _ he => he
            refine x_appendB (size := 1) (m := 1) (news := u32s [p / 1024]) (by omega) own6 (by simp [u32s]) hH (by simp [u32s, Value.oneCell']) (by simp [maxLen]; omega) (by omega) (by omega) fun v' w7 o7 g7 hvb => ?_
            have e67 : Fr (fun r => v.ownBlock = some r) w6 w7 := (Fr.refl _ w6).grown g7 fun r hr _ => hr
            have nv : ∀ x, x < base → ¬ v.ownBlock = some x := fun x hx hq => by have := (hwl x hq).1; omega
            have h87 := e67.get (nv _ (by omega)) (e56.get h85)
            have own7 : OwnU w7 base v' (st.2.2 ++ [p / 1024]) := by
              have e : u32s st.2.2 ++ u32s [p / 1024] = u32s (st.2.2 ++ [p / 1024]) := by simp [u32s]
              rw [e] at o7
              simpa [OwnU] using o7
            have hvn : v'.ownBlock = v.ownBlock ∨ ∀ r, v'.ownBlock = some r → w.heap.size ≤ r := by
              rcases hvb with hq | hq
              · exact .inl hq
              · exact .inr fun r hr => by rw [hq] at hr; cases hr; omega
            obtain ⟨a', cp', rfl⟩ := own_len own7
            with_reducible refine x_store1 ‹_› oneS set_0 ?_
            refine fin _ _ (((Fr.of_ext e56).trans (e67.mono fun r _ hr => .inr hr)).set (fun _ => .inl rfl) _) hvn ?_ (own7.frame (S := fun r => r = b8) (Fr.set1 (Fr.refl _ _)) fun r hr _ he => by omega)
            exact blk_set_same (lt_of_blk h87)
    refine x_callF (tword_w (hm2.ext (Ext.drw_self w2)) hroot (by omega) (fun a hx => ?_) fun a x w3 hx e3 => ?_)
    · with_reducible refine XQ.of rfl ?_; refine x_extract at_0 ?_; refine qstep ?_; refine XQ.of rfl ?_; refine x_extract at_1 ?_; refine qstep ?_; refine XQ.of rfl ?_; refine x_extract at_2 ?_; refine qstep ?_
      refine dec 0 0 false _ (by omega) (Ext.drw_self w2) (fun _ => ?_) (fun hx => by cases hx)
      simp only [step1, if_neg hps, hx]
    · with_reducible refine XQ.of rfl ?_; refine x_extract at_0 ?_; refine qstep ?_; refine XQ.of rfl ?_; refine x_extract at_1 ?_; refine qstep ?_; refine XQ.of rfl ?_; refine x_extract at_2 ?_; refine qstep ?_
      refine dec 0 x true w3 (wd_lt hm.bytes_lt hx) ((Ext.drw_self w2).trans e3) (fun hx => by cases hx) fun _ => hx
end Go.Eng
namespace Go.Eng
open Go.Proofs Go.MapKept
variable {w : World} {K : Value → World → Prop} {E : List PanicEntry → World → Prop}
instance : CF P 78 := c78
theorem pages_rf {sl : Value} (h1 : sl.oneCell' = true) (h : K (.func (.func 78) (List.toArray []) (List.toArray [ptr w.heap.size])) (w.alloc (.cells #[sl] 57 (0, 0)))) : C P 52 #[sl] w K E := by
  apply F52
  unfold S52_0
  refine x_box1 h1 ?_
  with_reducible refine x_mkFunc ?_
  exact h
theorem scan_split {M : Nat → Nat} {n root : Nat} {l : List Nat} {i p : Nat} {st0 st : SS1} (h : scan M n root l st0 = scan M n root (l.drop i) st) (hp : l[i]? = some p) : scan M n root l st0 = (step1 M n root p st).bind (scan M n root (l.drop (i + 1))) := by
  obtain ⟨hi, rfl⟩ := List.getElem?_eq_some_iff.1 hp
  rw [h, List.drop_eq_getElem_cons hi]
  rfl
theorem scan_len {M : Nat → Nat} {n root p : Nat} {st st' : SS1} (h : step1 M n root p st = some st') : st'.2.2.length ≤ st.2.2.length + 1 := by
  unfold step1 at h
  repeat' split at h
  all_goals first | (cases h; done) | (cases h; simp; done) | (cases h; simp only [List.length_append, List.length_cons, List.length_nil]; omega)
def pgNos (l : List Rg) : List Nat := (pgs l).map (·.1)
theorem f7_c {w0 : World} {b1 b2 b4 b5 b6 b7 b8 sm tm s a m n root : Nat} {e4 : Int} {sl : Value} {l : List Rg} {M : Nat → Nat} {F : Nat → Prop} {N R : Nat → World → Prop} {fz : Nat × Nat}
   (hm : Mem w m n M F) (hs : w.heap[s]? = some (spaceO a root)) (hroot : root < 4294967296) (hw0 : Ext w0 w)
   (hl : RgAt w sl l) (hrk : ∀ r ∈ l, r.Ok) (hok : ∀ r ∈ l, mayBeR r = true) (hlen : l.length ≤ 1000000) (hpl : (pgs l).length ≤ 90000)
   (h1 : w.heap[b1]? = some (.cells #[sl] 57 fz)) (h2 : w.heap[b2]? = some (.cells #[ptr s] 72 (0, 0))) (h4 : w.heap[b4]? = some (.cells #[.int .i64 e4] 53 (0, 0))) (h5 : w.heap[b5]? = some (.cells #[ptr m] 41 (0, 0)))
   (h6 : w.heap[b6]? = some (.cells #[.map (some sm)] 115 (0, 0))) (h7 : w.heap[b7]? = some (.cells #[.map (some tm)] 116 (0, 0))) (h8 : w.heap[b8]? = some (.cells #[.slice none 0 0] 117 (0, 0))) (hsm : w.heap[sm]? = some (.map #[] 0)) (htm : w.heap[tm]? = some (.map #[] 0))
   (hor : s < b2 ∧ b2 < b4 ∧ b4 < b5 ∧ b5 < sm ∧ sm < b6 ∧ b6 < tm ∧ tm < b7 ∧ b7 < b8 ∧ b8 < w.heap.size) (hF : ∀ r, F r → r < b2) (hb2 : w0.heap.size ≤ b2) (hg : ∀ g o n c, sl = .slice (some ⟨g, o, none⟩) n c → g < b2)
   (hN : ∀ y v st, scan M n root (pgNos l) ([], (fun _ => none), []) = some st → Ext w0 y → ScanSt y b6 b7 b8 sm tm (w.heap.size + 2) v st → y.heap[b2]? = some (.cells #[ptr s] 72 (0, 0)) → y.heap[b4]? = some (.cells #[.int .i64 e4] 53 (0, 0)) → y.heap[b5]? = some (.cells #[ptr m] 41 (0, 0)) → y.heap[w.heap.size]? = some (.deferred (some [])) → w.heap.size + 2 ≤ y.heap.size → st.2.2.length ≤ (pgs l).length → N w.heap.size y)
   (hR : ∀ y, scan M n root (pgNos l) ([], (fun _ => none), []) = none → Ext w0 y → y.heap[b4]? = some (.cells #[.int .i64 71] 53 (0, 0)) → y.heap[w.heap.size]? = some (.deferred (some [])) → R w.heap.size y) :
   S22_f7 (ptr b2) (ptr b4) (ptr b5) (ptr b6) (ptr b7) (ptr b8) (.func (.func 78) (List.toArray []) (List.toArray [ptr b1])) w N R := by
  obtain ⟨o1, o2, o3, o4, o5, o6, o7, o8, o9⟩ := hor
  refine ⟨78, [ptr b1], rfl, c78, fun rc hrc hy => ?_⟩
  have rcne : ∀ s p c T fz, rc s p ≠ .cells c T fz := fun s p c T fz he => by
    obtain ⟨r, hr⟩ := hrc s p
    rw [hr] at he; cases he
  generalize hw1 : (w.alloc (.deferred (some []))).alloc (rc .ready none) = w1
  have e1 : Ext w w1 := by rw [← hw1]; exact ((Fr.refl _ w).alloc _).alloc _
  have hD : w1.heap[w.heap.size]? = some (.deferred (some [])) := by rw [← hw1]; refine blk_alloc_old' ?_; exact blk_alloc_new
  have hL : w1.heap[w.heap.size + 1]? = some (rc .ready none) := by rw [← hw1]; exact blk_alloc_eq (by rw [size_alloc])
  have hsz1 : w1.heap.size = w.heap.size + 2 := by rw [← hw1]; simp only [size_alloc]
  clear hw1
  have hw0s := hw0.size
  have fzl : (pgNos l).length = (pgs l).length := by simp [pgNos]
  refine pages1_c (e1.get h1) (hl.keep (Keep60.ext e1)) hrk hok hlen
    (fun i G y => ∃ v st, G = (fun r => GS b8 sm tm v r ∨ r = w.heap.size + 1) ∧ scan M n root (pgNos l) ([], (fun _ => none), []) = scan M n root ((pgNos l).drop i) st ∧ ScanSt y b6 b7 b8 sm tm (w.heap.size + 2) v st ∧ y.heap[w.heap.size + 1]? = some (rc .ready none) ∧
      y.heap[b2]? = some (.cells #[ptr s] 72 (0, 0)) ∧ y.heap[b4]? = some (.cells #[.int .i64 e4] 53 (0, 0)) ∧ y.heap[b5]? = some (.cells #[ptr m] 41 (0, 0)) ∧ y.heap[w.heap.size]? = some (.deferred (some [])) ∧ Ext w0 y ∧ Mem y m n M F ∧ y.heap[s]? = some (spaceO a root) ∧ w.heap.size + 2 ≤ y.heap.size ∧ st.2.2.length ≤ i)
    (fun i G y y' hJ e => ?_) (fun i G y hJ r hr => ?_) (fun r => GS b8 sm tm (.slice none 0 0) r ∨ r = w.heap.size + 1) ?_ (fun g o n c hx hq => ?_) (fun i G y p K' hp hJ ht hf => ?_) fun y G hJ => ?_
  · -- stable
    obtain ⟨v, st, rfl, j1, hS, jL, j2, j4, j5, jD, j0, jm, js, jz, jl⟩ := hJ
    refine ⟨v, st, rfl, j1, ⟨e.get hS.h6, e.get hS.h7, ?_, ?_, e.get hS.h8, hS.want.frame e fun r _ _ hq => hq⟩, e.get jL, e.get j2, e.get j4, e.get j5, e.get jD, j0.trans e, jm.ext e, e.get js, Nat.le_trans jz e.size, jl⟩
    · obtain ⟨es, ck, f, q1, q2⟩ := hS.seen
      exact ⟨es, ck, f, e.get q1, q2⟩
    · obtain ⟨es, ck, f, q1, q2⟩ := hS.tabs
      exact ⟨es, ck, f, e.get q1, q2⟩
  · -- the footprint lies
    obtain ⟨v, st, rfl, j1, hS, jL, j2, j4, j5, jD, j0, jm, js, jz, jl⟩ := hJ
    rcases hr with (hq | hq | hq | hq) | hq
    · omega
    · omega
    · omega
    · exact (World.ownsRow.lt hS.want r hq).2
    · omega
  · -- at the begin
    refine ⟨_, _, rfl, by rw [List.drop_zero], ⟨e1.get h6, e1.get h7, ⟨#[], 0, _, e1.get hsm, MapOf.empty _ _, fun p => by simp⟩, ⟨#[], 0, _, e1.get htm, MapOf.empty _ _, fun p => rfl⟩, e1.get h8, OwnU.nil⟩, hL, e1.get h2, e1.get h4, e1.get h5, hD, hw0.trans e1, hm.ext e1, e1.get hs, by omega, by simp⟩
  · have := hg g o n c hx
    rcases hq with (hq | hq | hq | hq) | hq
    · omega
    · omega
    · omega
    · simp [Value.ownBlock] at hq
    · omega
  · -- a round
    obtain ⟨v, st, rfl, j1, hS, jL, j2, j4, j5, jD, j0, jm, js, jz, jl⟩ := hJ
    refine hy (plV p.1) (entV 1 p.2.1 p.2.2) 4 y K' jL ?_
    have hpi : (pgNos l)[i]? = some p.1 := by simp [pgNos, hp]
    have hil : i < (pgs l).length := (List.getElem?_eq_some_iff.1 hp).1
    have hsp := scan_split j1 hpi
    have hp32 : p.1 < 4294967296 := by
      have : p ∈ pgs l := List.mem_of_getElem? hp
      simp only [pgs, List.mem_flatMap, rgPgs, List.mem_map, List.mem_range] at this
      obtain ⟨r, hr, k, hk, rfl⟩ := this
      have := mayBe_iff (hok r hr)
      have := (hrk r hr).v
      simp only
      omega
    unfold S22_a7
    with_reducible refine x_alloc ?_; refine x_storeA blk_alloc_new rfl (by simp [Value.oneCell']) (lay_cons (lay_cons lay_nil)) ?_
    generalize hy1 : setBlk (World.alloc _ _) _ _ = y1
    have e01 : Ext y y1 := by rw [← hy1]; exact ((Fr.refl _ y).alloc _).set (fun h => by omega) _
    have b9 : y1.heap[y.heap.size]? = some (.cells #[.int .u32 (p.1 / 1024 : Nat), .int .u32 (p.1 % 1024 : Nat)] 122 (0, 0)) := by rw [← hy1]; exact blk_set_same lt_alloc_new
    clear hy1
    have jL1 := e01.get jL
    refine ⟨jL1, ?_⟩
    generalize hy2 : setBlk y1 _ _ = y2
    have e12 : Fr (fun r => r = w.heap.size + 1) y1 y2 := by rw [← hy2]; exact Fr.set1 (Fr.refl _ _)
    have jL2 : y2.heap[w.heap.size + 1]? = some (rc .busy none) := by rw [← hy2]; exact blk_set_same (lt_of_blk jL1)
    clear hy2
    have e02 : Fr (fun r => r = w.heap.size + 1) y y2 := (Fr.of_ext e01).trans e12
    have sz02 := e02.size
    have hS2 : ScanSt y2 b6 b7 b8 sm tm (w.heap.size + 2) v st := by
      obtain ⟨es, ck, f, q1, q2⟩ := hS.seen
      obtain ⟨es', ck', f', q1', q2'⟩ := hS.tabs
      exact ⟨e02.get (by omega) hS.h6, e02.get (by omega) hS.h7, ⟨es, ck, f, e02.get (by omega) q1, q2⟩, ⟨es', ck', f', e02.get (by omega) q1', q2'⟩, e02.get (by omega) hS.h8, hS.want.frame e02 fun r hr _ hq => by omega⟩
    have hwl : ∀ x, v.ownBlock = some x → w.heap.size + 2 ≤ x ∧ x < y.heap.size := fun x hx => World.ownsRow.lt hS.want x hx
    have nGS : ∀ x, x < w.heap.size + 2 → x ≠ sm → x ≠ tm → x ≠ b8 → ¬ GS b8 sm tm v x := fun x h1 h2 h3 h4 hq => by
      rcases hq with hq | hq | hq | hq
      · exact h2 hq
      · exact h3 hq
      · exact h4 hq
      · have := (hwl x hq).1; omega
    have toExt : ∀ z, Fr (fun r => GS b8 sm tm v r ∨ r = w.heap.size + 1 ∨ r = b4) y z → Ext w0 z := fun z hz => j0.trans' hz fun r hr hlt => by
      rcases hr with (hq | hq | hq | hq) | hq | hq
      · omega
      · omega
      · omega
      · have := (hwl r hq).1; omega
      · omega
      · omega
    refine y7_c (base := w.heap.size + 2) (a := a) (jm.frame e02 fun r hr he => by have := hF r hr; omega) (e02.get (by omega) js) hroot hp32 (by omega) (e02.get (by omega) j2) (e02.get (by omega) j4) (e02.get (by omega) j5) (e12.get (by omega) b9) hS2 (by omega) (by omega) hF (fun y3 v' st' hst e23 hv' hS3 => ?_) fun y3 hst e23 h43 => ?_
    · have jL3 := e23.get (nGS _ (by omega) (by omega) (by omega) (by omega)) jL2
      refine ⟨jL3, ?_⟩
      generalize hy4 : setBlk y3 _ _ = y4
      have e34 : Fr (fun r => r = w.heap.size + 1) y3 y4 := by rw [← hy4]; exact Fr.set1 (Fr.refl _ _)
      have jL4 : y4.heap[w.heap.size + 1]? = some (rc .ready none) := by rw [← hy4]; exact blk_set_same (lt_of_blk jL3)
      clear hy4
      have e04 : Fr (fun r => GS b8 sm tm v r ∨ r = w.heap.size + 1) y y4 := ((e02.mono fun r _ hr => .inr hr).trans (e23.mono fun r _ hr => .inl hr)).trans (e34.mono fun r _ hr => .inr hr)
      have nG : ∀ x, x < w.heap.size + 1 → x ≠ sm → x ≠ tm → x ≠ b8 → ¬ (GS b8 sm tm v x ∨ x = w.heap.size + 1) := fun x h1 h2 h3 h4 hq => by
        rcases hq with hq | hq
        · exact nGS x (by omega) h2 h3 h4 hq
        · omega
      refine ht y4 (fun r => GS b8 sm tm v' r ∨ r = w.heap.size + 1) e04 (fun r hr => ?_) ⟨v', st', rfl, ?_, ?_, jL4, e04.get (nG _ (by omega) (by omega) (by omega) (by omega)) j2, e04.get (nG _ (by omega) (by omega) (by omega) (by omega)) j4, e04.get (nG _ (by omega) (by omega) (by omega) (by omega)) j5, e04.get (nG _ (by omega) (by omega) (by omega) (by omega)) jD, toExt _ (e04.mono fun r _ hr => by rcases hr with hr | hr; exact .inl hr; exact .inr (.inl hr)), jm.frame e04 (fun r hr => nG r (by have := hF r hr; omega) (by have := hF r hr; omega) (by have := hF r hr; omega) (by have := hF r hr; omega)), e04.get (nG _ (by omega) (by omega) (by omega) (by omega)) js, Nat.le_trans jz e04.size, by have := scan_len hst; omega⟩
      · rcases hr with (hq | hq | hq | hq) | hq
        · exact .inl (.inl (.inl hq))
        · exact .inl (.inl (.inr (.inl hq)))
        · exact .inl (.inl (.inr (.inr (.inl hq))))
        · rcases hv' with hv' | hv'
          · rw [hv'] at hq; exact .inl (.inl (.inr (.inr (.inr hq))))
          · exact .inr (by have := hv' r hq; omega)
        · exact .inl (.inr hq)
      · rw [hsp, hst]; rfl
      · obtain ⟨es, ck, f, q1, q2⟩ := hS3.seen
        obtain ⟨es', ck', f', q1', q2'⟩ := hS3.tabs
        exact ⟨e34.get (by omega) hS3.h6, e34.get (by omega) hS3.h7, ⟨es, ck, f, e34.get (by omega) q1, q2⟩, ⟨es', ck', f', e34.get (by omega) q1', q2'⟩, e34.get (by omega) hS3.h8, hS3.want.frame e34 fun r hr _ hq => by omega⟩
    · have jL3 := e23.get (by rintro (hq | hq); exact nGS _ (by omega) (by omega) (by omega) (by omega) hq; omega) jL2
      refine ⟨jL3, hf _ (.inr ⟨blk_set_same (lt_of_blk jL3), ?_⟩)⟩
      generalize hy4 : setBlk y3 _ _ = y4
      have e34 : Fr (fun r => r = w.heap.size + 1) y3 y4 := by rw [← hy4]; exact Fr.set1 (Fr.refl _ _)
      clear hy4
      generalize hy5 : setBlk y4 _ _ = y5
      have e45 : Fr (fun r => r = w.heap.size + 1) y4 y5 := by rw [← hy5]; exact Fr.set1 (Fr.refl _ _)
      clear hy5
      have e35 := e34.trans e45
      have e05 : Fr (fun r => GS b8 sm tm v r ∨ r = w.heap.size + 1 ∨ r = b4) y y5 := ((e02.mono fun r _ hr => .inr (.inl hr)).trans (e23.mono fun r _ hr => by rcases hr with hr | hr; exact .inl hr; exact .inr (.inr hr))).trans (e35.mono fun r _ hr => .inr (.inl hr))
      refine hR y5 (by rw [hsp, hst]; rfl) (toExt _ e05) (e35.get (by omega) h43) (e05.get ?_ jD)
      rintro (hq | hq | hq)
      · exact nGS _ (by omega) (by omega) (by omega) (by omega) hq
      · omega
      · omega
  · -- all done
    obtain ⟨v, st, rfl, j1, hS, jL, j2, j4, j5, jD, j0, jm, js, jz, jl⟩ := hJ
    rw [← fzl, List.drop_length] at j1
    refine .inl ⟨jL, ?_⟩
    generalize hy4 : setBlk y _ _ = y4
    have e4' : Fr (fun r => r = w.heap.size + 1) y y4 := by rw [← hy4]; exact Fr.set1 (Fr.refl _ _)
    clear hy4
    refine hN y4 v st j1 (j0.trans' e4' fun r hr hlt => by omega) ?_ (e4'.get (by omega) j2) (e4'.get (by omega) j4) (e4'.get (by omega) j5) (e4'.get (by omega) jD) (Nat.le_trans jz e4'.size) jl
    obtain ⟨es, ck, f, q1, q2⟩ := hS.seen
    obtain ⟨es', ck', f', q1', q2'⟩ := hS.tabs
    exact ⟨e4'.get (by omega) hS.h6, e4'.get (by omega) hS.h7, ⟨es, ck, f, e4'.get (by omega) q1, q2⟩, ⟨es', ck', f', e4'.get (by omega) q1', q2'⟩, e4'.get (by omega) hS.h8, hS.want.frame e4' fun r hr _ hq => by omega⟩
end Go.Eng
namespace Go.Eng
open Go.Proofs Go.MapKept
variable {w : World} {K : Value → World → Prop} {E : List PanicEntry → World → Prop}
theorem wd_some {M : Nat → Nat} {n a x : Nat} (h : wd M n a = some x) : a % 4 = 0 ∧ a + 4 ≤ 4096 * n := by
  unfold wd rd at h
  repeat' split at h
  all_goals first | (cases h; done) | assumption
structure ScanOk (M : Nat → Nat) (n root : Nat) (st : SS1) : Prop where
  want : ∀ f ∈ st.2.2, root % 4 = 0 ∧ root + 4 * f + 4 ≤ 4096 * n
  tabs : ∀ k t, st.2.1 k = some t → t % 4096 = 0 ∧ t + 4096 ≤ 4096 * n
theorem step1_ok {M : Nat → Nat} {n root p : Nat} {st st' : SS1} (h : step1 M n root p st = some st') (hs : ScanOk M n root st) : ScanOk M n root st' := by
  unfold step1 at h
  split at h
  · cases h
  · split at h
    · cases h
    · rename_i x hx
      obtain ⟨h4, hn⟩ := wd_some hx
      split at h
      · cases h
      · rename_i hk
        split at h
        · simp only [Option.some.injEq] at h
          subst h
          refine ⟨fun f hf => ?_, hs.tabs⟩
          simp only at hf
          split at hf
          · exact hs.want f hf
          · rcases List.mem_append.1 hf with hf | hf
            · exact hs.want f hf
            · rw [List.mem_singleton.1 hf]; omega
        · rename_i hk0
          split at h
          · cases h
          · simp only [Option.some.injEq] at h
            subst h
            refine ⟨hs.want, fun k t ht => ?_⟩
            simp only at ht
            split at ht
            · simp only [Option.some.injEq] at ht
              have := @decR_k x
              omega
            · exact hs.tabs k t ht
theorem scan_ok {M : Nat → Nat} {n root : Nat} : ∀ (l : List Nat) (st st' : SS1), scan M n root l st = some st' → ScanOk M n root st → ScanOk M n root st'
  | [], st, st', h, hs => by cases h; exact hs
  | p :: l, st, st', h, hs => by
    simp only [scan] at h
    cases h1 : step1 M n root p st with
    | none => rw [h1] at h; cases h
    | some st1 =>
      rw [h1] at h
      exact scan_ok l st1 st' h (step1_ok h1 hs)
theorem s8_c {b2 b4 b8 s a m root base pages taken : Nat} {e4 : Int} {sl : Bool} {v v1 v5 v7 : Value} {want : List Nat} {bo : Nat} {N : Value → Value → Value → Value → Value → Value → World → Prop} {R : Value → World → Prop}
   (hs : w.heap[s]? = some (spaceO a root)) (ha : w.heap[a]? = some (arenaO m base pages taken sl)) (ht : taken ≤ pages) (hp : pages ≤ 4096)
   (h2 : w.heap[b2]? = some (.cells #[ptr s] 72 (0, 0))) (h4 : w.heap[b4]? = some (.cells #[.int .i64 e4] 53 (0, 0))) (h8 : w.heap[b8]? = some (.cells #[v] 117 (0, 0))) (hw : OwnU w bo v want) (hwl : want.length ≤ 1000000)
   (hN : ∀ w', ¬ (want ≠ [] ∧ sl = true) → want.length ≤ pages - taken → Ext w w' → N v1 (ptr b2) (ptr b4) v5 v7 (ptr b8) w')
   (hR : ∀ w' (e : Int), Fr (fun r => r = b4) w w' → w'.heap[b4]? = some (.cells #[.int .i64 e] 53 (0, 0)) → ((want ≠ [] ∧ sl = true ∧ e = 73) ∨ (¬ (want ≠ [] ∧ sl = true) ∧ pages - taken < want.length ∧ e = 72)) → R (ptr b4) w') :
   S22_s8 v1 (ptr b2) (ptr b4) v5 v7 (ptr b8) w N R (fun _ _ => False) := by
  obtain ⟨av, cv, rfl⟩ := own_len hw
  have hne : want ≠ [] ↔ 0 < want.length := by rw [List.length_pos_iff]
  have rest : ¬ (want ≠ [] ∧ sl = true) → X P (.callF 58 #[ptr a]) 3 (drw w) (fun t140 w_10 =>
    (XQ P (.callB .len #[117] #[false] #[.slice av want.length cv]) 3 w_10 (fun v => v = .int .i64 want.length)) ∧
    (XQ P (.load 117 (ptr b8)) 117 w_10 (fun v => v = .slice av want.length cv)) ∧
    XQ P (.bin .gtr 3 false false (.int .i64 want.length) t140) 4 w_10 (fun t141 =>
    Cnd t141 (
      X P (.store 53 (ptr b4) (Value.int IntKind.i64 72)) 0 w_10 (fun _ w_11 =>
      R (ptr b4) w_11) (fun _ _ => False)) (
      N v1 (ptr b2) (ptr b4) v5 v7 (ptr b8) w_10))) (fun _ _ => False) := fun hx => by
    refine x_callF (left_c (w := drw w) ha ht hp ?_)
    with_reducible refine And.intro ?_ ?_; refine XQ.of rfl ?_; refine x_lenS ?_; refine qstep ?_; exact rfl; refine And.intro ?_ ?_; refine XQ.of rfl ?_; refine x_load1 ‹_› at_0 ?_; refine qstep ?_; exact rfl; refine XQ.of rfl ?_
    refine x_gtr (fun hc => ?_) (fun hc => ?_)
    with_reducible refine qstep ?_; refine Cnd.yes ?_; refine x_store1 ‹_› oneI set_0 ?_
    rotate_left
    with_reducible refine qstep ?_; refine Cnd.no ?_
    rotate_left
    · exact hR _ 72 (Fr.set1 (((Fr.refl _ w).drw).drw)) (by exact blk_set_same (by exact lt_of_blk ‹_›)) (.inr ⟨hx, by omega, rfl⟩)
    · exact hN _ hx (by omega) (((Fr.refl _ w).drw).drw)
  unfold S22_s8
  with_reducible refine x_load1 ‹_› at_0 ?_; refine x_lenS ?_
  refine x_gtr (fun hc => ?_) (fun hc => ?_)
  with_reducible refine XG.yes ?_; refine x_load1 ‹_› at_0 ?_; refine XG.yes ?_; refine x_nil ?_; refine XG.yes ?_; refine x_field0 ?_; refine XG.yes ?_; refine x_load1 ‹_› at_0 ?_; refine XG.yes ?_
  rotate_left
  with_reducible refine XG.no (by decide) ?_; refine XG.no (by decide) ?_; refine XG.no (by decide) ?_; refine XG.no (by decide) ?_; refine XG.no (by decide) ?_; refine x_pickF ?_; refine Cnd.no ?_; refine XQ.of rfl ?_; refine x_load1 ‹_› at_0 ?_; refine qstep ?_; refine XQ.of rfl ?_; refine x_lenS ?_; refine qstep ?_; refine XQ.of rfl ?_; refine x_load1 ‹_› at_0 ?_; refine qstep ?_; refine XQ.of rfl ?_; refine x_nil ?_; refine qstep ?_; refine XQ.of rfl ?_; refine x_field0 ?_; refine qstep ?_; refine XQ.of rfl ?_; refine x_load1 ‹_› at_0 ?_; refine qstep ?_
  rotate_left
  · refine x_callF (sealed_c ha ?_)
    cases sl with
    | true =>
      with_reducible refine x_pickT ?_; refine Cnd.yes ?_; refine x_store1 ‹_› oneI set_0 ?_
      exact hR _ 73 (Fr.set1 (Fr.refl _ w)) (by exact blk_set_same (by exact lt_of_blk ‹_›)) (.inl ⟨hne.2 (by omega), rfl, rfl⟩)
    | false =>
      refine x_pickT ?_
      refine Cnd.no ?_
      with_reducible refine XQ.of rfl ?_; refine x_load1 ‹_› at_0 ?_; refine qstep ?_; refine XQ.of rfl ?_; refine x_lenS ?_; refine qstep ?_; refine XQ.of rfl ?_; refine x_load1 ‹_› at_0 ?_; refine qstep ?_; refine XQ.of rfl ?_; refine x_nil ?_; refine qstep ?_; refine XQ.of rfl ?_; refine x_field0 ?_; refine qstep ?_; refine XQ.of rfl ?_; refine x_load1 ‹_› at_0 ?_; refine qstep ?_
      exact rest (fun hx => by cases hx.2)
  · exact rest (fun hx => by have := hne.1 hx.1; omega)
end Go.Eng
namespace Go.Eng
open Go.Proofs Go.MapKept
variable {w : World} {K : Value → World → Prop} {E : List PanicEntry → World → Prop}
abbrev TS := (Nat → Nat) × Nat × (Nat → Option Nat)
def take1 (root base f : Nat) (t : TS) : TS :=
  (put (put t.1 (base + 4096 * t.2.1) (List.replicate 4096 0)) (root + 4 * f) (stb (encR 2 0 ((base + 4096 * t.2.1) / 4096)).1), t.2.1 + 1, fun k => if k = f then some (base + 4096 * t.2.1) else t.2.2 k)
def takeAll (root base : Nat) : List Nat → TS → TS
  | [], t => t
  | f :: l, t => takeAll root base l (take1 root base f t)
theorem s9_c {b2 b5 b7 b8 tm bo s a m n root base pages taken : Nat} {v v1 v4 : Value} {st : SS1} {M : Nat → Nat} {F : Nat → Prop} {N : Value → Value → Value → Value → World → Prop}
   (hm : Mem w m n M F) (hs : w.heap[s]? = some (spaceO a root)) (hroot : root < 4294967296) (ha : w.heap[a]? = some (arenaO m base pages taken false) ∨ st.2.2 = [])
   (hb4 : base % 4096 = 0) (hbp : base / 4096 + pages ≤ n) (ht : taken + st.2.2.length ≤ pages)
   (h2 : w.heap[b2]? = some (.cells #[ptr s] 72 (0, 0))) (h5 : w.heap[b5]? = some (.cells #[ptr m] 41 (0, 0))) (h7 : w.heap[b7]? = some (.cells #[.map (some tm)] 116 (0, 0))) (h8 : w.heap[b8]? = some (.cells #[v] 117 (0, 0))) (hw : OwnU w bo v st.2.2)
   (htm : ∃ es ck f, w.heap[tm]? = some (.map es ck) ∧ MapOf es ck (IsKey (.int .u32)) f ∧ ∀ k : Nat, f (.int .u32 k) = (st.2.1 k).map fun t => .int .u32 (t : Nat))
   (hwant : ∀ f ∈ st.2.2, f < 4294967296 ∧ root % 4 = 0 ∧ root + 4 * f + 4 ≤ 4096 * n)
   (hor : s < b2 ∧ a < b2 ∧ b2 < b5 ∧ b5 < tm ∧ tm < b7 ∧ b7 < b8 ∧ b8 < bo) (hF : ∀ r, F r → r < b2) (haF : ¬ F a) (hsF : ¬ F s) (hsa : s ≠ a)
   (hN : ∀ w' F', Fr (fun r => F r ∨ (r = a ∧ st.2.2 ≠ []) ∨ r = tm) w w' → (∀ r, F' r → F r ∨ w.heap.size ≤ r) → (∀ r, F r → F' r) → Mem w' m n (takeAll root base st.2.2 (M, taken, st.2.1)).1 F' →
     (w.heap[a]? = some (arenaO m base pages taken false) → w'.heap[a]? = some (arenaO m base pages (takeAll root base st.2.2 (M, taken, st.2.1)).2.1 false)) →
     (∃ es ck f, w'.heap[tm]? = some (.map es ck) ∧ MapOf es ck (IsKey (.int .u32)) f ∧ ∀ k : Nat, f (.int .u32 k) = ((takeAll root base st.2.2 (M, taken, st.2.1)).2.2 k).map fun t => .int .u32 (t : Nat)) → N v1 v4 (ptr b5) (ptr b7) w') :
   S22_s9 v1 (ptr b2) v4 (ptr b5) (ptr b7) (ptr b8) w N (fun _ _ => False) := by
  obtain ⟨o1, o2, o3, o4, o5, o6, o7⟩ := hor
  obtain ⟨av, cv, rfl⟩ := own_len hw
  have hn : 1 ≤ n ∧ n ≤ 4096 := by obtain ⟨mb, f, hm⟩ := hm; exact hm.hn
  unfold S22_s9
  with_reducible refine x_load1 ‹_› at_0 ?_; refine x_lenS ?_
  unfold S22_l29
  refine ⟨fun v144 y => ∃ (j : Nat) (Fj : Nat → Prop) (t : TS), v144 = .int .i64 j ∧ j ≤ st.2.2.length ∧ Fr (fun r => F r ∨ (r = a ∧ st.2.2 ≠ []) ∨ r = tm) w y ∧ (∀ r, Fj r → F r ∨ w.heap.size ≤ r) ∧ (∀ r, F r → Fj r) ∧ Mem y m n t.1 Fj ∧ (w.heap[a]? = some (arenaO m base pages taken false) → y.heap[a]? = some (arenaO m base pages t.2.1 false)) ∧
      (∃ es ck f, y.heap[tm]? = some (.map es ck) ∧ MapOf es ck (IsKey (.int .u32)) f ∧ ∀ k : Nat, f (.int .u32 k) = (t.2.2 k).map fun t => .int .u32 (t : Nat)) ∧ t.2.1 = taken + j ∧ takeAll root base st.2.2 (M, taken, st.2.1) = takeAll root base (st.2.2.drop j) t, fun v144 _ => match v144 with | .int _ j => st.2.2.length - j.toNat | _ => 0,
      ⟨0, F, (M, taken, st.2.1), rfl, by omega, Fr.refl _ _, fun r hr => .inl hr, fun r hr => hr, hm, fun hx => hx, htm, by simp, by simp⟩, ?_⟩
  rintro _ y ⟨j, Fj, t, rfl, hj, e1, i1, i2, hmj, haj, htmj, htj, heq⟩
  have nF : ∀ r, ¬ F r → r < w.heap.size → ¬ Fj r := fun r h1 h2 h3 => by rcases i1 r h3 with hq | hq; exact h1 hq; omega
  have l8 := lt_of_blk h8
  have h2y := e1.get (by rintro (hq | hq | hq); have := hF _ hq; all_goals omega) h2
  have h5y := e1.get (by rintro (hq | hq | hq); have := hF _ hq; all_goals omega) h5
  have h7y := e1.get (by rintro (hq | hq | hq); have := hF _ hq; all_goals omega) h7
  have hsy := e1.get (by rintro (hq | hq | hq); exact hsF hq; exact hsa hq.1; omega) hs
  obtain ⟨es, ck, ft, htmy, mt, hft⟩ := htmj
  have s1 := e1.size
  unfold S22_b29
  refine x_lss (fun hc => ?_) (fun hc => ?_)
  with_reducible refine Cnd.yes ?_
  rotate_left
  with_reducible refine Cnd.no ?_
  rotate_left
  · have hjl : j < st.2.2.length := by omega
    have hne : st.2.2 ≠ [] := fun h => by rw [h] at hjl; simp at hjl
    obtain ⟨g, cur, rfl, hg, hgb, hgs, htk, hcap⟩ := own_at hw (by omega)
    have hgb1 := e1.get (by rintro (hq | hq | hq); have := hF _ hq; all_goals omega) hgb
    have hfw := hwant _ (List.getElem_mem hjl)
    have hat : cur[j]? = some (.int .u32 (st.2.2[j] : Nat)) := by
      have := congrArg (fun x => x[j]?) htk
      simp only [List.getElem?_take, u32s, List.getElem?_map] at this
      rw [if_pos (by omega)] at this
      simpa [hjl] using this
    have hdr : st.2.2.drop j = st.2.2[j] :: st.2.2.drop (j + 1) := List.drop_eq_getElem_cons hjl
    rw [hdr] at heq
    simp only [takeAll] at heq
    generalize st.2.2[j] = f at *
    have haw : w.heap[a]? = some (arenaO m base pages taken false) := by
      rcases ha with ha | ha
      · exact ha
      · rw [ha] at hjl; simp at hjl
    have hay := haj haw
    refine x_idxS (by omega) ?_
    rw [show 0 + (j : Int).toNat * 1 = j by omega]
    with_reducible refine x_load1 ‹_› ‹_› ?_; refine XQ.of rfl ?_; refine x_load1 ‹_› at_0 ?_; refine qstep ?_; refine XQ.of rfl ?_; refine x_load1 ‹_› at_0 ?_; refine qstep ?_; refine XQ.of rfl ?_; refine x_nil ?_; refine qstep ?_; refine XQ.of rfl ?_; refine x_field0 ?_; refine qstep ?_; refine XQ.of rfl ?_; refine x_load1 ‹_› at_0 ?_; refine qstep ?_
    refine x_callF (Take_c (hmj.ext (Ext.drw_self y)) hay (nF a haF (lt_of_blk haw)) hb4 hbp (by omega) (fun hx => by cases hx) (fun _ hx => by omega) fun y2 F2 _ _ e2 k1 k2 hm2 ha2 => ?_)
    have s2 : y.heap.size ≤ y2.heap.size := e2.size
    replace e2 : Fr (fun r => Fj r ∨ r = a) y y2 := (Fr.of_ext (Ext.drw_self y)).trans e2
    have n2 : ∀ r, r < w.heap.size → ¬ F r → r ≠ a → ¬ (Fj r ∨ r = a) := fun r h1 h2 h3 hq => by
      rcases hq with hq | hq
      · exact nF r h2 h1 hq
      · exact h3 hq
    have h2y2 := e2.get (n2 _ (by omega) (fun hq => by have := hF _ hq; omega) (by omega)) h2y
    have h5y2 := e2.get (n2 _ (by omega) (fun hq => by have := hF _ hq; omega) (by omega)) h5y
    have h7y2 := e2.get (n2 _ (by omega) (fun hq => by have := hF _ hq; omega) (by omega)) h7y
    have hsy2 := e2.get (n2 _ (lt_of_blk hs) hsF hsa) hsy
    have htmy2 := e2.get (n2 _ (by omega) (fun hq => by have := hF _ hq; omega) (by omega)) htmy
    with_reducible refine And.intro ?_ ?_; refine XQ.of rfl ?_; refine x_load1 ‹_› at_0 ?_; refine qstep ?_; exact rfl; refine XQ.of rfl ?_; refine x_extract at_0 ?_; refine qstep ?_; refine XQ.of rfl ?_; refine x_extract at_1 ?_; refine qstep ?_
    refine x_mapUpd htmy2 mt keyI fun es3 ck3 mt3 _ => ?_
    generalize hy3 : setBlk y2 _ _ = y3
    have e3 : Fr (fun r => r = tm) y2 y3 := by rw [← hy3]; exact Fr.set1 (Fr.refl _ _)
    have htmy3 : y3.heap[tm]? = some (.map es3 ck3) := by rw [← hy3]; exact blk_set_same (lt_of_blk htmy2)
    clear hy3
    have h2y3 := e3.get (by omega) h2y2
    have h5y3 := e3.get (by omega) h5y2
    have h7y3 := e3.get (by omega) h7y2
    have hsy3 := e3.get (by omega) hsy2
    have F2n : ∀ r, F2 r → F r ∨ w.heap.size ≤ r := fun r hr => by
      rcases k1 r hr with hq | hq
      · exact i1 r hq
      · exact .inr (by have : y.heap.size ≤ r := hq; omega)
    have hm3 := hm2.frame e3 fun r hr he => by
      rcases F2n r hr with hq | hq
      · have := hF r hq; omega
      · omega
    have hup : upd ft (.int .u32 (f : Nat)) (.int .u32 (base + 4096 * t.2.1 : Nat)) (.int .u32 (f : Nat)) = some (.int .u32 (base + 4096 * t.2.1 : Nat)) := upd_same
    with_reducible refine And.intro ?_ ?_; refine XQ.of rfl ?_; refine x_extract at_1 ?_; refine qstep ?_; exact rfl; refine XQ.of rfl ?_; refine x_load1 ‹_› at_0 ?_; refine qstep ?_; refine XQ.of rfl ?_; refine x_load1 ‹_› at_0 ?_; refine qstep ?_; refine XQ.of rfl ?_; refine x_nil ?_; refine qstep ?_; refine XQ.of rfl ?_; refine x_field0 ?_; refine qstep ?_; refine XQ.of rfl ?_; refine x_load1 ‹_› at_1 ?_; refine qstep ?_; refine XQ.of rfl ?_; refine x_load1 ‹_› at_0 ?_; refine qstep ?_; refine XQ.of rfl ?_; refine x_lookS ‹_› ‹_› keyI ‹_› ?_; refine qstep ?_; refine XQ.of rfl ?_
    refine x_shrN (s := 12) (by decide) (qstep ?_)
    with_reducible refine XQ.of rfl ?_; refine x_buildS (by apply fill_1; exact inferInstance; exact oneI; exact set_0; apply fill_1; exact inferInstance; exact oneI; apply set_S; apply set_S; exact set_0; rotate_left; rotate_left; exact fill_nil; rotate_left; rotate_left; rotate_left; rotate_left) ?_; refine qstep ?_
    refine x_callF (lay_c (k := 2) (p := 0) (hm3.ext (Ext.drw_self y3)) (by omega) (by omega) hfw.2.1 hfw.2.2 fun y4 F4 e4 q1 q2 hm4 => ?_)
    replace e4 : Fr F2 y3 y4 := (Fr.of_ext (Ext.drw_self y3)).trans e4
    with_reducible refine x_addN (by rw [IntKind.wrap_i64]; omega) ?_
    have s3 := e3.size
    have F4n : ∀ r, F4 r → F r ∨ w.heap.size ≤ r := fun r hr => by
      rcases q1 r hr with hq | hq
      · exact F2n r hq
      · exact .inr (by have : y3.heap.size ≤ r := hq; omega)
    have na2 : ¬ F2 a := fun hq => by
      rcases F2n a hq with hq | hq
      · exact haF hq
      · have := lt_of_blk haw; omega
    have ntm2 : ¬ F2 tm := fun hq => by
      rcases F2n tm hq with hq | hq
      · have := hF _ hq; omega
      · omega
    refine ⟨⟨j + 1, F4, take1 root base f t, by congr 1, by omega, ?_, F4n, fun r hr => q2 r (k2 r (i2 r hr)), ?_, fun _ => e4.get na2 (e3.get (by omega) ha2), ⟨es3, ck3, _, e4.get ntm2 htmy3, mt3, fun k => ?_⟩, by simp only [take1]; omega, heq⟩, by simp only; omega⟩
    · refine ((e1.trans' e2 fun r hr hlt => ?_).trans' e3 fun r hr hlt => .inr (.inr hr)).trans' e4 fun r hr hlt => ?_
      · rcases hr with hr | hr
        · rcases i1 r hr with hq | hq
          · exact .inl hq
          · omega
        · exact .inr (.inl ⟨hr, hne⟩)
      · rcases F2n r hr with hq | hq
        · exact .inl hq
        · omega
    · simp only [take1]
      rw [show (base + 4096 * t.2.1) / 4096 = (base + 4096 * t.2.1) / 2 ^ 12 from rfl]
      exact hm4
    · simp only [take1]
      by_cases hk : k = f
      · subst hk; rw [upd_same, if_pos rfl]; rfl
      · rw [upd_ne (by simp; omega), if_neg hk, hft]
  · have hjl : j = st.2.2.length := by omega
    rw [hjl, List.drop_length] at heq
    simp only [takeAll] at heq
    rw [heq] at hN
    exact hN y Fj e1 i1 i2 hmj haj ⟨es, ck, ft, htmy, mt, hft⟩
end Go.Eng
namespace Go.Eng
open Go.Proofs Go.MapKept
variable {w : World} {K : Value → World → Prop} {E : List PanicEntry → World → Prop}
def lay1 (tabs : Nat → Option Nat) (p : Nat × Nat × Nat) (M : Nat → Nat) : Nat → Nat := put M ((tabs (p.1 / 1024)).getD 0 + 4 * (p.1 % 1024)) (stb (encR 1 p.2.1 p.2.2).1)
def layAll (tabs : Nat → Option Nat) : List (Nat × Nat × Nat) → (Nat → Nat) → (Nat → Nat)
  | [], M => M
  | p :: l, M => layAll tabs l (lay1 tabs p M)
theorem RgAt.frame {w' : World} {v : Value} {l : List Rg} {S : Nat → Prop} (h : RgAt w v l) (hf : Fr S w w') (hs : ∀ g o n c, v = .slice (some ⟨g, o, none⟩) n c → ¬ S g) : RgAt w' v l := by
  obtain ⟨a, cap, rfl, h2, h3⟩ := h
  refine ⟨a, cap, rfl, h2, fun hl => ?_⟩
  obtain ⟨g, o, c, rfl, h5, h6⟩ := h3 hl
  exact ⟨g, o, c, rfl, hf.get (hs g o _ _ rfl) h5, h6⟩
theorem y11_c {b5 b7 b22 b23 tm m n : Nat} {p : Nat × Nat × Nat} {tabs : Nat → Option Nat} {M : Nat → Nat} {F : Nat → Prop} {N : World → Prop}
   (hm : Mem w m n M F) (hp : p.2.1 < 256) (hf : p.2.2 < 4294967296) (hp1 : p.1 < 4294967296) (htabs : ∀ k t, tabs k = some t → t % 4096 = 0 ∧ t + 4096 ≤ 4096 * n)
   (h5 : w.heap[b5]? = some (.cells #[ptr m] 41 (0, 0))) (h7 : w.heap[b7]? = some (.cells #[.map (some tm)] 116 (0, 0)))
   (h22 : w.heap[b22]? = some (.cells #[.int .u32 (p.1 / 1024 : Nat), .int .u32 (p.1 % 1024 : Nat)] 122 (0, 0))) (h23 : w.heap[b23]? = some (.cells #[.int .i64 1, .int .u8 p.2.1, .int .u32 p.2.2] 129 (0, 0)))
   (htm : ∃ es ck f, w.heap[tm]? = some (.map es ck) ∧ MapOf es ck (IsKey (.int .u32)) f ∧ ∀ k : Nat, f (.int .u32 k) = (tabs k).map fun t => .int .u32 (t : Nat))
   (hN : ∀ w' F', Fr F w w' → (∀ r, F' r → F r ∨ w.heap.size ≤ r) → (∀ r, F r → F' r) → Mem w' m n (lay1 tabs p M) F' → N w') :
   S22_y11 (ptr b5) (ptr b7) (ptr b22) (ptr b23) w N (fun _ _ => False) := by
  obtain ⟨es, ck, f, htm, mt, hft⟩ := htm
  have hn : 1 ≤ n ∧ n ≤ 4096 := by obtain ⟨mb, f, hm⟩ := hm; exact hm.hn
  have hfk := hft (p.1 / 1024)
  unfold S22_y11
  cases htk : tabs (p.1 / 1024) with
  | none =>
    rw [htk] at hfk
    simp only [Option.map_none] at hfk
    with_reducible refine x_load1 ‹_› at_0 ?_; refine x_load1 ‹_› at_0 ?_; refine x_field0 ?_; refine x_load1 ‹_› at_0 ?_; refine x_lookN ‹_› ‹_› keyI ‹_› ?_; refine x_field0 ?_; refine x_load1 ‹_› at_1 ?_; refine x_loadA ‹_› (sub_cons (sub_cons (sub_cons sub_nil))) ?_
    refine x_callF (lay_c (table := 0) (k := 1) hm hp hf (by omega) (by omega) fun w' F' e k1 k2 hm' => ?_)
    refine hN w' F' e k1 k2 ?_
    unfold lay1
    rw [htk]
    exact hm'
  | some t =>
    have := htabs _ _ htk
    rw [htk] at hfk
    simp only [Option.map_some] at hfk
    with_reducible refine x_load1 ‹_› at_0 ?_; refine x_load1 ‹_› at_0 ?_; refine x_field0 ?_; refine x_load1 ‹_› at_0 ?_; refine x_lookS ‹_› ‹_› keyI ‹_› ?_; refine x_field0 ?_; refine x_load1 ‹_› at_1 ?_; refine x_loadA ‹_› (sub_cons (sub_cons (sub_cons sub_nil))) ?_
    refine x_callF (lay_c (table := t) (k := 1) hm hp hf (by omega) (by omega) fun w' F' e k1 k2 hm' => ?_)
    refine hN w' F' e k1 k2 ?_
    unfold lay1
    rw [htk]
    exact hm'
theorem f11_c {b1 b5 b7 tm m n : Nat} {sl : Value} {l : List Rg} {tabs : Nat → Option Nat} {M : Nat → Nat} {F : Nat → Prop} {N R : Nat → World → Prop} {fz : Nat × Nat}
   (hm : Mem w m n M F) (htabs : ∀ k t, tabs k = some t → t % 4096 = 0 ∧ t + 4096 ≤ 4096 * n)
   (hl : RgAt w sl l) (hrk : ∀ r ∈ l, r.Ok) (hok : ∀ r ∈ l, mayBeR r = true) (hlen : l.length ≤ 1000000)
   (h1 : w.heap[b1]? = some (.cells #[sl] 57 fz)) (h5 : w.heap[b5]? = some (.cells #[ptr m] 41 (0, 0))) (h7 : w.heap[b7]? = some (.cells #[.map (some tm)] 116 (0, 0)))
   (htm : ∃ es ck f, w.heap[tm]? = some (.map es ck) ∧ MapOf es ck (IsKey (.int .u32)) f ∧ ∀ k : Nat, f (.int .u32 k) = (tabs k).map fun t => .int .u32 (t : Nat))
   (hF : ¬ F b5 ∧ ¬ F b7 ∧ ¬ F tm) (hg : ∀ g o n c, sl = .slice (some ⟨g, o, none⟩) n c → ¬ F g ∧ g < w.heap.size)
   (hN : ∀ y F', Fr F w y → (∀ r, F' r → F r ∨ w.heap.size + 2 ≤ r) → (∀ r, F r → F' r) → Mem y m n (layAll tabs (pgs l) M) F' → y.heap[w.heap.size]? = some (.deferred (some [])) → N w.heap.size y) :
   S22_f11 (ptr b5) (ptr b7) (.func (.func 78) (List.toArray []) (List.toArray [ptr b1])) w N R := by
  refine ⟨78, [ptr b1], rfl, c78, fun rc hrc hy => ?_⟩
  have hfin : ∀ r, F r → r < w.heap.size := by obtain ⟨mb, f, h⟩ := hm; exact h.fin
  generalize hw1 : (w.alloc (.deferred (some []))).alloc (rc .ready none) = w1
  have e1 : Ext w w1 := by rw [← hw1]; exact ((Fr.refl _ w).alloc _).alloc _
  have hD : w1.heap[w.heap.size]? = some (.deferred (some [])) := by rw [← hw1]; refine blk_alloc_old' ?_; exact blk_alloc_new
  have hL : w1.heap[w.heap.size + 1]? = some (rc .ready none) := by rw [← hw1]; exact blk_alloc_eq (by rw [size_alloc])
  have hsz1 : w1.heap.size = w.heap.size + 2 := by rw [← hw1]; simp only [size_alloc]
  clear hw1
  have l5 := lt_of_blk h5
  have l7 := lt_of_blk h7
  obtain ⟨es, ck, ft, htm, mt, hft⟩ := htm
  have ltm := lt_of_blk htm
  refine pages1_c (e1.get h1) (hl.keep (Keep60.ext e1)) hrk hok hlen
    (fun i G y => ∃ Mi Fi, G = (fun r => Fi r ∨ r = w.heap.size + 1) ∧ layAll tabs (pgs l) M = layAll tabs ((pgs l).drop i) Mi ∧ Mem y m n Mi Fi ∧ Fr F w y ∧ (∀ r, Fi r → F r ∨ w.heap.size + 2 ≤ r) ∧ (∀ r, F r → Fi r) ∧ y.heap[w.heap.size + 1]? = some (rc .ready none) ∧ y.heap[w.heap.size]? = some (.deferred (some [])) ∧ w.heap.size + 2 ≤ y.heap.size)
    (fun i G y y' hJ e => ?_) (fun i G y hJ r hr => ?_) (fun r => F r ∨ r = w.heap.size + 1) ?_ (fun g o n c hx hq => ?_) (fun i G y p K' hp hJ ht hf => ?_) fun y G hJ => ?_
  · obtain ⟨Mi, Fi, rfl, j1, jm, j0, i1, i2, jL, jD, jz⟩ := hJ
    exact ⟨Mi, Fi, rfl, j1, jm.ext e, j0.trans (Fr.of_ext e), i1, i2, e.get jL, e.get jD, Nat.le_trans jz e.size⟩
  · obtain ⟨Mi, Fi, rfl, j1, jm, j0, i1, i2, jL, jD, jz⟩ := hJ
    rcases hr with hr | hr
    · obtain ⟨mb, f, h⟩ := jm; exact h.fin r hr
    · omega
  · exact ⟨M, F, rfl, by rw [List.drop_zero], hm.ext e1, Fr.of_ext e1, fun r hr => .inl hr, fun r hr => hr, hL, hD, by omega⟩
  · have := hg g o n c hx
    rcases hq with hq | hq
    · exact this.1 hq
    · omega
  · obtain ⟨Mi, Fi, rfl, j1, jm, j0, i1, i2, jL, jD, jz⟩ := hJ
    refine hy (plV p.1) (entV 1 p.2.1 p.2.2) 4 y K' jL ?_
    have hil : i < (pgs l).length := (List.getElem?_eq_some_iff.1 hp).1
    have hdr : (pgs l).drop i = p :: (pgs l).drop (i + 1) := by
      rw [List.drop_eq_getElem_cons hil, (List.getElem?_eq_some_iff.1 hp).2]
    rw [hdr] at j1
    simp only [layAll] at j1
    have hpb : p.1 < 4294967296 ∧ p.2.1 < 256 ∧ p.2.2 < 4294967296 := by
      have : p ∈ pgs l := List.mem_of_getElem? hp
      simp only [pgs, List.mem_flatMap, rgPgs, List.mem_map, List.mem_range] at this
      obtain ⟨r, hr, k, hk, rfl⟩ := this
      have := mayBe_iff (hok r hr)
      have := (hrk r hr).v
      have := (hrk r hr).p
      have := (hrk r hr).perm
      simp only
      omega
    have nFi : ∀ r, r < w.heap.size + 2 → ¬ F r → ¬ Fi r := fun r h1 h2 h3 => by rcases i1 r h3 with hq | hq; exact h2 hq; omega
    unfold S22_a11
    with_reducible refine x_alloc ?_; refine x_storeA blk_alloc_new rfl (by simp [Value.oneCell']) (lay_cons (lay_cons lay_nil)) ?_; refine x_alloc ?_; refine x_storeA blk_alloc_new rfl (by simp [Value.oneCell']) (lay_cons (lay_cons (lay_cons lay_nil))) ?_
    generalize hy1 : setBlk (World.alloc (setBlk _ _ _) _) _ _ = y1
    have e01 : Ext y y1 := by rw [← hy1]; exact ((((Fr.refl _ y).alloc _).set (fun h => by omega) _).alloc _).set (fun h => by simp only [size_set, size_alloc] at h; omega) _
    have b22 : y1.heap[y.heap.size]? = some (.cells #[.int .u32 (p.1 / 1024 : Nat), .int .u32 (p.1 % 1024 : Nat)] 122 (0, 0)) := by rw [← hy1]; refine blk_set_ne' ?_ (by exact Nat.ne_of_lt (by refine lt_set ?_; exact lt_alloc_new)); refine blk_alloc_old' ?_; exact blk_set_same lt_alloc_new
    have b23 : y1.heap[y.heap.size + 1]? = some (.cells #[.int .i64 1, .int .u8 p.2.1, .int .u32 p.2.2] 129 (0, 0)) := by
      rw [← hy1]
      simp only [size_set, size_alloc]
      exact blk_set_same (by simp only [size_set, size_alloc]; omega)
    simp only [size_set, size_alloc] at hy1 ⊢
    clear hy1
    have jL1 := e01.get jL
    refine ⟨jL1, ?_⟩
    generalize hy2 : setBlk y1 _ _ = y2
    have e12 : Fr (fun r => r = w.heap.size + 1) y1 y2 := by rw [← hy2]; exact Fr.set1 (Fr.refl _ _)
    have jL2 : y2.heap[w.heap.size + 1]? = some (rc .busy none) := by rw [← hy2]; exact blk_set_same (lt_of_blk jL1)
    clear hy2
    have e02 : Fr (fun r => r = w.heap.size + 1) y y2 := (Fr.of_ext e01).trans e12
    have sz02 := e02.size
    refine y11_c (tabs := tabs) (jm.frame e02 fun r hr he => nFi r (by omega) (fun hq => by have := hfin r hq; omega) hr) hpb.2.1 hpb.2.2 hpb.1 htabs (e02.get (by omega) (j0.get hF.1 h5)) (e02.get (by omega) (j0.get hF.2.1 h7)) (e12.get (by omega) b22) (e12.get (by omega) b23) ⟨es, ck, ft, e02.get (by omega) (j0.get hF.2.2 htm), mt, hft⟩ fun y3 F3 e23 q1 q2 hm3 => ?_
    have nL : ¬ Fi (w.heap.size + 1) := nFi _ (by omega) (fun hq => by have := hfin _ hq; omega)
    have jL3 := e23.get nL jL2
    refine ⟨jL3, ?_⟩
    generalize hy4 : setBlk y3 _ _ = y4
    have e34 : Fr (fun r => r = w.heap.size + 1) y3 y4 := by rw [← hy4]; exact Fr.set1 (Fr.refl _ _)
    have jL4 : y4.heap[w.heap.size + 1]? = some (rc .ready none) := by rw [← hy4]; exact blk_set_same (lt_of_blk jL3)
    clear hy4
    have e04 : Fr (fun r => Fi r ∨ r = w.heap.size + 1) y y4 := ((e02.mono fun r _ hr => .inr hr).trans (e23.mono fun r _ hr => .inl hr)).trans (e34.mono fun r _ hr => .inr hr)
    have F3n : ∀ r, F3 r → F r ∨ w.heap.size + 2 ≤ r := fun r hr => by
      rcases q1 r hr with hq | hq
      · exact i1 r hq
      · exact .inr (by omega)
    refine ht y4 (fun r => F3 r ∨ r = w.heap.size + 1) e04 (fun r hr => ?_) ⟨_, F3, rfl, j1, hm3.frame e34 (fun r hr he => ?_), ?_, F3n, fun r hr => q2 r (i2 r hr), jL4, e04.get ?_ jD, Nat.le_trans jz e04.size⟩
    · rcases hr with hr | hr
      · rcases q1 r hr with hq | hq
        · exact .inl (.inl hq)
        · exact .inr (by omega)
      · exact .inl (.inr hr)
    · subst he
      rcases F3n _ hr with hq | hq
      · have := hfin _ hq; omega
      · omega
    · refine j0.trans' e04 fun r hr hlt => ?_
      rcases hr with hr | hr
      · rcases i1 r hr with hq | hq
        · exact hq
        · omega
      · omega
    · rintro (hq | hq)
      · exact nFi _ (by omega) (fun hq => by have := hfin _ hq; omega) hq
      · omega
  · obtain ⟨Mi, Fi, rfl, j1, jm, j0, i1, i2, jL, jD, jz⟩ := hJ
    rw [List.drop_length] at j1
    simp only [layAll] at j1
    refine .inl ⟨jL, ?_⟩
    generalize hy4 : setBlk y _ _ = y4
    have e4' : Fr (fun r => r = w.heap.size + 1) y y4 := by rw [← hy4]; exact Fr.set1 (Fr.refl _ _)
    clear hy4
    rw [j1] at hN
    refine hN y4 Fi (j0.trans' e4' fun r hr hlt => by omega) i1 i2 (jm.frame e4' fun r hr he => ?_) (e4'.get (by omega) jD)
    subst he
    rcases i1 _ hr with hq | hq
    · have := hfin _ hq; omega
    · omega
end Go.Eng
