/- Part 5 of the proof: So1 So2 So3 So4 So5 So6 So7 So8 So9 So10 So11 PT W1 W2 W3 W4 W5. -/
import Derived.Test.YtjocklgihjbaiaaV4
section
/- Sorting of items: the row in memory, the function that compares; insertionSortCmpFunc. -/
namespace Go.Proofs.Ytjocklgihjbaiaa
open Go.RowKit
/-- A row that is sorted in place. -/
structure Dat (w : World) (g cap N : Nat) (d : Array It) : Prop where
  sl : Sl w 27 2 itL (.slice (some ⟨g, 0, none⟩) N cap) d.toList
  size : d.size = N
section
variable {w w' : World} {g cap N : Nat} {d : Array It}
theorem Dat.fr (h : Dat w g cap N d) (hF : Fr w w') : Dat w' g cap N d := ⟨h.sl.fr hF, h.size⟩
theorem Dat.get (h : Dat w g cap N d) {i : Nat} (hi : i < N) : w.rangeAt g (i * 2) (itA d[i]!).toList := by
  have hs := h.size
  have hlt : i < d.toList.length := by rw [Array.length_toList]; omega
  obtain ⟨g', c', hv, _, hr⟩ := h.sl.at_ itL_len (List.getElem?_eq_getElem hlt)
  injection hv with e1 _ _
  injection e1 with e1
  injection e1 with e1 _ _
  subst e1
  have e : d.toList[i] = d[i]! := by simp [show i < d.size by omega]
  rw [e] at hr
  exact hr
theorem Dat.put (h : Dat w g cap N d) {i : Nat} (hi : i < N) (y : It) : ∃ cur, Blk w g 27 cur ∧ i * 2 + (Value.agg (itA y)).cells.size ≤ cur.size ∧
    ∀ w', Blk w' g 27 ⟨cur.toList.take (i * 2) ++ (Value.agg (itA y)).cells.toList ++ cur.toList.drop (i * 2 + (Value.agg (itA y)).cells.size)⟩ → Dat w' g cap N (d.setIfInBounds i y) := by
  have hs := h.size
  obtain ⟨g', c', cur, hv, hb, hf, hp⟩ := h.sl.put itL_len (i := i) (by rw [Array.length_toList]; omega) y
  injection hv with e1 _ _
  injection e1 with e1
  injection e1 with e1 _ _
  subst e1
  refine ⟨cur, hb, hf, fun w' hb' => ⟨?_, by simp [hs]⟩⟩
  have := hp w' hb'
  simpa using this
theorem Dat.lt (h : Dat w g cap N d) : g < w.heap.size := Row.lt (g := g) h.sl rfl
theorem Dat.len (h : Dat w g cap N d) : (N : Int) ≤ 9223372036854775807 := by
  have := h.sl.len_le
  have hs := h.size
  rw [Array.length_toList] at this
  omega
end
/-- A function that compares, as long as K holds: K stands whatever befalls block g. -/
structure CmpV (P : Program) (f : FuncId) (first cap : Array Value) (cf : It → It → Int) (g : Nat) (K : World → Prop) : Prop where
  en : Enters P f
  call : ∀ x y w RR, K w → (∀ w', Fr w w' → RR (.returned (.int .i64 (cf x y))) w') → Calls P f (first ++ #[itV x, itV y] ++ cap) w RR
  keep : ∀ w w', K w → Ch (fun k => k = g) w w' → K w'
def ltC (cf : It → It → Int) (x y : It) : Bool := decide (cf x y < 0)
section
variable {f : FuncId} {first fc : Array Value} {cf : It → It → Int} {g cap N : Nat} {K : World → Prop} (hC : CmpV Try.prog f first fc cf g K)
include hC
set_option maxRecDepth 10000 in
set_option maxHeartbeats 2000000 in
theorem insertionSort58 (a b : Nat) (d : Array It) (w : World) (RR : Ending → World → Prop) (hD : Dat w g cap N d) (hK : K w) (hb : b ≤ N) (ha : (a : Int) + 1 ≤ 9223372036854775807)
    (hR : ∀ w', Dat w' g cap N (Sort.insertionSort (ltC cf) d a b) → Ch (fun k => k = g) w w' → RR (.returned (.tuple #[])) w') :
    Calls Try.prog 58 #[.slice (some ⟨g, 0, none⟩) N cap, .int .i64 a, .int .i64 b, .func (.func f) first fc] w RR := by
  have hN := hD.len
  refine e_enter (n := ⟨53, []⟩) Try.mixed Try.func58 Try.p58 Try.x58 Try.fb58 Try.hx58 Try.ok58 rfl rfl (by simp) ?_; simp only [Try.x58, argEnv, Nat.zero_add, Nat.reduceAdd]
  (refine e_seq fun K1 hK1 => ?_; refine e_region ?_; refine A_move ?_; refine A_add ?_; refine A_assign ?_; refine a_next ?_; refine e_block ?_)
  refine e_loop Try.mixed Try.p58 Try.lp58ba Try.hx58bal Try.ok58bal (fun q : Nat × Array It => [(0, .slice (some ⟨g, 0, none⟩) N cap), (1, .int .i64 a), (2, .int .i64 b), (3, .func (.func f) first fc), (8, .int .i64 q.1)])
    (fun q W => a + 1 ≤ q.1 ∧ (q.1 ≤ b ∨ q.1 = a + 1) ∧ Dat W g cap N q.2 ∧ Ch (fun k => k = g) w W ∧ Sort.insOuter (ltC cf) a b q.1 q.2 = Sort.insertionSort (ltC cf) d a b) (fun q => b - q.1) (a + 1, d) (by exact sub_)
    ⟨Nat.le_refl _, .inr rfl, hD, Ch.refl _ _, rfl⟩ ?_
  rintro ⟨i, d1⟩ w2 ⟨hai, hib, hD2, hC2, heq⟩
  simp only at hai hib hD2 heq
  simp only [Try.x58bal]
  by_cases hlt : i < b
  · (refine e_seq fun K1 hK1 => ?_; refine e_seq fun K1 hK1 => ?_; refine e_region ?_; refine A_move ?_; refine A_move ?_; refine A_lss ?_; refine a_next ?_; refine a_true ?_; 
     refine a_nextC ?_; refine e_seq fun K1 hK1 => ?_; refine e_block ?_; refine e_seq fun K1 hK1 => ?_; refine e_region ?_; refine A_move ?_; refine A_assign ?_; 
     refine a_next ?_; refine e_block ?_)
    refine e_loop Try.mixed Try.p58 Try.lp58balbaaba Try.hx58balbaabal Try.ok58balbaabal (fun q : Nat × Array It => [(0, .slice (some ⟨g, 0, none⟩) N cap), (1, .int .i64 a), (2, .int .i64 b), (3, .func (.func f) first fc), (8, .int .i64 i), (9, .int .i64 q.1)])
      (fun q W => a ≤ q.1 ∧ q.1 ≤ i ∧ Dat W g cap N q.2 ∧ Ch (fun k => k = g) w W ∧ Sort.insInner (ltC cf) a q.1 q.2 = Sort.insInner (ltC cf) a i d1) (fun q => q.1) (i, d1) (by exact sub_)
      ⟨by show a ≤ i; omega, Nat.le_refl _, hD2, hC2, rfl⟩ ?_
    rintro ⟨j, d3⟩ w3 ⟨haj, hji, hD3, hC3, heq3⟩
    simp only at haj hji hD3 heq3
    have hK3 := hC.keep _ _ hK hC3
    simp only [Try.x58balbaabal]
    have out : Sort.insInner (ltC cf) a i d1 = d3 → ∀ W, Fr w3 W → ∃ q : Nat × Array It, b - q.1 < b - i ∧ (a + 1 ≤ q.1 ∧ (q.1 ≤ b ∨ q.1 = a + 1) ∧ Dat W g cap N q.2 ∧ Ch (fun k => k = g) w W ∧ Sort.insOuter (ltC cf) a b q.1 q.2 = Sort.insertionSort (ltC cf) d a b) ∧ q.1 = i + 1 := by
      intro he W hF
      refine ⟨(i + 1, d3), by show b - (i + 1) < b - i; omega, ⟨by show a + 1 ≤ i + 1; omega, .inl (by show i + 1 ≤ b; omega), hD3.fr hF, hC3.trans_fr hF, ?_⟩, rfl⟩
      rw [← heq]
      conv => rhs; rw [Sort.insOuter, if_pos hlt, he]
    by_cases hja : a < j
    · obtain ⟨k, rfl⟩ : ∃ k, j = k + 1 := ⟨j - 1, by omega⟩
      have hk : (((k + 1 : Nat) : Int) - 1).toNat = k := by omega
      have r1 := hD3.get (i := k + 1) (by omega)
      have r2 := hD3.get (i := (((k + 1 : Nat) : Int) - 1).toNat) (by omega)
      (refine e_seq fun K1 hK1 => ?_; refine e_seq fun K1 hK1 => ?_; refine a_drawn fun w1 hF1 => ?_; have hz1 := hF1.size; refine A_move ?_; refine A_move ?_; refine A_gtr ?_; 
         refine A_move ?_; refine A_want ?_; refine A_move ?_; refine A_want ?_; refine A_move ?_; refine A_want ?_; refine A_move ?_; refine A_want ?_; refine A_idxS ?_; 
         refine A_want ?_; refine A_move ?_; refine A_want ?_; refine A_move ?_; refine A_want ?_; refine A_sub ?_; refine A_want ?_; refine A_idxS ?_; refine A_want ?_; 
         refine A_loads ?_; refine A_want ?_; refine A_loads ?_; refine A_want ?_)
      refine E_callV rfl rfl hC.en rfl fun RR1 hRR1 => ?_
      refine hC.call d3[k + 1]! d3[(((k + 1 : Nat) : Int) - 1).toNat]! _ _ (hC.keep _ _ hK3 ((show Fr w3 _ by exact fr_).ch _)) fun w4 hF4 => ?_
      have hz4 := hF4.size
      refine hRR1 _ _ (by first | assumption | exact trivial) (Nat.le_of_ble_eq_true rfl) ?_; clear hRR1 RR1
      rw [hk]
      by_cases hc : cf d3[k + 1]! d3[k]! < 0
      · have hFX : Fr w3 w4 := by exact fr_
        (refine A_want ?_; refine A_lss ?_; refine A_pick_t ?_; refine a_next ?_; refine a_true ?_; refine a_nextC ?_; refine e_seq fun K1 hK1 => ?_; refine e_block ?_)
        ((with_reducible apply e_drawn); (focus (intro _ _ _ d1 _ h1; cases d1 <;> exact h1)); intro w1 hF1; have hz1 := hF1.size)
        (refine A_move ?_; refine A_move ?_; refine A_move ?_; refine A_move ?_; refine A_sub ?_; refine A_move ?_; refine A_move ?_; refine A_sub ?_; refine A_idxS ?_; 
           refine A_move ?_; refine A_move ?_; refine A_idxS ?_; refine A_loads ?_; refine A_loads ?_; refine A_idxS ?_)
        rw [hk]
        have hDw : Dat w1 g cap N d3 := hD3.fr (by exact fr_)
        have hFY : Fr w3 w1 := by exact fr_
        clear hF1
        obtain ⟨cA, hbA, hfA, hpA⟩ := hDw.put (i := k + 1) (by omega) d3[k]!
        refine E_store (o := (k + 1) * 2) rfl (fun _ _ _ => trivial) rfl rfl hbA (by simp only [Try.SI]; rfl) (by show (itA _).all _ = true; rw [← Array.all_toList]; rfl) hfA rfl ?_
        intro w5 hU5 hB5
        have hD5 := hpA _ hB5
        refine A_idxS ?_
        rw [hk]
        obtain ⟨cB, hbB, hfB, hpB⟩ := hD5.put (i := k) (by omega) d3[k + 1]!
        refine E_store (o := k * 2) rfl (fun _ _ _ => trivial) rfl rfl hbB (by simp only [Try.SI]; rfl) (by show (itA _).all _ = true; rw [← Array.all_toList]; rfl) hfB rfl ?_
        intro w6 hU6 hB6
        have hD6 := hpB _ hB6
        (refine e_norm_nil ?_; refine e_norm_block ?_; refine a_norm_then ?_; refine e_region ?_; refine A_move ?_; refine A_sub ?_; refine A_assign ?_; refine e_norm_nil ?_)
        refine e_againN (k, Sort.swp d3 (k + 1) k) (Nat.lt_succ_self k) ⟨by show a ≤ k; omega, by show k ≤ i; omega, hD6, ((hC3.trans_fr hFY).trans_upd hU5 (.inl rfl)).trans_upd hU6 (.inl rfl), ?_⟩ rfl ?_
        · show Sort.insInner (ltC cf) a k _ = _
          rw [← heq3]
          conv => rhs; rw [Sort.insInner, if_pos (by simp [ltC, hc]; omega)]
        · have e : (((k + 1 : Nat) : Int) - 1) = (k : Int) := by omega
          rw [e]
          exact sub_
      · have he : Sort.insInner (ltC cf) a i d1 = d3 := by
          rw [← heq3, Sort.insInner, if_neg]
          simp only [ltC, Bool.and_eq_true, decide_eq_true_eq, not_and]
          exact fun _ => hc
        (refine A_want ?_; refine A_lss ?_; refine A_pick_t ?_; refine a_next ?_; refine a_false ?_; refine e_exit_then ?_; refine e_exit_then ?_; refine e_exit_here ?_; 
           refine e_norm_block ?_; refine a_norm_then ?_; refine e_region ?_; refine A_move ?_; refine A_add ?_; refine A_assign ?_; refine e_norm_nil ?_)
        obtain ⟨q, hq1, hq2, hq3⟩ := out he w4 (by exact fr_)
        refine e_againN q hq1 hq2 rfl ?_
        rw [hq3]
        exact sub_
    · have he : Sort.insInner (ltC cf) a i d1 = d3 := by
        rw [← heq3]
        cases j with
        | zero => rfl
        | succ k => rw [Sort.insInner]; simp; intro h; omega
      (refine e_seq fun K1 hK1 => ?_; refine e_seq fun K1 hK1 => ?_; refine a_drawn fun w1 hF1 => ?_; have hz1 := hF1.size; refine A_move ?_; refine A_move ?_; refine A_gtr ?_; 
         refine A_move ?_; refine A_pass ?_; refine A_pass ?_; refine A_pass ?_; refine A_pass ?_; refine A_pass ?_; refine A_pass ?_; refine A_pass ?_; refine A_pass ?_; 
         refine A_pass ?_; refine A_pass ?_; refine A_pass ?_; refine A_pass ?_; refine A_pick_f ?_; refine a_next ?_; refine a_false ?_; refine e_exit_then ?_; 
         refine e_exit_then ?_; refine e_exit_here ?_; refine e_norm_block ?_; refine a_norm_then ?_; refine e_region ?_; refine A_move ?_; refine A_add ?_; refine A_assign ?_; 
         refine e_norm_nil ?_)
      obtain ⟨q, hq1, hq2, hq3⟩ := out he _ (by exact fr_)
      refine e_againN q hq1 hq2 rfl ?_
      rw [hq3]
      exact sub_
  · (refine e_seq fun K1 hK1 => ?_; refine e_seq fun K1 hK1 => ?_; refine e_region ?_; refine A_move ?_; refine A_move ?_; refine A_lss ?_; refine a_next ?_; 
     refine a_false ?_; refine e_exit_then ?_; refine e_exit_then ?_; refine e_exit_here ?_; refine a_end0 ?_)
    rw [Sort.insOuter, if_neg hlt] at heq
    exact hR _ (heq ▸ hD2) hC2
end
end Go.Proofs.Ytjocklgihjbaiaa
end
section
/- Sorting of items: siftDownCmpFunc. -/
namespace Go.Proofs.Ytjocklgihjbaiaa
open Go.RowKit
section
variable {f : FuncId} {first fc : Array Value} {cf : It → It → Int} {g cap N : Nat} {K : World → Prop} (hC : CmpV Try.prog f first fc cf g K)
include hC
set_option maxRecDepth 10000 in
set_option maxHeartbeats 2000000 in
theorem siftDown72 (lo hi fs : Nat) (d : Array It) (w : World) (RR : Ending → World → Prop) (hD : Dat w g cap N d) (hK : K w) (hb : fs + hi ≤ N) (hN2 : 2 * N + 2 < 9223372036854775807) (hlo : lo ≤ N)
    (hR : ∀ w', Dat w' g cap N (Sort.siftDown (ltC cf) hi fs lo d) → Ch (fun k => k = g) w w' → RR (.returned (.tuple #[])) w') :
    Calls Try.prog 72 #[.slice (some ⟨g, 0, none⟩) N cap, .int .i64 lo, .int .i64 hi, .int .i64 fs, .func (.func f) first fc] w RR := by
  refine e_enter (n := ⟨82, []⟩) Try.mixed Try.func72 Try.p72 Try.x72 Try.fb72 Try.hx72 Try.ok72 rfl rfl (by simp) ?_; simp only [Try.x72, argEnv, Nat.zero_add, Nat.reduceAdd]
  (refine e_seq fun K1 hK1 => ?_; refine e_region ?_; refine A_move ?_; refine A_assign ?_; refine a_next ?_; refine e_block ?_)
  refine e_loop Try.mixed Try.p72 Try.lp72ba Try.hx72bal Try.ok72bal (fun q : Nat × Array It => [(0, .slice (some ⟨g, 0, none⟩) N cap), (2, .int .i64 hi), (3, .int .i64 fs), (4, .func (.func f) first fc), (10, .int .i64 q.1)])
    (fun q W => q.1 ≤ N ∧ Dat W g cap N q.2 ∧ Ch (fun k => k = g) w W ∧ Sort.siftDown (ltC cf) hi fs q.1 q.2 = Sort.siftDown (ltC cf) hi fs lo d) (fun q => hi + N - q.1) (lo, d) (by exact sub_)
    ⟨hlo, hD, Ch.refl _ _, rfl⟩ ?_
  rintro ⟨root, d3⟩ w3 ⟨hrN, hD3, hC3, heq3⟩
  simp only at hrN hD3 heq3
  have hK3 := hC.keep _ _ hK hC3
  simp only [Try.x72bal]
  by_cases hch : hi ≤ 2 * root + 1
  · (refine e_block ?_; refine e_seq fun K1 hK1 => ?_; refine e_region ?_; refine A_move ?_; refine A_mulN2 ?_; refine A_addN1 ?_; refine A_assign ?_; refine a_next ?_; 
     refine e_seq fun K1 hK1 => ?_; refine e_seq fun K1 hK1 => ?_; refine e_region ?_; refine A_move ?_; refine A_move ?_; refine A_geq ?_; refine a_next ?_; refine a_true ?_; 
     refine e_exit_then ?_; refine a_exit_on ?_; refine e_exit_then ?_; refine e_exit_here ?_; refine a_end0 ?_)
    rw [Sort.siftDown, dif_pos hch] at heq3
    exact hR _ (heq3 ▸ hD3) hC3
  · (refine e_block ?_; refine e_seq fun K1 hK1 => ?_; refine e_region ?_; refine A_move ?_; refine A_mulN2 ?_; refine A_addN1 ?_; refine A_assign ?_; refine a_next ?_; 
     refine e_seq fun K1 hK1 => ?_; refine e_seq fun K1 hK1 => ?_; refine e_region ?_; refine A_move ?_; refine A_move ?_; refine A_geq ?_; refine a_next ?_; refine a_false ?_; 
     refine a_nextC ?_; refine e_seq fun K1 hK1 => ?_; refine e_seq fun K1 hK1 => ?_)
    ((with_reducible apply e_drawn); (focus (intro _ _ _ d1 _ h1; cases d1 <;> exact h1)); intro w1 hF1; have hz1 := hF1.size)
    rename_i KO hKO
    have rest : ∀ (c : Nat) (W : World), Fr w3 W → c < hi → root < c → Sort.siftDown (ltC cf) hi fs root d3 = (if !ltC cf d3[fs + root]! d3[fs + c]! then d3 else Sort.siftDown (ltC cf) hi fs c (Sort.swp d3 (fs + root) (fs + c))) →
        ∀ a, Agrees ⟨82, []⟩ a [(0, .slice (some ⟨g, 0, none⟩) N cap), (2, .int .i64 hi), (3, .int .i64 fs), (4, .func (.func f) first fc), (10, .int .i64 root), (11, .int .i64 c)] → KO a W := by
      intro c W hFW hcl hrc hsd
      have hzW := hFW.size
      have hDW := hD3.fr hFW
      have r1 := hDW.get (i := fs + root) (by omega)
      have r2 := hDW.get (i := fs + c) (by omega)
      have hKW := hC.keep _ _ hK3 (hFW.ch _)
      refine later_of hKO ?_
      clear hF1
      (refine e_seq fun K1 hK1 => ?_; refine e_seq fun K1 hK1 => ?_; refine a_drawn fun w1 hF1 => ?_; have hz1 := hF1.size; refine A_move ?_; refine A_move ?_; refine A_move ?_; 
         refine A_move ?_; refine A_addN ?_; refine A_idxS ?_; refine A_move ?_; refine A_move ?_; refine A_move ?_; refine A_addN ?_; refine A_idxS ?_; refine A_loads ?_; 
         refine A_loads ?_)
      refine E_callV rfl rfl hC.en rfl fun RR1 hRR1 => ?_
      refine hC.call d3[fs + root]! d3[fs + c]! _ _ (hC.keep _ _ hKW ((show Fr W _ by exact fr_).ch _)) fun w4 hF4 => ?_
      have hz4 := hF4.size
      refine hRR1 _ _ (by first | assumption | exact trivial) (Nat.le_of_ble_eq_true rfl) ?_; clear hRR1 RR1
      by_cases hc : cf d3[fs + root]! d3[fs + c]! < 0
      · have hlt : ltC cf d3[fs + root]! d3[fs + c]! = true := by simp [ltC, hc]
        rw [hlt] at hsd
        simp only [Bool.not_true, Bool.false_eq_true, if_false] at hsd
        (refine A_lss ?_; refine A_not ?_; refine a_next ?_; refine a_false ?_; refine a_nextC ?_; refine e_seq fun K1 hK1 => ?_)
        ((with_reducible apply e_drawn); (focus (intro _ _ _ d1 _ h1; cases d1 <;> exact h1)); intro w1 hF1; have hz1 := hF1.size)
        (refine A_move ?_; refine A_move ?_; refine A_move ?_; refine A_addN ?_; refine A_move ?_; refine A_move ?_; refine A_move ?_; refine A_addN ?_; refine A_move ?_; 
           refine A_move ?_; refine A_move ?_; refine A_addN ?_; refine A_idxS ?_; refine A_move ?_; refine A_move ?_; refine A_move ?_; refine A_addN ?_; refine A_idxS ?_; 
           refine A_loads ?_; refine A_loads ?_; refine A_idxS ?_)
        have hDw : Dat w1 g cap N d3 := hDW.fr (by exact fr_)
        have hFY : Fr W w1 := by exact fr_
        clear hF1
        obtain ⟨cA, hbA, hfA, hpA⟩ := hDw.put (i := fs + root) (by omega) d3[fs + c]!
        refine E_store (o := (fs + root) * 2) rfl (fun _ _ _ => trivial) rfl rfl hbA (by simp only [Try.SI]; rfl) (by show (itA _).all _ = true; rw [← Array.all_toList]; rfl) hfA rfl ?_
        intro w5 hU5 hB5
        have hD5 := hpA _ hB5
        refine A_idxS ?_
        obtain ⟨cB, hbB, hfB, hpB⟩ := hD5.put (i := fs + c) (by omega) d3[fs + root]!
        refine E_store (o := (fs + c) * 2) rfl (fun _ _ _ => trivial) rfl rfl hbB (by simp only [Try.SI]; rfl) (by show (itA _).all _ = true; rw [← Array.all_toList]; rfl) hfB rfl ?_
        intro w6 hU6 hB6
        have hD6 := hpB _ hB6
        (refine a_next ?_; refine e_region ?_; refine A_move ?_; refine A_assign ?_; refine e_norm_nil ?_; refine e_norm_block ?_)
        refine e_againN (c, Sort.swp d3 (fs + root) (fs + c)) (by show hi + N - c < hi + N - root; omega) ⟨by show c ≤ N; omega, hD6, (((hC3.trans_fr hFW).trans_fr hFY).trans_upd hU5 (.inl rfl)).trans_upd hU6 (.inl rfl), ?_⟩ rfl (by exact sub_)
        show Sort.siftDown (ltC cf) hi fs c _ = _
        rw [← heq3, hsd]
      · have hlt : ltC cf d3[fs + root]! d3[fs + c]! = false := by simp [ltC]; omega
        rw [hlt] at hsd
        simp only [Bool.not_false, if_true] at hsd
        (refine A_lss ?_; refine A_not ?_; refine a_next ?_; refine a_true ?_; refine e_ret_then ?_; refine e_ret_block ?_; refine e_ret_then ?_; refine e_ret_block ?_; 
           refine a_ret0 ?_)
        exact hR _ (by rw [← heq3, hsd]; exact hDW.fr (by exact fr_)) ((hC3.trans_fr hFW).trans_fr (by exact fr_))
    clear hKO
    have r1 := hD3.get (i := fs + (2 * root + 1)) (by omega)
    have one : ¬ (2 * root + 1 + 1 < hi ∧ ltC cf d3[fs + (2 * root + 1)]! d3[fs + (2 * root + 1) + 1]! = true) → Sort.siftDown (ltC cf) hi fs root d3 = (if !ltC cf d3[fs + root]! d3[fs + (2 * root + 1)]! then d3 else Sort.siftDown (ltC cf) hi fs (2 * root + 1) (Sort.swp d3 (fs + root) (fs + (2 * root + 1)))) := by
      intro hn
      conv => lhs; rw [Sort.siftDown, dif_neg hch]
      rw [if_neg (by simpa using hn)]
    by_cases h2 : 2 * root + 1 + 1 < hi
    · have r2 := hD3.get (i := fs + (2 * root + 1) + 1) (by omega)
      (refine A_move ?_; refine A_addN1 ?_; refine A_move ?_; refine A_lss ?_; refine A_move ?_; refine A_want ?_; refine A_move ?_; refine A_want ?_; refine A_move ?_; 
         refine A_want ?_; refine A_move ?_; refine A_want ?_; refine A_move ?_; refine A_want ?_; refine A_addN ?_; refine A_want ?_; refine A_idxS ?_; refine A_want ?_; 
         refine A_move ?_; refine A_want ?_; refine A_move ?_; refine A_want ?_; refine A_move ?_; refine A_want ?_; refine A_addN ?_; refine A_want ?_; refine A_addN1 ?_; 
         refine A_want ?_; refine A_idxS ?_; refine A_want ?_; refine A_loads ?_; refine A_want ?_; refine A_loads ?_; refine A_want ?_)
      refine E_callV rfl rfl hC.en rfl fun RR1 hRR1 => ?_
      refine hC.call d3[fs + (2 * root + 1)]! d3[fs + (2 * root + 1) + 1]! _ _ (hC.keep _ _ hK3 ((show Fr w3 _ by exact fr_).ch _)) fun w4 hF4 => ?_
      have hz4 := hF4.size
      refine hRR1 _ _ (by first | assumption | exact trivial) (Nat.le_of_ble_eq_true rfl) ?_; clear hRR1 RR1
      by_cases hc : cf d3[fs + (2 * root + 1)]! d3[fs + (2 * root + 1) + 1]! < 0
      · (refine A_want ?_; refine A_lss ?_; refine A_pick_t ?_; refine a_next ?_; refine a_true ?_; refine e_region ?_; refine A_move ?_; refine A_addN1 ?_; refine A_assign ?_; 
         refine e_norm_nil ?_)
        refine e_restN (rest (2 * root + 1 + 1) _ (by exact fr_) h2 (by omega) ?_) (by exact sub_)
        conv => lhs; rw [Sort.siftDown, dif_neg hch]
        rw [if_pos (by simp [ltC, hc, h2]), dif_pos h2]
      · (refine A_want ?_; refine A_lss ?_; refine A_pick_t ?_; refine a_next ?_; refine a_false ?_; refine e_norm_skip ?_)
        exact e_restN (rest (2 * root + 1) _ (by exact fr_) (by omega) (by omega) (one (by simp [ltC]; intro _; omega))) (by exact sub_)
    · (refine A_move ?_; refine A_addN1 ?_; refine A_move ?_; refine A_lss ?_; refine A_move ?_; refine A_pass ?_; refine A_pass ?_; refine A_pass ?_; refine A_pass ?_; 
       refine A_pass ?_; refine A_pass ?_; refine A_pass ?_; refine A_pass ?_; refine A_pass ?_; refine A_pass ?_; refine A_pass ?_; refine A_pass ?_; refine A_pass ?_; 
       refine A_pass ?_; refine A_pass ?_; refine A_pass ?_; refine A_pick_f ?_; refine a_next ?_; refine a_false ?_; refine e_norm_skip ?_)
      exact e_restN (rest (2 * root + 1) _ (by exact fr_) (by omega) (by omega) (one (by intro h; exact h2 h.1))) (by exact sub_)
end
end Go.Proofs.Ytjocklgihjbaiaa
end
section
/- Sorting of items: reverseRangeCmpFunc. -/
namespace Go.Proofs.Ytjocklgihjbaiaa
open Go.RowKit
section
variable {g cap N : Nat}
set_option maxRecDepth 10000 in
set_option maxHeartbeats 2000000 in
theorem reverseRange62 (cv : Value) (a b : Nat) (d : Array It) (w : World) (RR : Ending → World → Prop) (hD : Dat w g cap N d) (hb : b ≤ N) (h1 : 1 ≤ b)
    (hR : ∀ w', Dat w' g cap N (Sort.reverseRange d a b) → Ch (fun k => k = g) w w' → RR (.returned (.tuple #[])) w') :
    Calls Try.prog 62 #[.slice (some ⟨g, 0, none⟩) N cap, .int .i64 a, .int .i64 b, cv] w RR := by
  have hN := hD.len
  have hb1 : (b - 1) + 1 = b := by omega
  refine e_enter (n := ⟨34, []⟩) Try.mixed Try.func62 Try.p62 Try.x62 Try.fb62 Try.hx62 Try.ok62 rfl rfl (by simp) ?_; simp only [Try.x62, argEnv, Nat.zero_add, Nat.reduceAdd]
  (refine e_seq fun K1 hK1 => ?_; refine e_region ?_; refine A_move ?_; refine A_assign ?_; refine a_next ?_; refine e_seq fun K1 hK1 => ?_; refine e_region ?_; 
     refine A_move ?_; refine A_subN1 ?_; refine A_assign ?_; refine a_next ?_; refine e_block ?_)
  refine e_loop Try.mixed Try.p62 Try.lp62bba Try.hx62bbal Try.ok62bbal (fun q : Nat × Nat × Array It => [(0, .slice (some ⟨g, 0, none⟩) N cap), (8, .int .i64 q.1), (9, .int .i64 q.2.1)])
    (fun q W => q.2.1 < N ∧ Dat W g cap N q.2.2 ∧ Ch (fun k => k = g) w W ∧ Sort.reverseLoop q.1 q.2.1 q.2.2 = Sort.reverseRange d a b) (fun q => q.2.1 - q.1) (a, b - 1, d) (by exact sub_)
    ⟨by show b - 1 < N; omega, hD, Ch.refl _ _, rfl⟩ ?_
  rintro ⟨i, j, d3⟩ w3 ⟨hj, hD3, hC3, heq3⟩
  simp only at hj hD3 heq3
  simp only [Try.x62bbal]
  by_cases hij : i < j
  · obtain ⟨k, rfl⟩ : ∃ k, j = k + 1 := ⟨j - 1, by omega⟩
    have r1 := hD3.get (i := k + 1) hj
    have r2 := hD3.get (i := i) (by omega)
    (refine e_seq fun K1 hK1 => ?_; refine e_seq fun K1 hK1 => ?_; refine e_region ?_; refine A_move ?_; refine A_move ?_; refine A_lss ?_; refine a_next ?_; refine a_true ?_; 
       refine a_nextC ?_; refine e_block ?_; refine e_seq fun K1 hK1 => ?_; refine a_drawn fun w1 hF1 => ?_; have hz1 := hF1.size; refine A_move ?_; refine A_move ?_; 
       refine A_move ?_; refine A_move ?_; refine A_move ?_; refine A_move ?_; refine A_idxS ?_; refine A_move ?_; refine A_move ?_; refine A_idxS ?_; refine A_loads ?_; 
       refine A_loads ?_; refine A_idxS ?_)
    have hDw : Dat w1 g cap N d3 := hD3.fr (by exact fr_)
    have hFY : Fr w3 w1 := by exact fr_
    clear hF1
    obtain ⟨cA, hbA, hfA, hpA⟩ := hDw.put (i := i) (by omega) d3[k + 1]!
    refine E_store (o := i * 2) rfl (fun _ _ _ => trivial) rfl rfl hbA (by simp only [Try.SI]; rfl) (by show (itA _).all _ = true; rw [← Array.all_toList]; rfl) hfA rfl ?_
    intro w5 hU5 hB5
    have hD5 := hpA _ hB5
    refine A_idxS ?_
    obtain ⟨cB, hbB, hfB, hpB⟩ := hD5.put (i := k + 1) hj d3[i]!
    refine E_store (o := (k + 1) * 2) rfl (fun _ _ _ => trivial) rfl rfl hbB (by simp only [Try.SI]; rfl) (by show (itA _).all _ = true; rw [← Array.all_toList]; rfl) hfB rfl ?_
    intro w6 hU6 hB6
    have hD6 := hpB _ hB6
    have hk1 : k + 1 = k + 1 := rfl
    (refine a_next ?_; refine e_seq fun K1 hK1 => ?_; refine e_region ?_; refine A_move ?_; refine A_addN1 ?_; refine A_assign ?_; refine a_next ?_; refine e_region ?_; 
       refine A_move ?_; refine A_subN1 ?_; refine A_assign ?_; refine e_norm_nil ?_; refine e_norm_block ?_)
    refine e_againN (i + 1, k, Sort.swp d3 i (k + 1)) (by show k - (i + 1) < k + 1 - i; omega) ⟨by show k < N; omega, hD6, ((hC3.trans_fr hFY).trans_upd hU5 (.inl rfl)).trans_upd hU6 (.inl rfl), ?_⟩ rfl (by exact sub_)
    show Sort.reverseLoop (i + 1) k _ = _
    rw [← heq3]
    conv => rhs; rw [Sort.reverseLoop, if_pos hij]
    rfl
  · (refine e_seq fun K1 hK1 => ?_; refine e_seq fun K1 hK1 => ?_; refine e_region ?_; refine A_move ?_; refine A_move ?_; refine A_lss ?_; refine a_next ?_; 
     refine a_false ?_; refine e_exit_then ?_; refine e_exit_then ?_; refine e_exit_here ?_; refine a_end0 ?_)
    rw [Sort.reverseLoop, if_neg hij] at heq3
    exact hR _ (heq3 ▸ hD3) hC3
end
end Go.Proofs.Ytjocklgihjbaiaa
end
section
/- Sorting of items: heapSortCmpFunc. -/
namespace Go.Proofs.Ytjocklgihjbaiaa
open Go.RowKit
section
variable {f : FuncId} {first fc : Array Value} {cf : It → It → Int} {g cap N : Nat} {K : World → Prop} (hC : CmpV Try.prog f first fc cf g K)
include hC
set_option maxRecDepth 10000 in
set_option maxHeartbeats 2000000 in
theorem heapSort59 (a b : Nat) (d : Array It) (w : World) (RR : Ending → World → Prop) (hD : Dat w g cap N d) (hK : K w) (hb : b ≤ N) (h1 : a + 1 ≤ b) (hN2 : 2 * N + 2 < 9223372036854775807)
    (hR : ∀ w', Dat w' g cap N (Sort.heapSort (ltC cf) d a b) → Ch (fun k => k = g) w w' → RR (.returned (.tuple #[])) w') :
    Calls Try.prog 59 #[.slice (some ⟨g, 0, none⟩) N cap, .int .i64 a, .int .i64 b, .func (.func f) first fc] w RR := by
  obtain ⟨hi, hhi⟩ : ∃ hi, b - a = hi := ⟨_, rfl⟩
  obtain ⟨h0, hh0⟩ : ∃ h0, h0 + 1 = hi := ⟨hi - 1, by omega⟩
  have hdef : Sort.heapSort (ltC cf) d a b = Sort.heapPop (ltC cf) a hi (Sort.heapBuild (ltC cf) hi a (h0 / 2 + 1) d) := by
    unfold Sort.heapSort; rw [hhi, show hi - 1 = h0 by omega]
  rw [hdef] at hR
  refine e_enter (n := ⟨60, []⟩) Try.mixed Try.func59 Try.p59 Try.x59 Try.fb59 Try.hx59 Try.ok59 rfl rfl (by simp) ?_; simp only [Try.x59, argEnv, Nat.zero_add, Nat.reduceAdd]
  (refine e_seq fun K1 hK1 => ?_; refine e_region ?_; refine A_move ?_; refine A_assign ?_; refine a_next ?_; refine e_seq fun K1 hK1 => ?_; refine e_region ?_; 
     refine A_assign ?_; refine a_next ?_; refine e_seq fun K1 hK1 => ?_; refine e_region ?_; refine A_move ?_; refine A_move ?_; refine A_subN ?_; refine A_assign ?_; 
     refine a_next ?_; refine e_seq fun K1 hK1 => ?_; refine e_seq fun K1 hK1 => ?_; refine e_region ?_; refine A_move ?_; refine A_subN1 ?_)
  refine E_quoN (m := 2) rfl (by omega) (by omega) (Nat.le_of_ble_eq_true rfl) ?_
  (refine A_assign ?_; refine a_next ?_; refine e_block ?_)
  refine e_loop Try.mixed Try.p59 Try.lp59bbbaba Try.hx59bbbabal Try.ok59bbbabal (fun q : Nat × Array It => [(0, .slice (some ⟨g, 0, none⟩) N cap), (3, .func (.func f) first fc), (8, .int .i64 a), (9, .int .i64 0), (10, .int .i64 hi), (11, .int .i64 ((q.1 : Int) - 1))])
    (fun q W => q.1 ≤ h0 / 2 + 1 ∧ Dat W g cap N q.2 ∧ Ch (fun k => k = g) w W ∧ Sort.heapBuild (ltC cf) hi a q.1 q.2 = Sort.heapBuild (ltC cf) hi a (h0 / 2 + 1) d) (fun q => q.1) (h0 / 2 + 1, d) ?_
    ⟨Nat.le_refl _, hD, Ch.refl _ _, rfl⟩ ?_
  · rw [show (((h0 / 2 + 1 : Nat) : Int) - 1) = ((h0 / 2 : Nat) : Int) by omega]
    exact sub_
  rintro ⟨k, d3⟩ w3 ⟨hk, hD3, hC3, heq3⟩
  simp only at hk hD3 heq3
  simp only [Try.x59bbbabal]
  cases k with
  | succ k =>
    rw [show (((k + 1 : Nat) : Int) - 1) = (k : Int) by omega]
    (refine e_seq fun K1 hK1 => ?_; refine e_seq fun K1 hK1 => ?_; refine e_region ?_; refine A_move ?_; refine A_geq ?_; refine a_next ?_; refine a_true ?_; 
       refine a_nextC ?_; refine e_seq fun K1 hK1 => ?_; refine e_block ?_; refine e_region ?_; refine A_move ?_; refine A_move ?_; refine A_move ?_; refine A_move ?_; 
       refine A_move ?_)
    (with_reducible apply E_call); rfl; exact Try.en72; rfl; intro RR1 hRR1
    refine siftDown72 hC k hi a d3 _ _ hD3 (hC.keep _ _ hK hC3) (by omega) hN2 (by omega) fun w4 hD4 hC4 => ?_
    refine hRR1 _ _ (by first | assumption | exact trivial) (Nat.le_of_ble_eq_true rfl) ?_; clear hRR1 RR1
    (refine e_norm_nil ?_; refine e_norm_block ?_; refine a_norm_then ?_; refine e_region ?_; refine A_move ?_; refine A_sub ?_; refine A_assign ?_; refine e_norm_nil ?_)
    exact e_againN (k, Sort.siftDown (ltC cf) hi a k d3) (Nat.lt_succ_self k) ⟨by show k ≤ h0 / 2 + 1; omega, hD4, hC3.trans_ch hC4 (fun _ h => .inl h), heq3⟩ rfl (by exact sub_)
  | zero =>
    have heq4 : d3 = Sort.heapBuild (ltC cf) hi a (h0 / 2 + 1) d := heq3
    rw [← heq4] at hR
    (refine e_seq fun K1 hK1 => ?_; refine e_seq fun K1 hK1 => ?_; refine e_region ?_; refine A_move ?_; refine A_geq ?_; refine a_next ?_; refine a_false ?_; 
       refine e_exit_then ?_; refine e_exit_then ?_; refine e_exit_here ?_; refine a_norm_then ?_; refine e_seq fun K1 hK1 => ?_; refine e_region ?_; refine A_move ?_; 
       refine A_subN1 ?_; refine A_assign ?_; refine a_next ?_; refine e_block ?_)
    refine e_loop Try.mixed Try.p59 Try.lp59bbbbba Try.hx59bbbbbal Try.ok59bbbbbal (fun q : Nat × Array It => [(0, .slice (some ⟨g, 0, none⟩) N cap), (3, .func (.func f) first fc), (8, .int .i64 a), (9, .int .i64 0), (12, .int .i64 ((q.1 : Int) - 1))])
      (fun q W => q.1 ≤ hi ∧ Dat W g cap N q.2 ∧ Ch (fun k => k = g) w W ∧ Sort.heapPop (ltC cf) a q.1 q.2 = Sort.heapPop (ltC cf) a hi d3) (fun q => q.1) (hi, d3) ?_
      ⟨Nat.le_refl _, hD3, hC3, rfl⟩ ?_
    · rw [show ((hi : Int) - 1) = (h0 : Int) by omega]
      exact sub_
    rintro ⟨k, d5⟩ w5 ⟨hk5, hD5, hC5, heq5⟩
    simp only at hk5 hD5 heq5
    simp only [Try.x59bbbbbal]
    cases k with
    | succ k =>
      rw [show (((k + 1 : Nat) : Int) - 1) = (k : Int) by omega]
      have r1 := hD5.get (i := a + k) (by omega)
      have r2 := hD5.get (i := a) (by omega)
      (refine e_seq fun K1 hK1 => ?_; refine e_seq fun K1 hK1 => ?_; refine e_region ?_; refine A_move ?_; refine A_geq ?_; refine a_next ?_; refine a_true ?_; 
         refine a_nextC ?_; refine e_seq fun K1 hK1 => ?_; refine e_block ?_; refine e_seq fun K1 hK1 => ?_; refine a_drawn fun w1 hF1 => ?_; have hz1 := hF1.size; 
         refine A_move ?_; refine A_move ?_; refine A_move ?_; refine A_move ?_; refine A_move ?_; refine A_addN ?_; refine A_move ?_; refine A_move ?_; refine A_move ?_; 
         refine A_addN ?_; refine A_idxS ?_; refine A_move ?_; refine A_move ?_; refine A_idxS ?_; refine A_loads ?_; refine A_loads ?_; refine A_idxS ?_)
      have hDw : Dat w1 g cap N d5 := hD5.fr (by exact fr_)
      have hFY : Fr w5 w1 := by exact fr_
      clear hF1
      obtain ⟨cA, hbA, hfA, hpA⟩ := hDw.put (i := a) (by omega) d5[a + k]!
      refine E_store (o := a * 2) rfl (fun _ _ _ => trivial) rfl rfl hbA (by simp only [Try.SI]; rfl) (by show (itA _).all _ = true; rw [← Array.all_toList]; rfl) hfA rfl ?_
      intro w7 hU7 hB7
      have hD7 := hpA _ hB7
      refine A_idxS ?_
      obtain ⟨cB, hbB, hfB, hpB⟩ := hD7.put (i := a + k) (by omega) d5[a]!
      refine E_store (o := (a + k) * 2) rfl (fun _ _ _ => trivial) rfl rfl hbB (by simp only [Try.SI]; rfl) (by show (itA _).all _ = true; rw [← Array.all_toList]; rfl) hfB rfl ?_
      intro w8 hU8 hB8
      have hD8 := hpB _ hB8
      have hC8 := ((hC5.trans_fr hFY).trans_upd hU7 (.inl rfl)).trans_upd hU8 (.inl rfl)
      (refine a_next ?_; refine e_region ?_; refine A_move ?_; refine A_move ?_; refine A_move ?_; refine A_move ?_; refine A_move ?_)
      (with_reducible apply E_call); rfl; exact Try.en72; rfl; intro RR1 hRR1
      refine siftDown72 hC 0 k a (Sort.swp d5 a (a + k)) _ _ hD8 (hC.keep _ _ hK hC8) (by omega) hN2 (by omega) fun w9 hD9 hC9 => ?_
      refine hRR1 _ _ (by first | assumption | exact trivial) (Nat.le_of_ble_eq_true rfl) ?_; clear hRR1 RR1
      (refine e_norm_nil ?_; refine e_norm_block ?_; refine a_norm_then ?_; refine e_region ?_; refine A_move ?_; refine A_sub ?_; refine A_assign ?_; refine e_norm_nil ?_)
      exact e_againN (k, Sort.siftDown (ltC cf) k a 0 (Sort.swp d5 a (a + k))) (Nat.lt_succ_self k) ⟨by show k ≤ hi; omega, hD9, hC8.trans_ch hC9 (fun _ h => .inl h), heq5⟩ rfl (by exact sub_)
    | zero =>
      have heq6 : d5 = Sort.heapPop (ltC cf) a hi d3 := heq5
      (refine e_seq fun K1 hK1 => ?_; refine e_seq fun K1 hK1 => ?_; refine e_region ?_; refine A_move ?_; refine A_geq ?_; refine a_next ?_; refine a_false ?_; 
         refine e_exit_then ?_; refine e_exit_then ?_; refine e_exit_here ?_; refine a_end0 ?_)
      exact hR _ (heq6 ▸ hD5) hC5
end
end Go.Proofs.Ytjocklgihjbaiaa
end
section
/- Sorting of items: order2, median, medianAdjacent. -/
namespace Go.Proofs.Ytjocklgihjbaiaa
open Go.RowKit
theorem order2_lt {lt : It → It → Bool} {d : Array It} {a b s N : Nat} (ha : a < N) (hb : b < N) : (Sort.order2 lt d a b s).1 < N ∧ (Sort.order2 lt d a b s).2.1 < N ∧ (Sort.order2 lt d a b s).2.2 ≤ s + 1 := by
  unfold Sort.order2
  split <;> simp [ha, hb]
section
variable {f : FuncId} {first fc : Array Value} {cf : It → It → Int} {g cap N : Nat} {K : World → Prop} (hC : CmpV Try.prog f first fc cf g K)
include hC
set_option maxRecDepth 10000 in
set_option maxHeartbeats 2000000 in
theorem order2_79 (a b s bs : Nat) (d : Array It) (w : World) (RR : Ending → World → Prop) (hD : Dat w g cap N d) (hK : K w) (ha : a < N) (hb : b < N) (hs : Blk w bs 3 #[.int .i64 (s : Int)]) (hs2 : s < 1000)
    (hR : ∀ w' r, r = Sort.order2 (ltC cf) d a b s → Dat w' g cap N d → Ch (fun k => k = bs) w w' → Blk w' bs 3 #[.int .i64 (r.2.2 : Int)] → RR (.returned (.tuple #[.int .i64 (r.1 : Int), .int .i64 (r.2.1 : Int)])) w') :
    Calls Try.prog 79 #[.slice (some ⟨g, 0, none⟩) N cap, .int .i64 a, .int .i64 b, .pointer (some ⟨bs, 0, none⟩), .func (.func f) first fc] w RR := by
  have r1 := hD.get ha
  have r2 := hD.get hb
  have hcs : w.cell? ⟨bs, 0, none⟩ = some (.int .i64 (s : Int)) := hs.cell rfl
  refine e_enter (n := ⟨32, []⟩) Try.mixed Try.func79 Try.p79 Try.x79 Try.fb79 Try.hx79 Try.ok79 rfl rfl (by simp) ?_; simp only [Try.x79, argEnv, Nat.zero_add, Nat.reduceAdd]
  (refine e_seq fun K1 hK1 => ?_; refine e_region ?_; refine A_assign ?_; refine A_assign ?_; refine a_next ?_; refine e_seq fun K1 hK1 => ?_; refine e_seq fun K1 hK1 => ?_; 
     refine a_drawn fun w1 hF1 => ?_; have hz1 := hF1.size; refine A_move ?_; refine A_move ?_; refine A_move ?_; refine A_idxS ?_; refine A_move ?_; refine A_move ?_; 
     refine A_idxS ?_; refine A_loads ?_; refine A_loads ?_)
  refine E_callV rfl rfl hC.en rfl fun RR1 hRR1 => ?_
  refine hC.call d[b]! d[a]! _ _ (hC.keep _ _ hK ((show Fr w _ by exact fr_).ch _)) fun w4 hF4 => ?_
  have hz4 := hF4.size
  refine hRR1 _ _ (by first | assumption | exact trivial) (Nat.le_of_ble_eq_true rfl) ?_; clear hRR1 RR1
  by_cases hc : cf d[b]! d[a]! < 0
  · (refine A_lss ?_; refine a_next ?_; refine a_true ?_; refine e_seq fun K1 hK1 => ?_; refine e_region ?_; refine A_move ?_; refine A_nil ?_; refine A_load ?_; 
     refine A_addN1 ?_; refine A_nil ?_)
    have hFX : Fr w w4 := by exact fr_
    have hs4 := hs.fr hFX
    refine E_store1 (o := 0) rfl (fun _ _ _ => trivial) rfl rfl hs4 (by simp only [Try.SI]) rfl (by simp) ?_
    intro w5 hU5 hB5
    (refine a_next ?_; refine e_seq fun K1 hK1 => ?_; refine e_region ?_; refine A_move ?_; refine A_move ?_; refine A_assign ?_; refine A_assign ?_; refine a_next ?_; 
       refine e_ret_then ?_; refine a_ret2 ?_)
    refine hR w5 (b, a, s + 1) (by simp [Sort.order2, ltC, hc]) ⟨(hD.fr hFX).sl.ch hU5.ch (fun g' hg' e => Row.ne_ty (hD.fr hFX).sl hs4 (by decide) (e ▸ hg')), hD.size⟩ ((hFX.ch _).trans_upd hU5 (.inl rfl)) ?_
    simpa using hB5
  · (refine A_lss ?_; refine a_next ?_; refine a_false ?_; refine a_nextC ?_; refine e_seq fun K1 hK1 => ?_; refine e_region ?_; refine A_move ?_; refine A_move ?_; 
     refine A_assign ?_; refine A_assign ?_; refine a_next ?_; refine a_ret2 ?_)
    exact hR w4 (a, b, s) (by simp [Sort.order2, ltC, hc]) (hD.fr (by exact fr_)) ((show Fr w w4 by exact fr_).ch _) (hs.fr (by exact fr_))
set_option maxRecDepth 10000 in
set_option maxHeartbeats 2000000 in
theorem median76 (a b c s bs : Nat) (d : Array It) (w : World) (RR : Ending → World → Prop) (hD : Dat w g cap N d) (hK : ∀ W, Ch (fun k => k = bs) w W → K W) (ha : a < N) (hb : b < N) (hcN : c < N) (hs : Blk w bs 3 #[.int .i64 (s : Int)]) (hs2 : s < 900)
    (hR : ∀ w' r, r = Sort.median (ltC cf) d a b c s → Dat w' g cap N d → Ch (fun k => k = bs) w w' → Blk w' bs 3 #[.int .i64 (r.2 : Int)] → RR (.returned (.int .i64 (r.1 : Int))) w') :
    Calls Try.prog 76 #[.slice (some ⟨g, 0, none⟩) N cap, .int .i64 a, .int .i64 b, .int .i64 c, .pointer (some ⟨bs, 0, none⟩), .func (.func f) first fc] w RR := by
  have l1 := order2_lt (lt := ltC cf) (d := d) (s := s) ha hb
  refine e_enter (n := ⟨41, []⟩) Try.mixed Try.func76 Try.p76 Try.x76 Try.fb76 Try.hx76 Try.ok76 rfl rfl (by simp) ?_; simp only [Try.x76, argEnv, Nat.zero_add, Nat.reduceAdd]
  (refine e_seq fun K1 hK1 => ?_; refine e_region ?_; refine A_assign ?_; refine a_next ?_; refine e_seq fun K1 hK1 => ?_; refine e_region ?_; refine A_move ?_; 
     refine A_move ?_; refine A_move ?_; refine A_move ?_; refine A_move ?_)
  (with_reducible apply E_call); rfl; exact Try.en79; rfl; intro RR1 hRR1
  refine order2_79 hC a b s bs d _ _ hD (hK _ (Ch.refl _ _)) ha hb hs (by omega) fun w2 r1 hr1 hD2 hC2 hB2 => ?_
  refine hRR1 _ _ (by first | assumption | exact trivial) (Nat.le_of_ble_eq_true rfl) ?_; clear hRR1 RR1
  rw [← hr1] at l1
  have l2 := order2_lt (lt := ltC cf) (d := d) (s := r1.2.2) l1.2.1 hcN
  (refine A_move ?_; refine A_extract ?_; refine A_extract ?_; refine A_assign ?_; refine A_assign ?_; refine a_next ?_; refine e_seq fun K1 hK1 => ?_; refine e_region ?_; 
     refine A_move ?_; refine A_move ?_; refine A_move ?_; refine A_move ?_; refine A_move ?_)
  (with_reducible apply E_call); rfl; exact Try.en79; rfl; intro RR1 hRR1
  refine order2_79 hC r1.2.1 c r1.2.2 bs d _ _ hD2 (hK _ hC2) l1.2.1 hcN hB2 (by omega) fun w3 r2 hr2 hD3 hC3 hB3 => ?_
  refine hRR1 _ _ (by first | assumption | exact trivial) (Nat.le_of_ble_eq_true rfl) ?_; clear hRR1 RR1
  rw [← hr2] at l2
  (refine A_move ?_; refine A_extract ?_; refine A_extract ?_; refine A_assign ?_; refine A_assign ?_; refine a_next ?_; refine e_seq fun K1 hK1 => ?_; refine e_region ?_; 
     refine A_move ?_; refine A_move ?_; refine A_move ?_; refine A_move ?_; refine A_move ?_)
  (with_reducible apply E_call); rfl; exact Try.en79; rfl; intro RR1 hRR1
  refine order2_79 hC r1.1 r2.1 r2.2.2 bs d _ _ hD3 (hK _ (hC2.trans hC3)) l1.1 l2.1 hB3 (by omega) fun w4 r3 hr3 hD4 hC4 hB4 => ?_
  refine hRR1 _ _ (by first | assumption | exact trivial) (Nat.le_of_ble_eq_true rfl) ?_; clear hRR1 RR1
  (refine A_move ?_; refine A_extract ?_; refine A_extract ?_; refine A_assign ?_; refine A_assign ?_; refine a_next ?_; refine e_seq fun K1 hK1 => ?_; refine e_region ?_; 
     refine A_move ?_; refine A_assign ?_; refine a_next ?_; refine a_ret1 ?_)
  exact hR w4 (r3.2.1, r3.2.2) (by unfold Sort.median; simp only [← hr1, ← hr2, ← hr3]) hD4 ((hC2.trans hC3).trans hC4) hB4
end
end Go.Proofs.Ytjocklgihjbaiaa
end
section
/- Sorting of items: medianAdjacent, choosePivot. -/
namespace Go.Proofs.Ytjocklgihjbaiaa
open Go.RowKit
section
variable {P : Program} {n : Fm} {R : Rel} {Q : Exit → Act → World → Prop} {e : Env} {w : World} {k : Kind} {d : Tmp} {ty : TypeId} {s : XPlan}
theorem E_mulNC {x : Operand} {t u : TypeId} {i m : Nat} (hx : e.ev x = some (.int .i64 (i : Int))) (h1 : i * m < 9223372036854775808) (hd : d < n.n) (h : wpE P n Q R s ((d, .int .i64 ((i * m : Nat) : Int)) :: e) w) :
    wpE P n Q R (.step k ⟨some d, .binOp .mul t x (.const (.int .i64 (m : Int))) u, ty⟩ none s) e w := fun _ ha =>
  rd_mul (ha.ev hx) (y := .const (.int .i64 (m : Int))) rfl (by rw [← Int.natCast_mul]; omega) (by rw [← Int.natCast_mul]; omega) (by rw [← Int.natCast_mul]; exact h _ (ha.put hd))
end
def hintI : Sort.Hint → Int
  | .unknown => 0
  | .increasing => 1
  | .decreasing => 2
theorem median_lt {lt : It → It → Bool} {d : Array It} {a b c s N : Nat} (ha : a < N) (hb : b < N) (hc : c < N) : (Sort.median lt d a b c s).1 < N ∧ (Sort.median lt d a b c s).2 ≤ s + 3 := by
  unfold Sort.median
  have l1 := order2_lt (lt := lt) (d := d) (s := s) ha hb
  have l2 := order2_lt (lt := lt) (d := d) (s := (Sort.order2 lt d a b s).2.2) l1.2.1 hc
  have l3 := order2_lt (lt := lt) (d := d) (s := (Sort.order2 lt d (Sort.order2 lt d a b s).2.1 c (Sort.order2 lt d a b s).2.2).2.2) l1.1 l2.1
  have a1 := l1.2.2
  have a2 := l2.2.2
  exact ⟨l3.2.1, Nat.le_trans l3.2.2 (by omega)⟩
section
variable {f : FuncId} {first fc : Array Value} {cf : It → It → Int} {g cap N : Nat} {K : World → Prop} (hC : CmpV Try.prog f first fc cf g K)
include hC
set_option maxRecDepth 10000 in
theorem medianAdjacent75 (a s bs : Nat) (d : Array It) (w : World) (RR : Ending → World → Prop) (hD : Dat w g cap N d) (hK : ∀ W, Ch (fun k => k = bs) w W → K W) (ha0 : 1 ≤ a) (ha : a + 1 < N) (hs : Blk w bs 3 #[.int .i64 (s : Int)]) (hs2 : s < 900)
    (hR : ∀ w' r, r = Sort.medianAdjacent (ltC cf) d a s → Dat w' g cap N d → Ch (fun k => k = bs) w w' → Blk w' bs 3 #[.int .i64 (r.2 : Int)] → RR (.returned (.int .i64 (r.1 : Int))) w') :
    Calls Try.prog 75 #[.slice (some ⟨g, 0, none⟩) N cap, .int .i64 a, .pointer (some ⟨bs, 0, none⟩), .func (.func f) first fc] w RR := by
  have hN := hD.len
  have h1 : (a - 1) + 1 = a := by omega
  refine e_enter (n := ⟨18, []⟩) Try.mixed Try.func75 Try.p75 Try.x75 Try.fb75 Try.hx75 Try.ok75 rfl rfl (by simp) ?_; simp only [Try.x75, argEnv, Nat.zero_add, Nat.reduceAdd]
  (refine e_seq fun K1 hK1 => ?_; refine e_region ?_; refine A_assign ?_; refine a_next ?_; refine e_seq fun K1 hK1 => ?_; refine e_region ?_; refine A_move ?_; 
     refine A_move ?_; refine A_subN1 ?_; refine A_move ?_; refine A_move ?_; refine A_addN1 ?_; refine A_move ?_; refine A_move ?_)
  (with_reducible apply E_call); rfl; exact Try.en76; rfl; intro RR1 hRR1
  refine median76 hC (a - 1) a (a + 1) s bs d _ _ hD hK (by omega) (by omega) ha hs hs2 fun w2 r hr hD2 hC2 hB2 => ?_
  refine hRR1 _ _ (by first | assumption | exact trivial) (Nat.le_of_ble_eq_true rfl) ?_; clear hRR1 RR1
  (refine A_assign ?_; refine a_next ?_; refine a_ret1 ?_)
  exact hR w2 r hr hD2 hC2 hB2
set_option maxRecDepth 10000 in
set_option maxHeartbeats 2000000 in
theorem choosePivot61 (a b : Nat) (d : Array It) (w : World) (RR : Ending → World → Prop) (hD : Dat w g cap N d) (hK : K w) (hab : a ≤ b) (hb : b ≤ N) (hN2 : 4 * N + 8 < 9223372036854775807)
    (hR : ∀ w' r, r = Sort.choosePivot (ltC cf) d a b → Dat w' g cap N d → Fr w w' → RR (.returned (.tuple #[.int .i64 (r.1 : Int), .int .i64 (hintI r.2)])) w') :
    Calls Try.prog 61 #[.slice (some ⟨g, 0, none⟩) N cap, .int .i64 a, .int .i64 b, .func (.func f) first fc] w RR := by
  obtain ⟨l, hl⟩ : ∃ l, b - a = l := ⟨_, rfl⟩
  refine e_enter (n := ⟨63, []⟩) Try.mixed Try.func61 Try.p61 Try.x61 Try.fb61 Try.hx61 Try.ok61 rfl rfl (by simp) ?_; simp only [Try.x61, argEnv, Nat.zero_add, Nat.reduceAdd]
  (refine e_seq fun K1 hK1 => ?_; refine e_region ?_; refine A_assign ?_; refine A_assign ?_; refine a_next ?_; refine e_seq fun K1 hK1 => ?_; refine e_region ?_; 
     refine A_move ?_; refine A_move ?_; refine A_subN ?_; refine A_assign ?_; refine a_next ?_; refine e_seq fun K1 hK1 => ?_; refine e_region ?_; 
     refine A_alloc fun b1 w1 hF1 hN1 hB1 => ?_; have hz1 := hF1.size; obtain ⟨hn1, hl1⟩ := hN1; refine a_next ?_; refine e_seq fun K1 hK1 => ?_; refine e_region ?_; 
     refine A_move ?_; refine A_move ?_)
  refine E_quoN (m := 4) rfl (by omega) (by omega) (Nat.le_of_ble_eq_true rfl) ?_; refine E_mulNC (m := 1) rfl (by omega) (Nat.le_of_ble_eq_true rfl) ?_
  (refine A_addN ?_; refine A_assign ?_; refine a_next ?_; refine e_seq fun K1 hK1 => ?_; refine e_region ?_; refine A_move ?_; refine A_move ?_)
  refine E_quoN (m := 4) rfl (by omega) (by omega) (Nat.le_of_ble_eq_true rfl) ?_; refine E_mulNC (m := 2) rfl (by omega) (Nat.le_of_ble_eq_true rfl) ?_
  (refine A_addN ?_; refine A_assign ?_; refine a_next ?_; refine e_seq fun K1 hK1 => ?_; refine e_region ?_; refine A_move ?_; refine A_move ?_)
  refine E_quoN (m := 4) rfl (by omega) (by omega) (Nat.le_of_ble_eq_true rfl) ?_; refine E_mulNC (m := 3) rfl (by omega) (Nat.le_of_ble_eq_true rfl) ?_
  (refine A_addN ?_; refine A_assign ?_; refine a_next ?_; refine e_seq fun K1 hK1 => ?_; refine e_seq fun K1 hK1 => ?_; refine e_region ?_; refine A_move ?_; 
     refine A_geq ?_; refine a_next ?_)
  have hbs : Blk w1 b1 3 #[.int .i64 ((0 : Nat) : Int)] := hB1
  have hD1 : Dat w1 g cap N d := hD.fr (by exact fr_)
  have hFX : Fr w w1 := by exact fr_
  have hKc : ∀ W' , Ch (fun k => k = b1) w1 W' → K W' := fun W' hc => hC.keep _ _ hK ((hFX.more hc (fun k hk => by omega)).ch _)
  have fin : ∀ W (r : Nat × Nat), Ch (fun k => k = b1) w1 W → Dat W g cap N d → Blk W b1 3 #[.int .i64 (r.2 : Int)] → Sort.choosePivot (ltC cf) d a b = (r.1, if r.2 = 0 then .increasing else if r.2 = 12 then .decreasing else .unknown) →
      (∀ W', Fr W W' → RR (.returned (.tuple #[.int .i64 (r.1 : Int), .int .i64 (hintI (if r.2 = 0 then .increasing else if r.2 = 12 then .decreasing else .unknown))])) W') := fun W r hc hd _ he W' hF =>
    hR W' (r.1, if r.2 = 0 then .increasing else if r.2 = 12 then .decreasing else .unknown) he.symm (hd.fr hF) ((hFX.more hc (fun k hk => by omega)).trans hF)
  clear hF1
  by_cases h8 : 8 ≤ l
  · by_cases h50 : 50 ≤ l
    · (refine a_true ?_; refine e_seq fun K1 hK1 => ?_; refine e_seq fun K1 hK1 => ?_; refine e_region ?_; refine A_move ?_; refine A_geq ?_; refine a_next ?_; refine a_true ?_; 
       refine e_seq fun K1 hK1 => ?_; refine e_region ?_; refine A_move ?_; refine A_move ?_; refine A_move ?_)
      (with_reducible apply E_call); rfl; exact Try.en75; rfl; intro RR1 hRR1
      refine medianAdjacent75 hC (a + l / 4 * 1) 0 b1 d _ _ hD1 hKc (by omega) (by omega) hbs (by omega) fun w2 ri hri hD2 hC2 hB2 => ?_
      refine hRR1 _ _ (by first | assumption | exact trivial) (Nat.le_of_ble_eq_true rfl) ?_; clear hRR1 RR1
      have li := median_lt (lt := ltC cf) (d := d) (s := 0) (a := a + l / 4 * 1 - 1) (b := a + l / 4 * 1) (c := a + l / 4 * 1 + 1) (N := N) (by omega) (by omega) (by omega)
      rw [show Sort.median (ltC cf) d (a + l / 4 * 1 - 1) (a + l / 4 * 1) (a + l / 4 * 1 + 1) 0 = ri from hri.symm] at li
      (refine A_assign ?_; refine a_next ?_; refine e_seq fun K1 hK1 => ?_; refine e_region ?_; refine A_move ?_; refine A_move ?_; refine A_move ?_)
      (with_reducible apply E_call); rfl; exact Try.en75; rfl; intro RR1 hRR1
      refine medianAdjacent75 hC (a + l / 4 * 2) ri.2 b1 d _ _ hD2 (fun W hc => hKc W (hC2.trans hc)) (by omega) (by omega) hB2 (by omega) fun w3 rj hrj hD3 hC3 hB3 => ?_
      refine hRR1 _ _ (by first | assumption | exact trivial) (Nat.le_of_ble_eq_true rfl) ?_; clear hRR1 RR1
      have lj := median_lt (lt := ltC cf) (d := d) (s := ri.2) (a := a + l / 4 * 2 - 1) (b := a + l / 4 * 2) (c := a + l / 4 * 2 + 1) (N := N) (by omega) (by omega) (by omega)
      rw [show Sort.median (ltC cf) d (a + l / 4 * 2 - 1) (a + l / 4 * 2) (a + l / 4 * 2 + 1) ri.2 = rj from hrj.symm] at lj
      (refine A_assign ?_; refine a_next ?_; refine e_region ?_; refine A_move ?_; refine A_move ?_; refine A_move ?_)
      (with_reducible apply E_call); rfl; exact Try.en75; rfl; intro RR1 hRR1
      refine medianAdjacent75 hC (a + l / 4 * 3) rj.2 b1 d _ _ hD3 (fun W hc => hKc W ((hC2.trans hC3).trans hc)) (by omega) (by omega) hB3 (by omega) fun w4 rk hrk hD4 hC4 hB4 => ?_
      refine hRR1 _ _ (by first | assumption | exact trivial) (Nat.le_of_ble_eq_true rfl) ?_; clear hRR1 RR1
      have lk := median_lt (lt := ltC cf) (d := d) (s := rj.2) (a := a + l / 4 * 3 - 1) (b := a + l / 4 * 3) (c := a + l / 4 * 3 + 1) (N := N) (by omega) (by omega) (by omega)
      rw [show Sort.median (ltC cf) d (a + l / 4 * 3 - 1) (a + l / 4 * 3) (a + l / 4 * 3 + 1) rj.2 = rk from hrk.symm] at lk
      (refine A_assign ?_; refine a_next ?_; refine e_region ?_; refine A_move ?_; refine A_move ?_; refine A_move ?_; refine A_move ?_; refine A_move ?_)
      (with_reducible apply E_call); rfl; exact Try.en76; rfl; intro RR1 hRR1
      refine median76 hC ri.1 rj.1 rk.1 rk.2 b1 d _ _ hD4 (fun W hc => hKc W (((hC2.trans hC3).trans hC4).trans hc)) li.1 lj.1 lk.1 hB4 (by omega) fun w5 r hr hDT hC5 hBT => ?_
      have hcT := (((hC2.trans hC3).trans hC4).trans hC5)
      have heT : Sort.choosePivot (ltC cf) d a b = (r.1, if r.2 = 0 then .increasing else if r.2 = 12 then .decreasing else .unknown) := by
        unfold Sort.choosePivot
        simp only [hl, if_pos h8, if_pos h50, ge_iff_le, ← hri, ← hrj, ← hrk, ← hr]
      refine hRR1 _ _ (by first | assumption | exact trivial) (Nat.le_of_ble_eq_true rfl) ?_; clear hRR1 RR1
      by_cases hz0 : r.2 = 0
      · (refine A_assign ?_; refine a_next ?_; refine e_seq fun K1 hK1 => ?_; refine e_region ?_; refine A_load ?_; refine a_next ?_; refine e_block ?_; 
         refine e_seq fun K1 hK1 => ?_; refine e_region ?_; refine A_eql ?_; refine A_assign ?_; refine a_next ?_; refine a_true ?_; refine e_seq fun K1 hK1 => ?_; 
         refine e_region ?_; refine A_move ?_; refine A_assign ?_; refine A_assign ?_; refine a_next ?_; refine e_ret_block ?_; refine a_ret2 ?_)
        have := fin _ r hcT hDT hBT heT _ (Fr.refl _)
        rw [if_pos hz0] at this
        exact this
      · by_cases hz12 : r.2 = 12
        · (refine A_assign ?_; refine a_next ?_; refine e_seq fun K1 hK1 => ?_; refine e_region ?_; refine A_load ?_; refine a_next ?_; refine e_block ?_; 
           refine e_seq fun K1 hK1 => ?_; refine e_region ?_; refine A_eql ?_; refine A_assign ?_; refine a_next ?_; refine a_false ?_; refine e_seq fun K1 hK1 => ?_; 
           refine e_region ?_; refine A_eql ?_; refine A_assign ?_; refine a_next ?_; refine a_true ?_; refine e_seq fun K1 hK1 => ?_; refine e_region ?_; refine A_move ?_; 
           refine A_assign ?_; refine A_assign ?_; refine a_next ?_; refine e_ret_block ?_; refine a_ret2 ?_)
          have := fin _ r hcT hDT hBT heT _ (Fr.refl _)
          rw [if_neg hz0, if_pos hz12] at this
          exact this
        · (refine A_assign ?_; refine a_next ?_; refine e_seq fun K1 hK1 => ?_; refine e_region ?_; refine A_load ?_; refine a_next ?_; refine e_block ?_; 
           refine e_seq fun K1 hK1 => ?_; refine e_region ?_; refine A_eql ?_; refine A_assign ?_; refine a_next ?_; refine a_false ?_; refine e_seq fun K1 hK1 => ?_; 
           refine e_region ?_; refine A_eql ?_; refine A_assign ?_; refine a_next ?_; refine a_false ?_; refine e_seq fun K1 hK1 => ?_; refine e_region ?_; refine A_move ?_; 
           refine A_assign ?_; refine A_assign ?_; refine a_next ?_; refine e_ret_block ?_; refine a_ret2 ?_)
          have := fin _ r hcT hDT hBT heT _ (Fr.refl _)
          rw [if_neg hz0, if_neg hz12] at this
          exact this
    · (refine a_true ?_; refine e_seq fun K1 hK1 => ?_; refine e_seq fun K1 hK1 => ?_; refine e_region ?_; refine A_move ?_; refine A_geq ?_; refine a_next ?_; 
       refine a_false ?_; refine a_nextC ?_; refine e_region ?_; refine A_move ?_; refine A_move ?_; refine A_move ?_; refine A_move ?_; refine A_move ?_)
      (with_reducible apply E_call); rfl; exact Try.en76; rfl; intro RR1 hRR1
      refine median76 hC (a + l / 4 * 1) (a + l / 4 * 2) (a + l / 4 * 3) 0 b1 d _ _ hD1 hKc (by omega) (by omega) (by omega) hbs (by omega) fun w5 r hr hDT hcT hBT => ?_
      have heT : Sort.choosePivot (ltC cf) d a b = (r.1, if r.2 = 0 then .increasing else if r.2 = 12 then .decreasing else .unknown) := by
        unfold Sort.choosePivot
        simp only [hl, if_pos h8, if_neg h50, ge_iff_le, ← hr]
      refine hRR1 _ _ (by first | assumption | exact trivial) (Nat.le_of_ble_eq_true rfl) ?_; clear hRR1 RR1
      by_cases hz0 : r.2 = 0
      · (refine A_assign ?_; refine a_next ?_; refine e_seq fun K1 hK1 => ?_; refine e_region ?_; refine A_load ?_; refine a_next ?_; refine e_block ?_; 
         refine e_seq fun K1 hK1 => ?_; refine e_region ?_; refine A_eql ?_; refine A_assign ?_; refine a_next ?_; refine a_true ?_; refine e_seq fun K1 hK1 => ?_; 
         refine e_region ?_; refine A_move ?_; refine A_assign ?_; refine A_assign ?_; refine a_next ?_; refine e_ret_block ?_; refine a_ret2 ?_)
        have := fin _ r hcT hDT hBT heT _ (Fr.refl _)
        rw [if_pos hz0] at this
        exact this
      · by_cases hz12 : r.2 = 12
        · (refine A_assign ?_; refine a_next ?_; refine e_seq fun K1 hK1 => ?_; refine e_region ?_; refine A_load ?_; refine a_next ?_; refine e_block ?_; 
           refine e_seq fun K1 hK1 => ?_; refine e_region ?_; refine A_eql ?_; refine A_assign ?_; refine a_next ?_; refine a_false ?_; refine e_seq fun K1 hK1 => ?_; 
           refine e_region ?_; refine A_eql ?_; refine A_assign ?_; refine a_next ?_; refine a_true ?_; refine e_seq fun K1 hK1 => ?_; refine e_region ?_; refine A_move ?_; 
           refine A_assign ?_; refine A_assign ?_; refine a_next ?_; refine e_ret_block ?_; refine a_ret2 ?_)
          have := fin _ r hcT hDT hBT heT _ (Fr.refl _)
          rw [if_neg hz0, if_pos hz12] at this
          exact this
        · (refine A_assign ?_; refine a_next ?_; refine e_seq fun K1 hK1 => ?_; refine e_region ?_; refine A_load ?_; refine a_next ?_; refine e_block ?_; 
           refine e_seq fun K1 hK1 => ?_; refine e_region ?_; refine A_eql ?_; refine A_assign ?_; refine a_next ?_; refine a_false ?_; refine e_seq fun K1 hK1 => ?_; 
           refine e_region ?_; refine A_eql ?_; refine A_assign ?_; refine a_next ?_; refine a_false ?_; refine e_seq fun K1 hK1 => ?_; refine e_region ?_; refine A_move ?_; 
           refine A_assign ?_; refine A_assign ?_; refine a_next ?_; refine e_ret_block ?_; refine a_ret2 ?_)
          have := fin _ r hcT hDT hBT heT _ (Fr.refl _)
          rw [if_neg hz0, if_neg hz12] at this
          exact this
  · (refine a_false ?_; refine a_nextC ?_; refine e_seq fun K1 hK1 => ?_; refine e_region ?_; refine A_load ?_; refine a_next ?_; refine e_block ?_; 
     refine e_seq fun K1 hK1 => ?_; refine e_region ?_; refine A_eql ?_; refine A_assign ?_; refine a_next ?_; refine a_true ?_; refine e_seq fun K1 hK1 => ?_; 
     refine e_region ?_; refine A_move ?_; refine A_assign ?_; refine A_assign ?_; refine a_next ?_; refine e_ret_block ?_; refine a_ret2 ?_)
    exact fin _ (a + l / 4 * 2, 0) (Ch.refl _ _) hD1 hbs (by unfold Sort.choosePivot; simp only [hl, if_neg h8, ge_iff_le]) _ (Fr.refl _)
end
end Go.Proofs.Ytjocklgihjbaiaa
end
section
/- Sorting of items: partitionEqualCmpFunc. -/
namespace Go.Proofs.Ytjocklgihjbaiaa
open Go.RowKit
section
variable {f : FuncId} {first fc : Array Value} {cf : It → It → Int} {g cap N : Nat} {K : World → Prop} (hC : CmpV Try.prog f first fc cf g K)
include hC
set_option maxRecDepth 10000 in
set_option maxHeartbeats 2000000 in
theorem partitionEqual64 (a b pv : Nat) (d : Array It) (w : World) (RR : Ending → World → Prop) (hD : Dat w g cap N d) (hK : K w) (hb : b ≤ N) (hab : a < b) (hp : pv < N) (hN2 : 4 * N + 8 < 9223372036854775807)
    (hR : ∀ w' r, r = Sort.partitionEqual (ltC cf) d a b pv → Dat w' g cap N r.2 → Ch (fun k => k = g) w w' → RR (.returned (.int .i64 (r.1 : Int))) w') :
    Calls Try.prog 64 #[.slice (some ⟨g, 0, none⟩) N cap, .int .i64 a, .int .i64 b, .int .i64 pv, .func (.func f) first fc] w RR := by
  have hb1 : (b - 1) + 1 = b := by omega
  have r1 := hD.get (i := pv) hp
  have r2 := hD.get (i := a) (by omega)
  refine e_enter (n := ⟨90, []⟩) Try.mixed Try.func64 Try.p64 Try.x64 Try.fb64 Try.hx64 Try.ok64 rfl rfl (by simp) ?_; simp only [Try.x64, argEnv, Nat.zero_add, Nat.reduceAdd]
  (refine e_seq fun K1 hK1 => ?_; refine e_region ?_; refine A_assign ?_; refine a_next ?_; refine e_seq fun K1 hK1 => ?_; 
     refine a_drawn fun w1 hF1 => ?_; have hz1 := hF1.size; refine A_move ?_; refine A_move ?_; refine A_move ?_; refine A_move ?_; refine A_move ?_; refine A_move ?_; 
     refine A_idxS ?_; refine A_move ?_; refine A_move ?_; refine A_idxS ?_; refine A_loads ?_; refine A_loads ?_; refine A_idxS ?_)
  have hDw : Dat w1 g cap N d := hD.fr (by exact fr_)
  have hFY : Fr w w1 := by exact fr_
  clear hF1
  obtain ⟨cA, hbA, hfA, hpA⟩ := hDw.put (i := a) (by omega) d[pv]!
  refine E_store (o := a * 2) rfl (fun _ _ _ => trivial) rfl rfl hbA (by simp only [Try.SI]; rfl) (by show (itA _).all _ = true; rw [← Array.all_toList]; rfl) hfA rfl ?_
  intro w5 hU5 hB5
  have hD5 := hpA _ hB5
  refine A_idxS ?_
  obtain ⟨cB, hbB, hfB, hpB⟩ := hD5.put (i := pv) hp d[a]!
  refine E_store (o := pv * 2) rfl (fun _ _ _ => trivial) rfl rfl hbB (by simp only [Try.SI]; rfl) (by show (itA _).all _ = true; rw [← Array.all_toList]; rfl) hfB rfl ?_
  intro w6 hU6 hB6
  have hD6 := hpB _ hB6
  have hC6 := (((hFY.ch (fun k => k = g))).trans_upd hU5 (.inl rfl)).trans_upd hU6 (.inl rfl)
  clear hU5 hU6
  (refine a_next ?_; refine e_seq fun K1 hK1 => ?_; refine e_region ?_; refine A_move ?_; refine A_addN1 ?_; refine A_move ?_; refine A_subN1 ?_; refine A_assign ?_; 
     refine A_assign ?_; refine a_next ?_; refine e_seq fun K1 hK1 => ?_; refine e_block ?_)
  refine e_loop Try.mixed Try.p64 Try.lp64bbbaa Try.hx64bbbaal Try.ok64bbbaal (fun q : Nat × Nat × Array It => [(0, .slice (some ⟨g, 0, none⟩) N cap), (1, .int .i64 a), (4, .func (.func f) first fc), (11, .int .i64 q.1), (12, .int .i64 q.2.1)])
    (fun q W => a + 1 ≤ q.1 ∧ q.1 ≤ N + 1 ∧ q.2.1 < N ∧ Dat W g cap N q.2.2 ∧ Ch (fun k => k = g) w W ∧ Sort.partEqLoop (ltC cf) a q.1 q.2.1 q.2.2 = Sort.partitionEqual (ltC cf) d a b pv) (fun q => q.2.1 + 1 - q.1) (a + 1, b - 1, Sort.swp d a pv) (by exact sub_)
    ⟨Nat.le_refl _, by show a + 1 ≤ N + 1; omega, by show b - 1 < N; omega, hD6, hC6.trans_fr (by exact fr_), rfl⟩ ?_
  rintro ⟨i, j, d3⟩ w3 ⟨hai, hiN, hj, hD3, hC3, heq3⟩
  simp only at hai hiN hj hD3 heq3
  simp only [Try.x64bbbaal]
  (refine e_block ?_; refine e_seq fun K1 hK1 => ?_; refine e_block ?_)
  have hda : a < N := by omega
  have rest1 : ∀ (k : Nat) (W : World), Fr w3 W → k = Sort.scanUp (fun x => !ltC cf d3[a]! x) d3 j i → i ≤ k → k ≤ N + 1 →
      ∀ act, Agrees ⟨90, []⟩ act [(0, .slice (some ⟨g, 0, none⟩) N cap), (1, .int .i64 a), (4, .func (.func f) first fc), (11, .int .i64 k), (12, .int .i64 j)] → K1 act W := by
    intro k W hFW hkeq hik hkN
    have hzW := hFW.size
    refine later_of hK1 ?_
    (refine e_seq fun K1 hK1 => ?_; refine e_block ?_)
    have rest2 : ∀ (m : Nat) (W : World), Fr w3 W → m = Sort.scanDown (fun x => ltC cf d3[a]! x) d3 k j → m < N →
        ∀ act, Agrees ⟨90, []⟩ act [(0, .slice (some ⟨g, 0, none⟩) N cap), (1, .int .i64 a), (4, .func (.func f) first fc), (11, .int .i64 k), (12, .int .i64 m)] → K1 act W := by
      intro m W2 hF2 hmeq hmN
      have hz2 := hF2.size
      have hDm := hD3.fr hF2
      refine later_of hK1 ?_
      rw [Sort.partEqLoop] at heq3
      simp only [← hkeq, ← hmeq] at heq3
      by_cases hkm : m < k
      · (refine e_seq fun K1 hK1 => ?_; refine e_seq fun K1 hK1 => ?_; refine e_region ?_; refine A_move ?_; refine A_move ?_; refine A_gtr ?_; refine a_next ?_; refine a_true ?_; 
         refine e_exit_then ?_; refine a_exit_on ?_; refine e_exit_then ?_; refine e_exit_here ?_; refine a_norm_then ?_; refine e_seq fun K1 hK1 => ?_; refine e_region ?_; 
         refine A_move ?_; refine A_assign ?_; refine a_next ?_; refine a_ret1 ?_)
        rw [if_pos (show k > m from hkm)] at heq3
        exact hR W2 (k, d3) heq3 hDm (hC3.trans_fr hF2)
      · obtain ⟨m', rfl⟩ : ∃ m', m = m' + 1 := ⟨m - 1, by omega⟩
        rw [if_neg (show ¬ k > m' + 1 by omega)] at heq3
        have hmj : m' + 1 ≤ j := by rw [hmeq]; exact Sort.scanDown_le _ _ _ _
        rw [dif_pos (show m' + 1 - 1 + 1 - (k + 1) < j + 1 - i by omega)] at heq3
        have q1 := hDm.get (i := m' + 1) hmN
        have q2 := hDm.get (i := k) (by omega)
        (refine e_seq fun K1 hK1 => ?_; refine e_seq fun K1 hK1 => ?_; refine e_region ?_; refine A_move ?_; refine A_move ?_; refine A_gtr ?_; refine a_next ?_; 
           refine a_false ?_; refine a_nextC ?_; refine e_seq fun K1 hK1 => ?_; refine a_drawn fun w1 hF1 => ?_; have hz1 := hF1.size; refine A_move ?_; refine A_move ?_; 
           refine A_move ?_; refine A_move ?_; refine A_move ?_; refine A_move ?_; refine A_idxS ?_; refine A_move ?_; refine A_move ?_; refine A_idxS ?_; refine A_loads ?_; 
           refine A_loads ?_; refine A_idxS ?_)
        have hDw : Dat w1 g cap N d3 := hDm.fr (by exact fr_)
        have hFY : Fr W2 w1 := by exact fr_
        obtain ⟨cA, hbA, hfA, hpA⟩ := hDw.put (i := k) (by omega) d3[m' + 1]!
        refine E_store (o := k * 2) rfl (fun _ _ _ => trivial) rfl rfl hbA (by simp only [Try.SI]; rfl) (by show (itA _).all _ = true; rw [← Array.all_toList]; rfl) hfA rfl ?_
        intro w5 hU5 hB5
        have hD5 := hpA _ hB5
        refine A_idxS ?_
        obtain ⟨cB, hbB, hfB, hpB⟩ := hD5.put (i := m' + 1) hmN d3[k]!
        refine E_store (o := (m' + 1) * 2) rfl (fun _ _ _ => trivial) rfl rfl hbB (by simp only [Try.SI]; rfl) (by show (itA _).all _ = true; rw [← Array.all_toList]; rfl) hfB rfl ?_
        intro w6 hU6 hB6
        have hD6 := hpB _ hB6
        have hm1 : m' + 1 = m' + 1 := rfl
        (refine a_next ?_; refine e_seq fun K1 hK1 => ?_; refine e_region ?_; refine A_move ?_; refine A_addN1 ?_; refine A_assign ?_; refine a_next ?_; refine e_region ?_; 
           refine A_move ?_; refine A_subN1 ?_; refine A_assign ?_; refine e_norm_nil ?_; refine e_norm_block ?_)
        exact e_againN (k + 1, m', Sort.swp d3 k (m' + 1)) (by show m' + 1 - (k + 1) < j + 1 - i; omega) ⟨by show a + 1 ≤ k + 1; omega, by show k + 1 ≤ N + 1; omega, by show m' < N; omega, hD6, (((hC3.trans_fr hF2).trans_fr hFY).trans_upd hU5 (.inl rfl)).trans_upd hU6 (.inl rfl), heq3⟩ rfl (by exact sub_)
    clear hK1
    refine e_loop Try.mixed Try.p64 Try.lp64bbbaalabaa Try.hx64bbbaalabaal Try.ok64bbbaalabaal (fun m : Nat => [(0, .slice (some ⟨g, 0, none⟩) N cap), (1, .int .i64 a), (4, .func (.func f) first fc), (11, .int .i64 k), (12, .int .i64 m)])
      (fun m W => m ≤ j ∧ Fr w3 W ∧ Sort.scanDown (fun x => ltC cf d3[a]! x) d3 k m = Sort.scanDown (fun x => ltC cf d3[a]! x) d3 k j) (fun m => m) j (by exact sub_) ⟨Nat.le_refl _, hFW, rfl⟩ ?_
    rintro m w4 ⟨hmj, hF4, heq4⟩
    have hz4 := hF4.size
    have hD4 := hD3.fr hF4
    have hK4 := hC.keep _ _ hK (hC3.trans_fr hF4)
    simp only [Try.x64bbbaalabaal]
    by_cases hkm : k ≤ m
    · obtain ⟨m', rfl⟩ : ∃ m', m = m' + 1 := ⟨m - 1, by omega⟩
      have q1 := hD4.get (i := a) hda
      have q2 := hD4.get (i := m' + 1) (by omega)
      (refine e_seq fun K1 hK1 => ?_; refine e_seq fun K1 hK1 => ?_; refine a_drawn fun w1 hF1 => ?_; have hz1 := hF1.size; refine A_move ?_; refine A_move ?_; refine A_leq ?_; 
         refine A_move ?_; refine A_want ?_; refine A_move ?_; refine A_want ?_; refine A_move ?_; refine A_want ?_; refine A_move ?_; refine A_want ?_; refine A_idxS ?_; 
         refine A_want ?_; refine A_move ?_; refine A_want ?_; refine A_move ?_; refine A_want ?_; refine A_idxS ?_; refine A_want ?_; refine A_loads ?_; refine A_want ?_; 
         refine A_loads ?_; refine A_want ?_)
      refine E_callV rfl rfl hC.en rfl fun RR1 hRR1 => ?_
      refine hC.call d3[a]! d3[m' + 1]! _ _ (hC.keep _ _ hK4 ((show Fr w4 _ by exact fr_).ch _)) fun w7 hF7 => ?_
      have hz7 := hF7.size
      refine hRR1 _ _ (by first | assumption | exact trivial) (Nat.le_of_ble_eq_true rfl) ?_; clear hRR1 RR1
      by_cases hc : cf d3[a]! d3[m' + 1]! < 0
      · (refine A_want ?_; refine A_lss ?_; refine A_pick_t ?_; refine a_next ?_; refine a_true ?_; refine a_nextC ?_; refine e_block ?_; refine e_region ?_; refine A_move ?_; 
         refine A_subN1 ?_; refine A_assign ?_; refine e_norm_nil ?_; refine e_norm_block ?_)
        exact e_againN m' (Nat.lt_succ_self m') ⟨by show m' ≤ j; omega, hF4.trans (by exact fr_), by rw [← heq4]; exact (scanDown_go _ _ _ _ hkm (Nat.succ_pos _) (by simp [ltC, hc])).symm⟩ rfl (by exact sub_)
      · (refine A_want ?_; refine A_lss ?_; refine A_pick_t ?_; refine a_next ?_; refine a_false ?_; refine e_exit_then ?_; refine e_exit_then ?_; refine e_exit_here ?_)
        exact e_restN (rest2 (m' + 1) w7 (hF4.trans (by exact fr_)) (by rw [← heq4, scanDown_end _ _ _ _ (.inr (by simp [ltC]; omega))]) (by omega)) (by exact sub_)
    · (refine e_seq fun K1 hK1 => ?_; refine e_seq fun K1 hK1 => ?_; refine a_drawn fun w1 hF1 => ?_; have hz1 := hF1.size; refine A_move ?_; refine A_move ?_; refine A_leq ?_; 
       refine A_move ?_; refine A_pass ?_; refine A_pass ?_; refine A_pass ?_; refine A_pass ?_; refine A_pass ?_; refine A_pass ?_; refine A_pass ?_; refine A_pass ?_; 
       refine A_pass ?_; refine A_pass ?_; refine A_pass ?_; refine A_pick_f ?_; refine a_next ?_; refine a_false ?_; refine e_exit_then ?_; refine e_exit_then ?_; 
       refine e_exit_here ?_)
      exact e_restN (rest2 m _ (hF4.trans (by exact fr_)) (by rw [← heq4, scanDown_end _ _ _ _ (.inl hkm)]) (by omega)) (by exact sub_)
  clear hK1
  refine e_loop Try.mixed Try.p64 Try.lp64bbbaalaaa Try.hx64bbbaalaaal Try.ok64bbbaalaaal (fun k : Nat => [(0, .slice (some ⟨g, 0, none⟩) N cap), (1, .int .i64 a), (4, .func (.func f) first fc), (11, .int .i64 k), (12, .int .i64 j)])
    (fun k W => i ≤ k ∧ k ≤ N + 1 ∧ Fr w3 W ∧ Sort.scanUp (fun x => !ltC cf d3[a]! x) d3 j k = Sort.scanUp (fun x => !ltC cf d3[a]! x) d3 j i) (fun k => N + 2 - k) i (by exact sub_) ⟨Nat.le_refl _, hiN, Fr.refl _, rfl⟩ ?_
  rintro k w4 ⟨hik, hkN, hF4, heq4⟩
  have hz4 := hF4.size
  have hD4 := hD3.fr hF4
  have hK4 := hC.keep _ _ hK (hC3.trans_fr hF4)
  simp only [Try.x64bbbaalaaal]
  by_cases hkj : k ≤ j
  · have q1 := hD4.get (i := a) hda
    have q2 := hD4.get (i := k) (by omega)
    (refine e_seq fun K1 hK1 => ?_; refine e_seq fun K1 hK1 => ?_; refine a_drawn fun w1 hF1 => ?_; have hz1 := hF1.size; refine A_move ?_; refine A_move ?_; refine A_leq ?_; 
       refine A_move ?_; refine A_want ?_; refine A_move ?_; refine A_want ?_; refine A_move ?_; refine A_want ?_; refine A_move ?_; refine A_want ?_; refine A_idxS ?_; 
       refine A_want ?_; refine A_move ?_; refine A_want ?_; refine A_move ?_; refine A_want ?_; refine A_idxS ?_; refine A_want ?_; refine A_loads ?_; refine A_want ?_; 
       refine A_loads ?_; refine A_want ?_)
    refine E_callV rfl rfl hC.en rfl fun RR1 hRR1 => ?_
    refine hC.call d3[a]! d3[k]! _ _ (hC.keep _ _ hK4 ((show Fr w4 _ by exact fr_).ch _)) fun w7 hF7 => ?_
    have hz7 := hF7.size
    refine hRR1 _ _ (by first | assumption | exact trivial) (Nat.le_of_ble_eq_true rfl) ?_; clear hRR1 RR1
    by_cases hc : cf d3[a]! d3[k]! < 0
    · (refine A_want ?_; refine A_lss ?_; refine A_want ?_; refine A_not ?_; refine A_pick_t ?_; refine a_next ?_; refine a_false ?_; refine e_exit_then ?_; 
       refine e_exit_then ?_; refine e_exit_here ?_)
      exact e_restN (rest1 k w7 (hF4.trans (by exact fr_)) (by rw [← heq4, scanUp_end _ _ _ _ (.inr (by simp [ltC, hc]))]) hik hkN) (by exact sub_)
    · (refine A_want ?_; refine A_lss ?_; refine A_want ?_; refine A_not ?_; refine A_pick_t ?_; refine a_next ?_; refine a_true ?_; refine a_nextC ?_; refine e_block ?_; 
       refine e_region ?_; refine A_move ?_; refine A_addN1 ?_; refine A_assign ?_; refine e_norm_nil ?_; refine e_norm_block ?_)
      exact e_againN (k + 1) (by omega) ⟨by omega, by omega, hF4.trans (by exact fr_), by rw [← heq4]; exact (scanUp_go _ _ _ _ hkj (by simp [ltC]; omega)).symm⟩ rfl (by exact sub_)
  · (refine e_seq fun K1 hK1 => ?_; refine e_seq fun K1 hK1 => ?_; refine a_drawn fun w1 hF1 => ?_; have hz1 := hF1.size; refine A_move ?_; refine A_move ?_; refine A_leq ?_; 
     refine A_move ?_; refine A_pass ?_; refine A_pass ?_; refine A_pass ?_; refine A_pass ?_; refine A_pass ?_; refine A_pass ?_; refine A_pass ?_; refine A_pass ?_; 
     refine A_pass ?_; refine A_pass ?_; refine A_pass ?_; refine A_pass ?_; refine A_pick_f ?_; refine a_next ?_; refine a_false ?_; refine e_exit_then ?_; 
     refine e_exit_then ?_; refine e_exit_here ?_)
    exact e_restN (rest1 k _ (hF4.trans (by exact fr_)) (by rw [← heq4, scanUp_end _ _ _ _ (.inl hkj)]) hik hkN) (by exact sub_)
end
end Go.Proofs.Ytjocklgihjbaiaa
end
section
/- Sorting of items: partitionCmpFunc. -/
namespace Go.Proofs.Ytjocklgihjbaiaa
open Go.RowKit
section
variable {f : FuncId} {first fc : Array Value} {cf : It → It → Int} {g cap N : Nat} {K : World → Prop} (hC : CmpV Try.prog f first fc cf g K)
include hC
set_option maxRecDepth 10000 in
set_option maxHeartbeats 4000000 in
theorem partition65 (a b pv : Nat) (d : Array It) (w : World) (RR : Ending → World → Prop) (hD : Dat w g cap N d) (hK : K w) (hb : b ≤ N) (hab : a < b) (hp : pv < N) (hN2 : 4 * N + 8 < 9223372036854775807)
    (hR : ∀ w' r, r = Sort.partition (ltC cf) d a b pv → Dat w' g cap N r.2.2 → Ch (fun k => k = g) w w' → RR (.returned (.tuple #[.int .i64 (r.1 : Int), .bool r.2.1])) w') :
    Calls Try.prog 65 #[.slice (some ⟨g, 0, none⟩) N cap, .int .i64 a, .int .i64 b, .int .i64 pv, .func (.func f) first fc] w RR := by
  have hb1 : (b - 1) + 1 = b := by omega
  have hda : a < N := by omega
  have r1 := hD.get (i := pv) hp
  have r2 := hD.get (i := a) (by omega)
  refine e_enter (n := ⟨178, []⟩) Try.mixed Try.func65 Try.p65 Try.x65 Try.fb65 Try.hx65 Try.ok65 rfl rfl (by simp) ?_; simp only [Try.x65, argEnv, Nat.zero_add, Nat.reduceAdd]
  (refine e_seq fun K1 hK1 => ?_; refine e_region ?_; refine A_assign ?_; refine A_assign ?_; refine a_next ?_; refine e_seq fun K1 hK1 => ?_; 
     refine a_drawn fun w1 hF1 => ?_; have hz1 := hF1.size; refine A_move ?_; refine A_move ?_; refine A_move ?_; refine A_move ?_; refine A_move ?_; refine A_move ?_; 
     refine A_idxS ?_; refine A_move ?_; refine A_move ?_; refine A_idxS ?_; refine A_loads ?_; refine A_loads ?_; refine A_idxS ?_)
  have hDw : Dat w1 g cap N d := hD.fr (by exact fr_)
  have hFY : Fr w w1 := by exact fr_
  clear hF1
  obtain ⟨cA, hbA, hfA, hpA⟩ := hDw.put (i := a) (by omega) d[pv]!
  refine E_store (o := a * 2) rfl (fun _ _ _ => trivial) rfl rfl hbA (by simp only [Try.SI]; rfl) (by show (itA _).all _ = true; rw [← Array.all_toList]; rfl) hfA rfl ?_
  intro w5 hU5 hB5
  have hD5 := hpA _ hB5
  refine A_idxS ?_
  obtain ⟨cB, hbB, hfB, hpB⟩ := hD5.put (i := pv) hp d[a]!
  refine E_store (o := pv * 2) rfl (fun _ _ _ => trivial) rfl rfl hbB (by simp only [Try.SI]; rfl) (by show (itA _).all _ = true; rw [← Array.all_toList]; rfl) hfB rfl ?_
  intro w3 hU6 hB6
  have hD3 := hpB _ hB6
  have hC3 := (((hFY.ch (fun k => k = g))).trans_upd hU5 (.inl rfl)).trans_upd hU6 (.inl rfl)
  clear hU5 hU6
  (refine a_next ?_; refine e_seq fun K1 hK1 => ?_; refine e_region ?_; refine A_move ?_; refine A_addN1 ?_; refine A_move ?_; refine A_subN1 ?_; refine A_assign ?_; 
     refine A_assign ?_; refine a_next ?_; refine e_seq fun K1 hK1 => ?_; refine e_block ?_)
  obtain ⟨i, hi⟩ : ∃ i, i = a + 1 := ⟨_, rfl⟩
  obtain ⟨j, hj'⟩ : ∃ j, j = b - 1 := ⟨_, rfl⟩
  obtain ⟨d3, hd3⟩ : ∃ d3, d3 = Sort.swp d a pv := ⟨_, rfl⟩
  rw [← hi, ← hj']
  have hD3 : Dat w3 g cap N d3 := by rw [hd3]; exact hD3
  have hiN : i ≤ N + 1 := by omega
  have hj : j < N := by omega
  have rest1 : ∀ (k : Nat) (W : World), Fr w3 W → k = Sort.scanUp (fun x => ltC cf x d3[a]!) d3 j i → i ≤ k → k ≤ N + 1 →
      ∀ act, Agrees ⟨178, []⟩ act ([(0, .slice (some ⟨g, 0, none⟩) N cap), (1, .int .i64 a), (4, .func (.func f) first fc), (12, .int .i64 k), (13, .int .i64 j)]) → K1 act W := by
    intro k W hFW hkeq hik hkN
    have hzW := hFW.size
    refine later_of hK1 ?_
    (refine e_seq fun K1 hK1 => ?_; refine e_block ?_)
    have rest2 : ∀ (m : Nat) (W : World), Fr w3 W → m = Sort.scanDown (fun x => !ltC cf x d3[a]!) d3 k j → m < N →
        ∀ act, Agrees ⟨178, []⟩ act ([(0, .slice (some ⟨g, 0, none⟩) N cap), (1, .int .i64 a), (4, .func (.func f) first fc), (12, .int .i64 k), (13, .int .i64 m)]) → K1 act W := by
      intro m W2 hF2 hmeq hmN
      have hz2 := hF2.size
      have hDm := hD3.fr hF2
      refine later_of hK1 ?_
      by_cases hkm : m < k
      · have q1 := hDm.get (i := m) hmN
        have q2 := hDm.get (i := a) hda
        (refine e_seq fun K1 hK1 => ?_; refine e_seq fun K1 hK1 => ?_; refine e_region ?_; refine A_move ?_; refine A_move ?_; refine A_gtr ?_; refine a_next ?_; refine a_true ?_; 
           refine e_seq fun K1 hK1 => ?_; refine a_drawn fun w1 hF1 => ?_; have hz1 := hF1.size; refine A_move ?_; refine A_move ?_; refine A_move ?_; refine A_move ?_; 
           refine A_move ?_; refine A_move ?_; refine A_idxS ?_; refine A_move ?_; refine A_move ?_; refine A_idxS ?_; refine A_loads ?_; refine A_loads ?_; refine A_idxS ?_)
        have hDw : Dat w1 g cap N d3 := hDm.fr (by exact fr_)
        have hFY : Fr W2 w1 := by exact fr_
        obtain ⟨cA, hbA, hfA, hpA⟩ := hDw.put (i := m) hmN d3[a]!
        refine E_store (o := m * 2) rfl (fun _ _ _ => trivial) rfl rfl hbA (by simp only [Try.SI]; rfl) (by show (itA _).all _ = true; rw [← Array.all_toList]; rfl) hfA rfl ?_
        intro w5 hU5 hB5
        have hD5 := hpA _ hB5
        refine A_idxS ?_
        obtain ⟨cB, hbB, hfB, hpB⟩ := hD5.put (i := a) hda d3[m]!
        refine E_store (o := a * 2) rfl (fun _ _ _ => trivial) rfl rfl hbB (by simp only [Try.SI]; rfl) (by show (itA _).all _ = true; rw [← Array.all_toList]; rfl) hfB rfl ?_
        intro w6 hU6 hB6
        have hD6 := hpB _ hB6
        (refine a_next ?_; refine e_seq fun K1 hK1 => ?_; refine e_region ?_; refine A_move ?_; refine A_assign ?_; refine A_assign ?_; refine a_next ?_; refine e_ret_then ?_; 
           refine a_ret2 ?_)
        refine hR w6 (m, true, Sort.swp d3 m a) ?_ hD6 ((((hC3.trans_fr hF2).trans_fr hFY).trans_upd hU5 (.inl rfl)).trans_upd hU6 (.inl rfl))
        unfold Sort.partition
        simp only [← hd3, ← hi, ← hj', ← hkeq, ← hmeq, if_pos (show k > m from hkm)]
      · obtain ⟨m', rfl⟩ : ∃ m', m = m' + 1 := ⟨m - 1, by omega⟩
        have q1 := hDm.get (i := m' + 1) hmN
        have q2 := hDm.get (i := k) (by omega)
        (refine e_seq fun K1 hK1 => ?_; refine e_seq fun K1 hK1 => ?_; refine e_region ?_; refine A_move ?_; refine A_move ?_; refine A_gtr ?_; refine a_next ?_; 
           refine a_false ?_; refine a_nextC ?_; refine e_seq fun K1 hK1 => ?_; refine a_drawn fun w1 hF1 => ?_; have hz1 := hF1.size; refine A_move ?_; refine A_move ?_; 
           refine A_move ?_; refine A_move ?_; refine A_move ?_; refine A_move ?_; refine A_idxS ?_; refine A_move ?_; refine A_move ?_; refine A_idxS ?_; refine A_loads ?_; 
           refine A_loads ?_; refine A_idxS ?_)
        have hDw : Dat w1 g cap N d3 := hDm.fr (by exact fr_)
        have hFY : Fr W2 w1 := by exact fr_
        obtain ⟨cA, hbA, hfA, hpA⟩ := hDw.put (i := k) (by omega) d3[m' + 1]!
        refine E_store (o := k * 2) rfl (fun _ _ _ => trivial) rfl rfl hbA (by simp only [Try.SI]; rfl) (by show (itA _).all _ = true; rw [← Array.all_toList]; rfl) hfA rfl ?_
        intro w5 hU5 hB5
        have hD5 := hpA _ hB5
        refine A_idxS ?_
        obtain ⟨cB, hbB, hfB, hpB⟩ := hD5.put (i := m' + 1) hmN d3[k]!
        refine E_store (o := (m' + 1) * 2) rfl (fun _ _ _ => trivial) rfl rfl hbB (by simp only [Try.SI]; rfl) (by show (itA _).all _ = true; rw [← Array.all_toList]; rfl) hfB rfl ?_
        intro w6 hU6 hB6
        have hD6 := hpB _ hB6
        have hC6 := (((hC3.trans_fr hF2).trans_fr hFY).trans_upd hU5 (.inl rfl)).trans_upd hU6 (.inl rfl)
        have hm1 : m' + 1 = m' + 1 := rfl
        obtain ⟨Pt, hPt⟩ : ∃ Pt, Pt = Sort.partLoop (ltC cf) a (k + 1) m' (Sort.swp d3 k (m' + 1)) := ⟨_, rfl⟩
        have hP : Sort.partition (ltC cf) d a b pv = (Pt.1, false, Sort.swp Pt.2 Pt.1 a) := by
          unfold Sort.partition
          simp only [← hd3, ← hi, ← hj', ← hkeq, ← hmeq, if_neg (show ¬ k > m' + 1 by omega), Nat.add_sub_cancel, ← hPt]
        rw [hP] at hR
        have hak : a + 1 ≤ k := by omega
        have hkN' : k + 1 ≤ N + 1 := by omega
        clear hP hkeq hmeq hi hj' hd3 hU5 hU6 hF1
        (refine a_next ?_; refine e_seq fun K1 hK1 => ?_; refine e_region ?_; refine A_move ?_; refine A_addN1 ?_; refine A_assign ?_; refine a_next ?_; 
           refine e_seq fun K1 hK1 => ?_; refine e_region ?_; refine A_move ?_; refine A_subN1 ?_; refine A_assign ?_; refine a_next ?_; refine e_seq fun K1 hK1 => ?_; 
           refine e_block ?_)
        refine e_loop Try.mixed Try.p65 Try.lp65bbbbbbbbbaa Try.hx65bbbbbbbbbaal Try.ok65bbbbbbbbbaal (fun q : Nat × Nat × Array It => [(0, .slice (some ⟨g, 0, none⟩) N cap), (1, .int .i64 a), (4, .func (.func f) first fc), (12, .int .i64 q.1), (13, .int .i64 q.2.1)])
          (fun q W => a + 1 ≤ q.1 ∧ q.1 ≤ N + 1 ∧ q.2.1 < N ∧ Dat W g cap N q.2.2 ∧ Ch (fun k => k = g) w W ∧ Sort.partLoop (ltC cf) a q.1 q.2.1 q.2.2 = Pt) (fun q => q.2.1 + 1 - q.1) (k + 1, m', Sort.swp d3 k (m' + 1)) (by exact sub_)
          ⟨Nat.le_succ_of_le hak, hkN', by show m' < N; omega, hD6, hC6, hPt.symm⟩ ?_
        clear hD3 hC3 hj hiN hD6 hC6 hDm hPt hFY hDw hpA hbA hfA hbB hfB hpB hD5 hF2 hz2 hFW hzW
        clear q1 q2 r1 r2
        rintro ⟨i, j, d3⟩ w3 ⟨hai, hiN, hj, hD3, hC3, heq3⟩
        simp only at hai hiN hj hD3 heq3
        simp only [Try.x65bbbbbbbbbaal]
        (refine e_block ?_; refine e_seq fun K1 hK1 => ?_; refine e_block ?_)
        have rest1 : ∀ (k : Nat) (W : World), Fr w3 W → k = Sort.scanUp (fun x => ltC cf x d3[a]!) d3 j i → i ≤ k → k ≤ N + 1 →
            ∀ act, Agrees ⟨178, []⟩ act ([(0, .slice (some ⟨g, 0, none⟩) N cap), (1, .int .i64 a), (4, .func (.func f) first fc), (12, .int .i64 k), (13, .int .i64 j)]) → K1 act W := by
          intro k W hFW hkeq hik hkN
          have hzW := hFW.size
          refine later_of hK1 ?_
          (refine e_seq fun K1 hK1 => ?_; refine e_block ?_)
          have rest2 : ∀ (m : Nat) (W : World), Fr w3 W → m = Sort.scanDown (fun x => !ltC cf x d3[a]!) d3 k j → m < N →
              ∀ act, Agrees ⟨178, []⟩ act ([(0, .slice (some ⟨g, 0, none⟩) N cap), (1, .int .i64 a), (4, .func (.func f) first fc), (12, .int .i64 k), (13, .int .i64 m)]) → K1 act W := by
            intro m W2 hF2 hmeq hmN
            have hz2 := hF2.size
            have hDm := hD3.fr hF2
            refine later_of hK1 ?_
            rw [Sort.partLoop] at heq3
            simp only [← hkeq, ← hmeq] at heq3
            by_cases hkm : m < k
            · rw [if_pos (show k > m from hkm)] at heq3
              subst heq3
              have q1 := hDm.get (i := m) hmN
              have q2 := hDm.get (i := a) hda
              (refine e_seq fun K1 hK1 => ?_; refine e_seq fun K1 hK1 => ?_; refine e_region ?_; refine A_move ?_; refine A_move ?_; refine A_gtr ?_; refine a_next ?_; refine a_true ?_; 
                 refine e_exit_then ?_; refine a_exit_on ?_; refine e_exit_then ?_; refine e_exit_here ?_; refine a_norm_then ?_; refine e_seq fun K1 hK1 => ?_; 
                 refine a_drawn fun w1 hF1 => ?_; have hz1 := hF1.size; refine A_move ?_; refine A_move ?_; refine A_move ?_; refine A_move ?_; refine A_move ?_; refine A_move ?_; 
                 refine A_idxS ?_; refine A_move ?_; refine A_move ?_; refine A_idxS ?_; refine A_loads ?_; refine A_loads ?_; refine A_idxS ?_)
              have hDw : Dat w1 g cap N d3 := hDm.fr (by exact fr_)
              have hFY : Fr W2 w1 := by exact fr_
              obtain ⟨cA, hbA, hfA, hpA⟩ := hDw.put (i := m) hmN d3[a]!
              refine E_store (o := m * 2) rfl (fun _ _ _ => trivial) rfl rfl hbA (by simp only [Try.SI]; rfl) (by show (itA _).all _ = true; rw [← Array.all_toList]; rfl) hfA rfl ?_
              intro w5 hU5 hB5
              have hD5 := hpA _ hB5
              refine A_idxS ?_
              obtain ⟨cB, hbB, hfB, hpB⟩ := hD5.put (i := a) hda d3[m]!
              refine E_store (o := a * 2) rfl (fun _ _ _ => trivial) rfl rfl hbB (by simp only [Try.SI]; rfl) (by show (itA _).all _ = true; rw [← Array.all_toList]; rfl) hfB rfl ?_
              intro w6 hU6 hB6
              have hD6 := hpB _ hB6
              (refine a_next ?_; refine e_seq fun K1 hK1 => ?_; refine e_region ?_; refine A_move ?_; refine A_assign ?_; refine A_assign ?_; refine a_next ?_; refine a_ret2 ?_)
              exact hR w6 _ rfl hD6 ((((hC3.trans_fr hF2).trans_fr hFY).trans_upd hU5 (.inl rfl)).trans_upd hU6 (.inl rfl))
            · obtain ⟨m', rfl⟩ : ∃ m', m = m' + 1 := ⟨m - 1, by omega⟩
              rw [if_neg (show ¬ k > m' + 1 by omega)] at heq3
              have hmj : m' + 1 ≤ j := by rw [hmeq]; exact Sort.scanDown_le _ _ _ _
              rw [dif_pos (show m' + 1 - 1 + 1 - (k + 1) < j + 1 - i by omega)] at heq3
              have q1 := hDm.get (i := m' + 1) hmN
              have q2 := hDm.get (i := k) (by omega)
              (refine e_seq fun K1 hK1 => ?_; refine e_seq fun K1 hK1 => ?_; refine e_region ?_; refine A_move ?_; refine A_move ?_; refine A_gtr ?_; refine a_next ?_; 
                 refine a_false ?_; refine a_nextC ?_; refine e_seq fun K1 hK1 => ?_; refine a_drawn fun w1 hF1 => ?_; have hz1 := hF1.size; refine A_move ?_; refine A_move ?_; 
                 refine A_move ?_; refine A_move ?_; refine A_move ?_; refine A_move ?_; refine A_idxS ?_; refine A_move ?_; refine A_move ?_; refine A_idxS ?_; refine A_loads ?_; 
                 refine A_loads ?_; refine A_idxS ?_)
              have hDw : Dat w1 g cap N d3 := hDm.fr (by exact fr_)
              have hFY : Fr W2 w1 := by exact fr_
              obtain ⟨cA, hbA, hfA, hpA⟩ := hDw.put (i := k) (by omega) d3[m' + 1]!
              refine E_store (o := k * 2) rfl (fun _ _ _ => trivial) rfl rfl hbA (by simp only [Try.SI]; rfl) (by show (itA _).all _ = true; rw [← Array.all_toList]; rfl) hfA rfl ?_
              intro w5 hU5 hB5
              have hD5 := hpA _ hB5
              refine A_idxS ?_
              obtain ⟨cB, hbB, hfB, hpB⟩ := hD5.put (i := m' + 1) hmN d3[k]!
              refine E_store (o := (m' + 1) * 2) rfl (fun _ _ _ => trivial) rfl rfl hbB (by simp only [Try.SI]; rfl) (by show (itA _).all _ = true; rw [← Array.all_toList]; rfl) hfB rfl ?_
              intro w6 hU6 hB6
              have hD6 := hpB _ hB6
              have hm1 : m' + 1 = m' + 1 := rfl
              (refine a_next ?_; refine e_seq fun K1 hK1 => ?_; refine e_region ?_; refine A_move ?_; refine A_addN1 ?_; refine A_assign ?_; refine a_next ?_; refine e_region ?_; 
                 refine A_move ?_; refine A_subN1 ?_; refine A_assign ?_; refine e_norm_nil ?_; refine e_norm_block ?_)
              exact e_againN (k + 1, m', Sort.swp d3 k (m' + 1)) (by show m' + 1 - (k + 1) < j + 1 - i; omega) ⟨by show a + 1 ≤ k + 1; omega, by show k + 1 ≤ N + 1; omega, by show m' < N; omega, hD6, (((hC3.trans_fr hF2).trans_fr hFY).trans_upd hU5 (.inl rfl)).trans_upd hU6 (.inl rfl), heq3⟩ rfl (by exact sub_)
          clear hK1
          refine e_loop Try.mixed Try.p65 Try.lp65bbbbbbbbbaalabaa Try.hx65bbbbbbbbbaalabaal Try.ok65bbbbbbbbbaalabaal (fun m : Nat => [(0, .slice (some ⟨g, 0, none⟩) N cap), (1, .int .i64 a), (4, .func (.func f) first fc), (12, .int .i64 k), (13, .int .i64 m)])
            (fun m W => m ≤ j ∧ Fr w3 W ∧ Sort.scanDown (fun x => !ltC cf x d3[a]!) d3 k m = Sort.scanDown (fun x => !ltC cf x d3[a]!) d3 k j) (fun m => m) j (by exact sub_) ⟨Nat.le_refl _, hFW, rfl⟩ ?_
          rintro m w4 ⟨hmj, hF4, heq4⟩
          have hz4 := hF4.size
          have hD4 := hD3.fr hF4
          have hK4 := hC.keep _ _ hK (hC3.trans_fr hF4)
          simp only [Try.x65bbbbbbbbbaalabaal]
          by_cases hkm : k ≤ m
          · obtain ⟨m', rfl⟩ : ∃ m', m = m' + 1 := ⟨m - 1, by omega⟩
            have q1 := hD4.get (i := a) hda
            have q2 := hD4.get (i := m' + 1) (by omega)
            (refine e_seq fun K1 hK1 => ?_; refine e_seq fun K1 hK1 => ?_; refine a_drawn fun w1 hF1 => ?_; have hz1 := hF1.size; refine A_move ?_; refine A_move ?_; refine A_leq ?_; 
               refine A_move ?_; refine A_want ?_; refine A_move ?_; refine A_want ?_; refine A_move ?_; refine A_want ?_; refine A_move ?_; refine A_want ?_; refine A_idxS ?_; 
               refine A_want ?_; refine A_move ?_; refine A_want ?_; refine A_move ?_; refine A_want ?_; refine A_idxS ?_; refine A_want ?_; refine A_loads ?_; refine A_want ?_; 
               refine A_loads ?_; refine A_want ?_)
            refine E_callV rfl rfl hC.en rfl fun RR1 hRR1 => ?_
            refine hC.call d3[m' + 1]! d3[a]! _ _ (hC.keep _ _ hK4 ((show Fr w4 _ by exact fr_).ch _)) fun w7 hF7 => ?_
            have hz7 := hF7.size
            refine hRR1 _ _ (by first | assumption | exact trivial) (Nat.le_of_ble_eq_true rfl) ?_; clear hRR1 RR1
            by_cases hc : cf d3[m' + 1]! d3[a]! < 0
            · (refine A_want ?_; refine A_lss ?_; refine A_want ?_; refine A_not ?_; refine A_pick_t ?_; refine a_next ?_; refine a_false ?_; refine e_exit_then ?_; 
               refine e_exit_then ?_; refine e_exit_here ?_)
              exact e_restN (rest2 (m' + 1) w7 (hF4.trans (by exact fr_)) (by rw [← heq4, scanDown_end _ _ _ _ (.inr (by simp [ltC, hc]))]) (by omega)) (by exact sub_)
            · (refine A_want ?_; refine A_lss ?_; refine A_want ?_; refine A_not ?_; refine A_pick_t ?_; refine a_next ?_; refine a_true ?_; refine a_nextC ?_; refine e_block ?_; 
               refine e_region ?_; refine A_move ?_; refine A_subN1 ?_; refine A_assign ?_; refine e_norm_nil ?_; refine e_norm_block ?_)
              exact e_againN m' (Nat.lt_succ_self m') ⟨by show m' ≤ j; omega, hF4.trans (by exact fr_), by rw [← heq4]; exact (scanDown_go _ _ _ _ hkm (Nat.succ_pos _) (by simp [ltC]; omega)).symm⟩ rfl (by exact sub_)
          · (refine e_seq fun K1 hK1 => ?_; refine e_seq fun K1 hK1 => ?_; refine a_drawn fun w1 hF1 => ?_; have hz1 := hF1.size; refine A_move ?_; refine A_move ?_; refine A_leq ?_; 
             refine A_move ?_; refine A_pass ?_; refine A_pass ?_; refine A_pass ?_; refine A_pass ?_; refine A_pass ?_; refine A_pass ?_; refine A_pass ?_; refine A_pass ?_; 
             refine A_pass ?_; refine A_pass ?_; refine A_pass ?_; refine A_pass ?_; refine A_pick_f ?_; refine a_next ?_; refine a_false ?_; refine e_exit_then ?_; 
             refine e_exit_then ?_; refine e_exit_here ?_)
            exact e_restN (rest2 m _ (hF4.trans (by exact fr_)) (by rw [← heq4, scanDown_end _ _ _ _ (.inl hkm)]) (by omega)) (by exact sub_)
        clear hK1
        refine e_loop Try.mixed Try.p65 Try.lp65bbbbbbbbbaalaaa Try.hx65bbbbbbbbbaalaaal Try.ok65bbbbbbbbbaalaaal (fun k : Nat => [(0, .slice (some ⟨g, 0, none⟩) N cap), (1, .int .i64 a), (4, .func (.func f) first fc), (12, .int .i64 k), (13, .int .i64 j)])
          (fun k W => i ≤ k ∧ k ≤ N + 1 ∧ Fr w3 W ∧ Sort.scanUp (fun x => ltC cf x d3[a]!) d3 j k = Sort.scanUp (fun x => ltC cf x d3[a]!) d3 j i) (fun k => N + 2 - k) i (by exact sub_) ⟨Nat.le_refl _, hiN, Fr.refl _, rfl⟩ ?_
        rintro k w4 ⟨hik, hkN, hF4, heq4⟩
        have hz4 := hF4.size
        have hD4 := hD3.fr hF4
        have hK4 := hC.keep _ _ hK (hC3.trans_fr hF4)
        simp only [Try.x65bbbbbbbbbaalaaal]
        by_cases hkj : k ≤ j
        · have q1 := hD4.get (i := a) hda
          have q2 := hD4.get (i := k) (by omega)
          (refine e_seq fun K1 hK1 => ?_; refine e_seq fun K1 hK1 => ?_; refine a_drawn fun w1 hF1 => ?_; have hz1 := hF1.size; refine A_move ?_; refine A_move ?_; refine A_leq ?_; 
             refine A_move ?_; refine A_want ?_; refine A_move ?_; refine A_want ?_; refine A_move ?_; refine A_want ?_; refine A_move ?_; refine A_want ?_; refine A_idxS ?_; 
             refine A_want ?_; refine A_move ?_; refine A_want ?_; refine A_move ?_; refine A_want ?_; refine A_idxS ?_; refine A_want ?_; refine A_loads ?_; refine A_want ?_; 
             refine A_loads ?_; refine A_want ?_)
          refine E_callV rfl rfl hC.en rfl fun RR1 hRR1 => ?_
          refine hC.call d3[k]! d3[a]! _ _ (hC.keep _ _ hK4 ((show Fr w4 _ by exact fr_).ch _)) fun w7 hF7 => ?_
          have hz7 := hF7.size
          refine hRR1 _ _ (by first | assumption | exact trivial) (Nat.le_of_ble_eq_true rfl) ?_; clear hRR1 RR1
          by_cases hc : cf d3[k]! d3[a]! < 0
          · (refine A_want ?_; refine A_lss ?_; refine A_pick_t ?_; refine a_next ?_; refine a_true ?_; refine a_nextC ?_; refine e_block ?_; refine e_region ?_; refine A_move ?_; 
             refine A_addN1 ?_; refine A_assign ?_; refine e_norm_nil ?_; refine e_norm_block ?_)
            exact e_againN (k + 1) (by omega) ⟨by omega, by omega, hF4.trans (by exact fr_), by rw [← heq4]; exact (scanUp_go _ _ _ _ hkj (by simp [ltC, hc])).symm⟩ rfl (by exact sub_)
          · (refine A_want ?_; refine A_lss ?_; refine A_pick_t ?_; refine a_next ?_; refine a_false ?_; refine e_exit_then ?_; refine e_exit_then ?_; refine e_exit_here ?_)
            exact e_restN (rest1 k w7 (hF4.trans (by exact fr_)) (by rw [← heq4, scanUp_end _ _ _ _ (.inr (by simp [ltC]; omega))]) hik hkN) (by exact sub_)
        · (refine e_seq fun K1 hK1 => ?_; refine e_seq fun K1 hK1 => ?_; refine a_drawn fun w1 hF1 => ?_; have hz1 := hF1.size; refine A_move ?_; refine A_move ?_; refine A_leq ?_; 
           refine A_move ?_; refine A_pass ?_; refine A_pass ?_; refine A_pass ?_; refine A_pass ?_; refine A_pass ?_; refine A_pass ?_; refine A_pass ?_; refine A_pass ?_; 
           refine A_pass ?_; refine A_pass ?_; refine A_pass ?_; refine A_pick_f ?_; refine a_next ?_; refine a_false ?_; refine e_exit_then ?_; refine e_exit_then ?_; 
           refine e_exit_here ?_)
          exact e_restN (rest1 k _ (hF4.trans (by exact fr_)) (by rw [← heq4, scanUp_end _ _ _ _ (.inl hkj)]) hik hkN) (by exact sub_)
    clear hK1
    refine e_loop Try.mixed Try.p65 Try.lp65bbbbaa Try.hx65bbbbaal Try.ok65bbbbaal (fun m : Nat => [(0, .slice (some ⟨g, 0, none⟩) N cap), (1, .int .i64 a), (4, .func (.func f) first fc), (12, .int .i64 k), (13, .int .i64 m)])
      (fun m W => m ≤ j ∧ Fr w3 W ∧ Sort.scanDown (fun x => !ltC cf x d3[a]!) d3 k m = Sort.scanDown (fun x => !ltC cf x d3[a]!) d3 k j) (fun m => m) j (by exact sub_) ⟨Nat.le_refl _, hFW, rfl⟩ ?_
    rintro m w4 ⟨hmj, hF4, heq4⟩
    have hz4 := hF4.size
    have hD4 := hD3.fr hF4
    have hK4 := hC.keep _ _ hK (hC3.trans_fr hF4)
    simp only [Try.x65bbbbaal]
    by_cases hkm : k ≤ m
    · obtain ⟨m', rfl⟩ : ∃ m', m = m' + 1 := ⟨m - 1, by omega⟩
      have q1 := hD4.get (i := a) hda
      have q2 := hD4.get (i := m' + 1) (by omega)
      (refine e_seq fun K1 hK1 => ?_; refine e_seq fun K1 hK1 => ?_; refine a_drawn fun w1 hF1 => ?_; have hz1 := hF1.size; refine A_move ?_; refine A_move ?_; refine A_leq ?_; 
         refine A_move ?_; refine A_want ?_; refine A_move ?_; refine A_want ?_; refine A_move ?_; refine A_want ?_; refine A_move ?_; refine A_want ?_; refine A_idxS ?_; 
         refine A_want ?_; refine A_move ?_; refine A_want ?_; refine A_move ?_; refine A_want ?_; refine A_idxS ?_; refine A_want ?_; refine A_loads ?_; refine A_want ?_; 
         refine A_loads ?_; refine A_want ?_)
      refine E_callV rfl rfl hC.en rfl fun RR1 hRR1 => ?_
      refine hC.call d3[m' + 1]! d3[a]! _ _ (hC.keep _ _ hK4 ((show Fr w4 _ by exact fr_).ch _)) fun w7 hF7 => ?_
      have hz7 := hF7.size
      refine hRR1 _ _ (by first | assumption | exact trivial) (Nat.le_of_ble_eq_true rfl) ?_; clear hRR1 RR1
      by_cases hc : cf d3[m' + 1]! d3[a]! < 0
      · (refine A_want ?_; refine A_lss ?_; refine A_want ?_; refine A_not ?_; refine A_pick_t ?_; refine a_next ?_; refine a_false ?_; refine e_exit_then ?_; 
         refine e_exit_then ?_; refine e_exit_here ?_)
        exact e_restN (rest2 (m' + 1) w7 (hF4.trans (by exact fr_)) (by rw [← heq4, scanDown_end _ _ _ _ (.inr (by simp [ltC, hc]))]) (by omega)) (by exact sub_)
      · (refine A_want ?_; refine A_lss ?_; refine A_want ?_; refine A_not ?_; refine A_pick_t ?_; refine a_next ?_; refine a_true ?_; refine a_nextC ?_; refine e_block ?_; 
         refine e_region ?_; refine A_move ?_; refine A_subN1 ?_; refine A_assign ?_; refine e_norm_nil ?_; refine e_norm_block ?_)
        exact e_againN m' (Nat.lt_succ_self m') ⟨by show m' ≤ j; omega, hF4.trans (by exact fr_), by rw [← heq4]; exact (scanDown_go _ _ _ _ hkm (Nat.succ_pos _) (by simp [ltC]; omega)).symm⟩ rfl (by exact sub_)
    · (refine e_seq fun K1 hK1 => ?_; refine e_seq fun K1 hK1 => ?_; refine a_drawn fun w1 hF1 => ?_; have hz1 := hF1.size; refine A_move ?_; refine A_move ?_; refine A_leq ?_; 
       refine A_move ?_; refine A_pass ?_; refine A_pass ?_; refine A_pass ?_; refine A_pass ?_; refine A_pass ?_; refine A_pass ?_; refine A_pass ?_; refine A_pass ?_; 
       refine A_pass ?_; refine A_pass ?_; refine A_pass ?_; refine A_pass ?_; refine A_pick_f ?_; refine a_next ?_; refine a_false ?_; refine e_exit_then ?_; 
       refine e_exit_then ?_; refine e_exit_here ?_)
      exact e_restN (rest2 m _ (hF4.trans (by exact fr_)) (by rw [← heq4, scanDown_end _ _ _ _ (.inl hkm)]) (by omega)) (by exact sub_)
  clear hK1
  refine e_loop Try.mixed Try.p65 Try.lp65bbbaa Try.hx65bbbaal Try.ok65bbbaal (fun k : Nat => [(0, .slice (some ⟨g, 0, none⟩) N cap), (1, .int .i64 a), (4, .func (.func f) first fc), (12, .int .i64 k), (13, .int .i64 j)])
    (fun k W => i ≤ k ∧ k ≤ N + 1 ∧ Fr w3 W ∧ Sort.scanUp (fun x => ltC cf x d3[a]!) d3 j k = Sort.scanUp (fun x => ltC cf x d3[a]!) d3 j i) (fun k => N + 2 - k) i (by exact sub_) ⟨Nat.le_refl _, hiN, Fr.refl _, rfl⟩ ?_
  rintro k w4 ⟨hik, hkN, hF4, heq4⟩
  have hz4 := hF4.size
  have hD4 := hD3.fr hF4
  have hK4 := hC.keep _ _ hK (hC3.trans_fr hF4)
  simp only [Try.x65bbbaal]
  by_cases hkj : k ≤ j
  · have q1 := hD4.get (i := a) hda
    have q2 := hD4.get (i := k) (by omega)
    (refine e_seq fun K1 hK1 => ?_; refine e_seq fun K1 hK1 => ?_; refine a_drawn fun w1 hF1 => ?_; have hz1 := hF1.size; refine A_move ?_; refine A_move ?_; refine A_leq ?_; 
       refine A_move ?_; refine A_want ?_; refine A_move ?_; refine A_want ?_; refine A_move ?_; refine A_want ?_; refine A_move ?_; refine A_want ?_; refine A_idxS ?_; 
       refine A_want ?_; refine A_move ?_; refine A_want ?_; refine A_move ?_; refine A_want ?_; refine A_idxS ?_; refine A_want ?_; refine A_loads ?_; refine A_want ?_; 
       refine A_loads ?_; refine A_want ?_)
    refine E_callV rfl rfl hC.en rfl fun RR1 hRR1 => ?_
    refine hC.call d3[k]! d3[a]! _ _ (hC.keep _ _ hK4 ((show Fr w4 _ by exact fr_).ch _)) fun w7 hF7 => ?_
    have hz7 := hF7.size
    refine hRR1 _ _ (by first | assumption | exact trivial) (Nat.le_of_ble_eq_true rfl) ?_; clear hRR1 RR1
    by_cases hc : cf d3[k]! d3[a]! < 0
    · (refine A_want ?_; refine A_lss ?_; refine A_pick_t ?_; refine a_next ?_; refine a_true ?_; refine a_nextC ?_; refine e_block ?_; refine e_region ?_; refine A_move ?_; 
       refine A_addN1 ?_; refine A_assign ?_; refine e_norm_nil ?_; refine e_norm_block ?_)
      exact e_againN (k + 1) (by omega) ⟨by omega, by omega, hF4.trans (by exact fr_), by rw [← heq4]; exact (scanUp_go _ _ _ _ hkj (by simp [ltC, hc])).symm⟩ rfl (by exact sub_)
    · (refine A_want ?_; refine A_lss ?_; refine A_pick_t ?_; refine a_next ?_; refine a_false ?_; refine e_exit_then ?_; refine e_exit_then ?_; refine e_exit_here ?_)
      exact e_restN (rest1 k w7 (hF4.trans (by exact fr_)) (by rw [← heq4, scanUp_end _ _ _ _ (.inr (by simp [ltC]; omega))]) hik hkN) (by exact sub_)
  · (refine e_seq fun K1 hK1 => ?_; refine e_seq fun K1 hK1 => ?_; refine a_drawn fun w1 hF1 => ?_; have hz1 := hF1.size; refine A_move ?_; refine A_move ?_; refine A_leq ?_; 
     refine A_move ?_; refine A_pass ?_; refine A_pass ?_; refine A_pass ?_; refine A_pass ?_; refine A_pass ?_; refine A_pass ?_; refine A_pass ?_; refine A_pass ?_; 
     refine A_pass ?_; refine A_pass ?_; refine A_pass ?_; refine A_pick_f ?_; refine a_next ?_; refine a_false ?_; refine e_exit_then ?_; refine e_exit_then ?_; 
     refine e_exit_here ?_)
    exact e_restN (rest1 k _ (hF4.trans (by exact fr_)) (by rw [← heq4, scanUp_end _ _ _ _ (.inl hkj)]) hik hkN) (by exact sub_)
end
end Go.Proofs.Ytjocklgihjbaiaa
end
section
/- Sorting of items: partialInsertionSortCmpFunc. -/
namespace Go.Proofs.Ytjocklgihjbaiaa
open Go.RowKit
theorem scanSorted_go {lt : It → It → Bool} {d : Array It} {b i : Nat} (h : i < b) (hc : lt d[i]! d[i - 1]! = false) : Sort.scanSorted lt d b i = Sort.scanSorted lt d b (i + 1) := by
  rw [Sort.scanSorted, if_pos (by simp [h, hc])]
theorem scanSorted_end {lt : It → It → Bool} {d : Array It} {b i : Nat} (h : ¬ i < b ∨ lt d[i]! d[i - 1]! = true) : Sort.scanSorted lt d b i = i := by
  rw [Sort.scanSorted, if_neg]
  rcases h with h | h
  · simp [h]
  · simp [h]
section
variable {f : FuncId} {first fc : Array Value} {cf : It → It → Int} {g cap N : Nat} {K : World → Prop} (hC : CmpV Try.prog f first fc cf g K)
include hC
set_option maxRecDepth 10000 in
set_option maxHeartbeats 4000000 in
theorem partialIns63 (a b : Nat) (d : Array It) (w : World) (RR : Ending → World → Prop) (hD : Dat w g cap N d) (hK : K w) (hb : b ≤ N) (hab : a < b) (hN2 : 4 * N + 8 < 9223372036854775807)
    (hR : ∀ w' r, r = Sort.partialInsertionSort (ltC cf) d a b → Dat w' g cap N r.1 → Ch (fun k => k = g) w w' → RR (.returned (.bool r.2)) w') :
    Calls Try.prog 63 #[.slice (some ⟨g, 0, none⟩) N cap, .int .i64 a, .int .i64 b, .func (.func f) first fc] w RR := by
  refine e_enter (n := ⟨141, []⟩) Try.mixed Try.func63 Try.p63 Try.x63 Try.fb63 Try.hx63 Try.ok63 rfl rfl (by simp) ?_; simp only [Try.x63, argEnv, Nat.zero_add, Nat.reduceAdd]
  (refine e_seq fun K1 hK1 => ?_; refine e_region ?_; refine A_assign ?_; refine a_next ?_; refine e_seq fun K1 hK1 => ?_; refine e_region ?_; refine A_move ?_; 
     refine A_addN1 ?_; refine A_assign ?_; refine a_next ?_; refine e_seq fun K1 hK1 => ?_; refine e_seq fun K1 hK1 => ?_; refine e_region ?_; refine A_assign ?_; 
     refine a_next ?_; refine e_block ?_)
  refine e_loop Try.mixed Try.p63 Try.lp63bbaba Try.hx63bbabal Try.ok63bbabal (fun q : Nat × Nat × Array It => [(0, .slice (some ⟨g, 0, none⟩) N cap), (1, .int .i64 a), (2, .int .i64 b), (3, .func (.func f) first fc), (9, .int .i64 q.2.1), (10, .int .i64 q.1)])
    (fun q W => q.1 ≤ 5 ∧ a + 1 ≤ q.2.1 ∧ q.2.1 ≤ b ∧ Dat W g cap N q.2.2 ∧ Ch (fun k => k = g) w W ∧ Sort.partialIns (ltC cf) a b (5 - q.1) q.2.1 q.2.2 = Sort.partialInsertionSort (ltC cf) d a b) (fun q => 5 - q.1) (0, a + 1, d) (by exact sub_)
    ⟨Nat.zero_le _, Nat.le_refl _, hab, hD, Ch.refl _ _, rfl⟩ ?_
  rintro ⟨s, i, d3⟩ w3 ⟨hs5, hai, hib, hD3, hC3, heq3⟩
  simp only at hs5 hai hib hD3 heq3
  simp only [Try.x63bbabal]
  by_cases hs : s < 5
  · (refine e_seq fun K1 hK1 => ?_; refine e_seq fun K1 hK1 => ?_; refine e_region ?_; refine A_move ?_; refine A_lss ?_; refine a_next ?_; refine a_true ?_; 
     refine a_nextC ?_; refine e_seq fun K1 hK1 => ?_; refine e_block ?_; refine e_seq fun K1 hK1 => ?_; refine e_block ?_)
    rename_i Kj hKj
    obtain ⟨sl, hsl⟩ : ∃ sl, 5 - s = sl + 1 := ⟨5 - s - 1, by omega⟩
    have rest1 : ∀ (k : Nat) (W : World), Fr w3 W → k = Sort.scanSorted (ltC cf) d3 b i → i ≤ k → k ≤ b →
        ∀ act, Agrees ⟨141, []⟩ act ([(0, .slice (some ⟨g, 0, none⟩) N cap), (1, .int .i64 a), (2, .int .i64 b), (3, .func (.func f) first fc), (9, .int .i64 k), (10, .int .i64 s)]) → K1 act W := by
      intro k W hFW hkeq hik hkb
      have hzW := hFW.size
      refine later_of hK1 ?_
      rw [hsl, Sort.partialIns] at heq3
      simp only [← hkeq] at heq3
      by_cases hkb2 : k = b
      · rw [if_pos hkb2] at heq3
        (refine e_seq fun K1 hK1 => ?_; refine e_seq fun K1 hK1 => ?_; refine e_region ?_; refine A_move ?_; refine A_move ?_; refine A_eql ?_; refine a_next ?_; refine a_true ?_; 
           refine e_seq fun K1 hK1 => ?_; refine e_region ?_; refine A_assign ?_; refine a_next ?_; refine e_ret_then ?_; refine e_ret_block ?_; refine e_ret_then ?_; 
           refine e_ret_then ?_; refine e_ret_block ?_; refine e_ret_then ?_; refine a_ret1 ?_)
        exact hR W _ heq3 (hD3.fr hFW) (hC3.trans_fr hFW)
      · rw [if_neg hkb2] at heq3
        by_cases h50 : b - a < 50
        · rw [if_pos h50] at heq3
          (refine e_seq fun K1 hK1 => ?_; refine e_seq fun K1 hK1 => ?_; refine e_region ?_; refine A_move ?_; refine A_move ?_; refine A_eql ?_; refine a_next ?_; 
             refine a_false ?_; refine a_nextC ?_; refine e_seq fun K1 hK1 => ?_; refine e_seq fun K1 hK1 => ?_; refine e_region ?_; refine A_move ?_; refine A_move ?_; 
             refine A_subN ?_; refine A_lss ?_; refine a_next ?_; refine a_true ?_; refine e_seq fun K1 hK1 => ?_; refine e_region ?_; refine A_assign ?_; refine a_next ?_; 
             refine e_ret_then ?_; refine e_ret_block ?_; refine e_ret_then ?_; refine e_ret_then ?_; refine e_ret_block ?_; refine e_ret_then ?_; refine a_ret1 ?_)
          exact hR W _ heq3 (hD3.fr hFW) (hC3.trans_fr hFW)
        · rw [if_neg h50] at heq3
          obtain ⟨k', rfl⟩ : ∃ k', k = k' + 1 := ⟨k - 1, by omega⟩
          simp only [Nat.add_sub_cancel] at heq3
          have hDm := hD3.fr hFW
          have q1 := hDm.get (i := k') (by omega)
          have q2 := hDm.get (i := k' + 1) (by omega)
          have hm1 : k' + 1 = k' + 1 := rfl
          (refine e_seq fun K1 hK1 => ?_; refine e_seq fun K1 hK1 => ?_; refine e_region ?_; refine A_move ?_; refine A_move ?_; refine A_eql ?_; refine a_next ?_; 
             refine a_false ?_; refine a_nextC ?_; refine e_seq fun K1 hK1 => ?_; refine e_seq fun K1 hK1 => ?_; refine e_region ?_; refine A_move ?_; refine A_move ?_; 
             refine A_subN ?_; refine A_lss ?_; refine a_next ?_; refine a_false ?_; refine a_nextC ?_; refine e_seq fun K1 hK1 => ?_; 
             refine a_drawn fun w1 hF1 => ?_; have hz1 := hF1.size; refine A_move ?_; refine A_move ?_; refine A_move ?_; refine A_move ?_; refine A_subN1 ?_; refine A_move ?_; 
             refine A_move ?_; refine A_subN1 ?_; refine A_idxS ?_; refine A_move ?_; refine A_move ?_; refine A_idxS ?_; refine A_loads ?_; refine A_loads ?_; refine A_idxS ?_)
          have hDw : Dat w1 g cap N d3 := hDm.fr (by exact fr_)
          have hFY : Fr W w1 := by exact fr_
          obtain ⟨cA, hbA, hfA, hpA⟩ := hDw.put (i := k' + 1) (by omega) d3[k']!
          refine E_store (o := (k' + 1) * 2) rfl (fun _ _ _ => trivial) rfl rfl hbA (by simp only [Try.SI]; rfl) (by show (itA _).all _ = true; rw [← Array.all_toList]; rfl) hfA rfl ?_
          intro w5 hU5 hB5
          have hD5 := hpA _ hB5
          refine A_idxS ?_
          obtain ⟨cB, hbB, hfB, hpB⟩ := hD5.put (i := k') (by omega) d3[k' + 1]!
          refine E_store (o := (k') * 2) rfl (fun _ _ _ => trivial) rfl rfl hbB (by simp only [Try.SI]; rfl) (by show (itA _).all _ = true; rw [← Array.all_toList]; rfl) hfB rfl ?_
          intro w6 hU6 hB6
          have hD6 := hpB _ hB6
          have hC6 := (((hC3.trans_fr hFW).trans_fr hFY).trans_upd hU5 (.inl rfl)).trans_upd hU6 (.inl rfl)
          clear hU5 hU6 hF1
          obtain ⟨d4, hd4⟩ : ∃ d4, d4 = Sort.swp d3 (k' + 1) k' := ⟨_, rfl⟩
          rw [← hd4] at heq3
          have hD4 : Dat w6 g cap N d4 := by rw [hd4]; exact hD6
          clear hd4 hD6
          (refine a_next ?_; refine e_seq fun K1 hK1 => ?_; refine e_seq fun K1 hK1 => ?_; refine e_region ?_; refine A_move ?_; refine A_move ?_; refine A_subN ?_; refine A_geq ?_; 
             refine a_next ?_)
          rename_i Kb hKb
          clear hK1
          have rest2 : ∀ (W : World) (d5 : Array It), Dat W g cap N d5 → Ch (fun k => k = g) w W → (if k' + 1 - a ≥ 2 then Sort.shiftDown (ltC cf) k' d4 else d4) = d5 →
              ∀ act, Agrees ⟨141, []⟩ act ([(0, .slice (some ⟨g, 0, none⟩) N cap), (1, .int .i64 a), (2, .int .i64 b), (3, .func (.func f) first fc), (9, .int .i64 (k' + 1 : Nat)), (10, .int .i64 s)]) → Kb act W := by
            intro W5 d5 hD5 hC5 hd5
            refine later_of hKb ?_
            clear hKb
            rw [hd5] at heq3
            by_cases h2 : b - (k' + 1) ≥ 2
            · rw [if_pos h2] at heq3
              (refine e_seq fun K1 hK1 => ?_; refine e_region ?_; refine A_move ?_; refine A_move ?_; refine A_subN ?_; refine A_geq ?_; refine a_next ?_; refine a_true ?_; 
                 refine e_seq fun K1 hK1 => ?_; refine e_region ?_; refine A_move ?_; refine A_addN1 ?_; refine A_assign ?_; refine a_next ?_; refine e_block ?_)
              have rest3 : ∀ (W : World) (d6 : Array It), Dat W g cap N d6 → Ch (fun k => k = g) w W → Sort.shiftUp (ltC cf) b (k' + 1 + 1) d5 = d6 →
                  ∀ act, Agrees ⟨141, []⟩ act ([(0, .slice (some ⟨g, 0, none⟩) N cap), (1, .int .i64 a), (2, .int .i64 b), (3, .func (.func f) first fc), (9, .int .i64 (k' + 1 : Nat)), (10, .int .i64 s)]) → Kj act W := by
                intro W6 d6 hD6 hC6 hd6
                refine later_of hKj ?_
                rw [hd6] at heq3
                (refine e_region ?_; refine A_move ?_; refine A_addN1 ?_; refine A_assign ?_; refine e_norm_nil ?_)
                exact e_againN (s + 1, k' + 1, d6) (by show 5 - (s + 1) < 5 - s; omega) ⟨by show s + 1 ≤ 5; omega, by show a + 1 ≤ k' + 1; omega, hkb, hD6, hC6, by rw [← heq3]; show Sort.partialIns _ a b (5 - (s + 1)) _ _ = _; rw [show 5 - (s + 1) = sl by omega]⟩ rfl (by exact sub_)
              clear hKj
              refine e_loop Try.mixed Try.p63 Try.lp63bbabalbaabbbbbbaba Try.hx63bbabalbaabbbbbbabal Try.ok63bbabalbaabbbbbbabal (fun q : Nat × Array It => [(0, .slice (some ⟨g, 0, none⟩) N cap), (1, .int .i64 a), (2, .int .i64 b), (3, .func (.func f) first fc), (9, .int .i64 (k' + 1 : Nat)), (10, .int .i64 s), (12, .int .i64 q.1)])
                (fun q W => k' + 2 ≤ q.1 ∧ q.1 ≤ b ∧ Dat W g cap N q.2 ∧ Ch (fun k => k = g) w W ∧ Sort.shiftUp (ltC cf) b q.1 q.2 = Sort.shiftUp (ltC cf) b (k' + 1 + 1) d5) (fun q => b - q.1) (k' + 1 + 1, d5) (by exact sub_)
                ⟨Nat.le_refl _, by show k' + 1 + 1 ≤ b; omega, hD5, hC5, rfl⟩ ?_
              rintro ⟨j, d7⟩ w7 ⟨hkj, hjb, hD7, hC7, heq7⟩
              simp only at hkj hjb hD7 heq7
              have hK7 := hC.keep _ _ hK hC7
              simp only [Try.x63bbabalbaabbbbbbabal]
              by_cases hjb2 : j < b
              · obtain ⟨j', rfl⟩ : ∃ j', j = j' + 1 := ⟨j - 1, by omega⟩
                rw [Sort.shiftUp, if_pos hjb2] at heq7
                simp only [Nat.add_sub_cancel] at heq7
                have u1 := hD7.get (i := j' + 1) (by omega)
                have u2 := hD7.get (i := j') (by omega)
                have hm1 : j' + 1 = j' + 1 := rfl
                (refine e_seq fun K1 hK1 => ?_; refine e_seq fun K1 hK1 => ?_; refine e_region ?_; refine A_move ?_; refine A_move ?_; refine A_lss ?_; refine a_next ?_; refine a_true ?_; 
                   refine a_nextC ?_; refine e_seq fun K1 hK1 => ?_; refine e_block ?_; refine e_seq fun K1 hK1 => ?_; refine e_seq fun K1 hK1 => ?_; 
                   refine a_drawn fun w1 hF1 => ?_; have hz1 := hF1.size; refine A_move ?_; refine A_move ?_; refine A_move ?_; refine A_idxS ?_; refine A_move ?_; refine A_move ?_; 
                   refine A_subN1 ?_; refine A_idxS ?_; refine A_loads ?_; refine A_loads ?_)
                refine E_callV rfl rfl hC.en rfl fun RR1 hRR1 => ?_
                refine hC.call d7[j' + 1]! d7[j']! _ _ (hC.keep _ _ hK7 ((show Fr w7 _ by exact fr_).ch _)) fun w8 hF8 => ?_
                have hz8 := hF8.size
                refine hRR1 _ _ (by first | assumption | exact trivial) (Nat.le_of_ble_eq_true rfl) ?_; clear hRR1 RR1
                by_cases hc : cf d7[j' + 1]! d7[j']! < 0
                · rw [if_neg (by simp [ltC, hc])] at heq7
                  have hFX : Fr w7 w8 := by exact fr_
                  have hD8 := hD7.fr hFX
                  have u3 := hD8.get (i := j' + 1) (by omega)
                  have u4 := hD8.get (i := j') (by omega)
                  clear u1 u2
                  (refine A_lss ?_; refine A_not ?_; refine a_next ?_; refine a_false ?_; refine a_nextC ?_)
                  clear hF1
                  ((with_reducible apply e_drawn); (focus (intro _ _ _ d1 _ h1; cases d1 <;> exact h1)); intro w1 hF1; have hz1 := hF1.size)
                  (refine A_move ?_; refine A_move ?_; refine A_move ?_; refine A_move ?_; refine A_subN1 ?_; refine A_move ?_; refine A_move ?_; refine A_subN1 ?_; refine A_idxS ?_; 
                     refine A_move ?_; refine A_move ?_; refine A_idxS ?_; refine A_loads ?_; refine A_loads ?_; refine A_idxS ?_)
                  have hDw : Dat w1 g cap N d7 := hD8.fr (by exact fr_)
                  have hFY : Fr w8 w1 := by exact fr_
                  obtain ⟨cA, hbA, hfA, hpA⟩ := hDw.put (i := j' + 1) (by omega) d7[j']!
                  refine E_store (o := (j' + 1) * 2) rfl (fun _ _ _ => trivial) rfl rfl hbA (by simp only [Try.SI]; rfl) (by show (itA _).all _ = true; rw [← Array.all_toList]; rfl) hfA rfl ?_
                  intro w5 hU5 hB5
                  have hD5 := hpA _ hB5
                  refine A_idxS ?_
                  obtain ⟨cB, hbB, hfB, hpB⟩ := hD5.put (i := j') (by omega) d7[j' + 1]!
                  refine E_store (o := (j') * 2) rfl (fun _ _ _ => trivial) rfl rfl hbB (by simp only [Try.SI]; rfl) (by show (itA _).all _ = true; rw [← Array.all_toList]; rfl) hfB rfl ?_
                  intro w6 hU6 hB6
                  have hD6 := hpB _ hB6
                  (refine e_norm_nil ?_; refine e_norm_block ?_; refine a_norm_then ?_; refine e_region ?_; refine A_move ?_; refine A_addN1 ?_; refine A_assign ?_; refine e_norm_nil ?_)
                  exact e_againN (j' + 1 + 1, Sort.swp d7 (j' + 1) j') (by show b - (j' + 1 + 1) < b - (j' + 1); omega) ⟨by show k' + 2 ≤ j' + 1 + 1; omega, by show j' + 1 + 1 ≤ b; omega, hD6, (((hC7.trans_fr hFX).trans_fr hFY).trans_upd hU5 (.inl rfl)).trans_upd hU6 (.inl rfl), heq7⟩ rfl (by exact sub_)
                · rw [if_pos (by simp [ltC]; omega)] at heq7
                  (refine A_lss ?_; refine A_not ?_; refine a_next ?_; refine a_true ?_; refine e_exit_then ?_; refine a_exit_on ?_; refine e_exit_then ?_; refine e_exit_then ?_; 
                     refine e_exit_here ?_; refine e_norm_block ?_)
                  have hFX : Fr w7 w8 := by exact fr_
                  exact e_restN (rest3 w8 d7 (hD7.fr hFX) (hC7.trans_fr hFX) heq7.symm) (by exact sub_)
              · rw [Sort.shiftUp, if_neg hjb2] at heq7
                (refine e_seq fun K1 hK1 => ?_; refine e_seq fun K1 hK1 => ?_; refine e_region ?_; refine A_move ?_; refine A_move ?_; refine A_lss ?_; refine a_next ?_; 
                   refine a_false ?_; refine e_exit_then ?_; refine e_exit_then ?_; refine e_exit_here ?_; refine e_norm_block ?_)
                exact e_restN (rest3 _ d7 (hD7.fr (by exact fr_)) (hC7.trans_fr (by exact fr_)) heq7.symm) (by exact sub_)
            · rw [if_neg h2] at heq3
              (refine e_seq fun K1 hK1 => ?_; refine e_region ?_; refine A_move ?_; refine A_move ?_; refine A_subN ?_; refine A_geq ?_; refine a_next ?_; refine a_false ?_; 
                 refine e_norm_skip ?_; refine e_norm_block ?_; refine a_norm_then ?_; refine e_region ?_; refine A_move ?_; refine A_addN1 ?_; refine A_assign ?_; refine e_norm_nil ?_)
              exact e_againN (s + 1, k' + 1, d5) (by show 5 - (s + 1) < 5 - s; omega) ⟨by show s + 1 ≤ 5; omega, by show a + 1 ≤ k' + 1; omega, hkb, hD5, hC5, by rw [← heq3]; show Sort.partialIns _ a b (5 - (s + 1)) _ _ = _; rw [show 5 - (s + 1) = sl by omega]⟩ rfl (by exact sub_)
          by_cases h2 : k' + 1 - a ≥ 2
          · (refine a_true ?_; refine e_seq fun K1 hK1 => ?_; refine e_region ?_; refine A_move ?_; refine A_subN1 ?_; refine A_assign ?_; refine a_next ?_; refine e_block ?_)
            clear hKb
            refine e_loop Try.mixed Try.p63 Try.lp63bbabalbaabbbbababa Try.hx63bbabalbaabbbbababal Try.ok63bbabalbaabbbbababal (fun q : Nat × Array It => [(0, .slice (some ⟨g, 0, none⟩) N cap), (1, .int .i64 a), (2, .int .i64 b), (3, .func (.func f) first fc), (9, .int .i64 (k' + 1 : Nat)), (10, .int .i64 s), (11, .int .i64 q.1)])
              (fun q W => q.1 ≤ k' ∧ Dat W g cap N q.2 ∧ Ch (fun k => k = g) w W ∧ Sort.shiftDown (ltC cf) q.1 q.2 = Sort.shiftDown (ltC cf) k' d4) (fun q => q.1) (k', d4) (by exact sub_)
              ⟨Nat.le_refl _, hD4, hC6.trans_fr (by exact fr_), rfl⟩ ?_
            rintro ⟨j, d7⟩ w7 ⟨hjk, hD7, hC7, heq7⟩
            simp only at hjk hD7 heq7
            have hK7 := hC.keep _ _ hK hC7
            simp only [Try.x63bbabalbaabbbbababal]
            rw [if_pos h2] at rest2
            by_cases hj1 : 1 ≤ j
            · obtain ⟨j', rfl⟩ : ∃ j', j = j' + 1 := ⟨j - 1, by omega⟩
              rw [Sort.shiftDown] at heq7
              have u1 := hD7.get (i := j' + 1) (by omega)
              have u2 := hD7.get (i := j') (by omega)
              have hm1 : j' + 1 = j' + 1 := rfl
              (refine e_seq fun K1 hK1 => ?_; refine e_seq fun K1 hK1 => ?_; refine e_region ?_; refine A_move ?_; refine A_geq ?_; refine a_next ?_; refine a_true ?_; 
                 refine a_nextC ?_; refine e_seq fun K1 hK1 => ?_; refine e_block ?_; refine e_seq fun K1 hK1 => ?_; refine e_seq fun K1 hK1 => ?_; 
                 refine a_drawn fun w1 hF1 => ?_; have hz1 := hF1.size; refine A_move ?_; refine A_move ?_; refine A_move ?_; refine A_idxS ?_; refine A_move ?_; refine A_move ?_; 
                 refine A_subN1 ?_; refine A_idxS ?_; refine A_loads ?_; refine A_loads ?_)
              refine E_callV rfl rfl hC.en rfl fun RR1 hRR1 => ?_
              refine hC.call d7[j' + 1]! d7[j']! _ _ (hC.keep _ _ hK7 ((show Fr w7 _ by exact fr_).ch _)) fun w8 hF8 => ?_
              have hz8 := hF8.size
              refine hRR1 _ _ (by first | assumption | exact trivial) (Nat.le_of_ble_eq_true rfl) ?_; clear hRR1 RR1
              by_cases hc : cf d7[j' + 1]! d7[j']! < 0
              · rw [if_neg (by simp [ltC, hc])] at heq7
                have hFX : Fr w7 w8 := by exact fr_
                have hD8 := hD7.fr hFX
                have u3 := hD8.get (i := j' + 1) (by omega)
                have u4 := hD8.get (i := j') (by omega)
                clear u1 u2
                (refine A_lss ?_; refine A_not ?_; refine a_next ?_; refine a_false ?_; refine a_nextC ?_)
                clear hF1
                ((with_reducible apply e_drawn); (focus (intro _ _ _ d1 _ h1; cases d1 <;> exact h1)); intro w1 hF1; have hz1 := hF1.size)
                (refine A_move ?_; refine A_move ?_; refine A_move ?_; refine A_move ?_; refine A_subN1 ?_; refine A_move ?_; refine A_move ?_; refine A_subN1 ?_; refine A_idxS ?_; 
                   refine A_move ?_; refine A_move ?_; refine A_idxS ?_; refine A_loads ?_; refine A_loads ?_; refine A_idxS ?_)
                have hDw : Dat w1 g cap N d7 := hD8.fr (by exact fr_)
                have hFY : Fr w8 w1 := by exact fr_
                obtain ⟨cA, hbA, hfA, hpA⟩ := hDw.put (i := j' + 1) (by omega) d7[j']!
                refine E_store (o := (j' + 1) * 2) rfl (fun _ _ _ => trivial) rfl rfl hbA (by simp only [Try.SI]; rfl) (by show (itA _).all _ = true; rw [← Array.all_toList]; rfl) hfA rfl ?_
                intro w5 hU5 hB5
                have hD5 := hpA _ hB5
                refine A_idxS ?_
                obtain ⟨cB, hbB, hfB, hpB⟩ := hD5.put (i := j') (by omega) d7[j' + 1]!
                refine E_store (o := (j') * 2) rfl (fun _ _ _ => trivial) rfl rfl hbB (by simp only [Try.SI]; rfl) (by show (itA _).all _ = true; rw [← Array.all_toList]; rfl) hfB rfl ?_
                intro w6 hU6 hB6
                have hD6 := hpB _ hB6
                (refine e_norm_nil ?_; refine e_norm_block ?_; refine a_norm_then ?_; refine e_region ?_; refine A_move ?_; refine A_subN1 ?_; refine A_assign ?_; refine e_norm_nil ?_)
                exact e_againN (j', Sort.swp d7 (j' + 1) j') (Nat.lt_succ_self j') ⟨by show j' ≤ k'; omega, hD6, (((hC7.trans_fr hFX).trans_fr hFY).trans_upd hU5 (.inl rfl)).trans_upd hU6 (.inl rfl), heq7⟩ rfl (by exact sub_)
              · rw [if_pos (by simp [ltC]; omega)] at heq7
                (refine A_lss ?_; refine A_not ?_; refine a_next ?_; refine a_true ?_; refine e_exit_then ?_; refine a_exit_on ?_; refine e_exit_then ?_; refine e_exit_then ?_; 
                   refine e_exit_here ?_)
                have hFX : Fr w7 w8 := by exact fr_
                exact e_restN (rest2 w8 d7 (hD7.fr hFX) (hC7.trans_fr hFX) heq7.symm) (by exact sub_)
            · obtain rfl : j = 0 := by omega
              rw [Sort.shiftDown] at heq7
              (refine e_seq fun K1 hK1 => ?_; refine e_seq fun K1 hK1 => ?_; refine e_region ?_; refine A_move ?_; refine A_geq ?_; refine a_next ?_; refine a_false ?_; 
                 refine e_exit_then ?_; refine e_exit_then ?_; refine e_exit_here ?_)
              exact e_restN (rest2 _ d7 (hD7.fr (by exact fr_)) (hC7.trans_fr (by exact fr_)) heq7.symm) (by exact sub_)
          · rw [if_neg h2] at rest2
            clear hKb
            (refine a_false ?_; refine e_norm_skip ?_)
            exact e_restN (rest2 _ d4 hD4 hC6 rfl) (by exact sub_)
    clear hK1
    refine e_loop Try.mixed Try.p63 Try.lp63bbabalbaaaa Try.hx63bbabalbaaaal Try.ok63bbabalbaaaal (fun k : Nat => [(0, .slice (some ⟨g, 0, none⟩) N cap), (1, .int .i64 a), (2, .int .i64 b), (3, .func (.func f) first fc), (9, .int .i64 k), (10, .int .i64 s)])
      (fun k W => i ≤ k ∧ k ≤ b ∧ Fr w3 W ∧ Sort.scanSorted (ltC cf) d3 b k = Sort.scanSorted (ltC cf) d3 b i) (fun k => b - k) i (by exact sub_) ⟨Nat.le_refl _, hib, (by exact fr_), rfl⟩ ?_
    rintro k w4 ⟨hik, hkb, hF4, heq4⟩
    have hz4 := hF4.size
    have hD4 := hD3.fr hF4
    have hK4 := hC.keep _ _ hK (hC3.trans_fr hF4)
    simp only [Try.x63bbabalbaaaal]
    by_cases hkb2 : k < b
    · obtain ⟨k', rfl⟩ : ∃ k', k = k' + 1 := ⟨k - 1, by omega⟩
      have q1 := hD4.get (i := k' + 1) (by omega)
      have q2 := hD4.get (i := k') (by omega)
      have hm1 : k' + 1 = k' + 1 := rfl
      (refine e_seq fun K1 hK1 => ?_; refine e_seq fun K1 hK1 => ?_; refine a_drawn fun w1 hF1 => ?_; have hz1 := hF1.size; refine A_move ?_; refine A_move ?_; refine A_lss ?_; 
         refine A_move ?_; refine A_want ?_; refine A_move ?_; refine A_want ?_; refine A_move ?_; refine A_want ?_; refine A_move ?_; refine A_want ?_; refine A_idxS ?_; 
         refine A_want ?_; refine A_move ?_; refine A_want ?_; refine A_move ?_; refine A_want ?_; refine A_subN1 ?_; refine A_want ?_; refine A_idxS ?_; refine A_want ?_; 
         refine A_loads ?_; refine A_want ?_; refine A_loads ?_; refine A_want ?_)
      refine E_callV rfl rfl hC.en rfl fun RR1 hRR1 => ?_
      refine hC.call d3[k' + 1]! d3[k']! _ _ (hC.keep _ _ hK4 ((show Fr w4 _ by exact fr_).ch _)) fun w7 hF7 => ?_
      have hz7 := hF7.size
      refine hRR1 _ _ (by first | assumption | exact trivial) (Nat.le_of_ble_eq_true rfl) ?_; clear hRR1 RR1
      by_cases hc : cf d3[k' + 1]! d3[k']! < 0
      · (refine A_want ?_; refine A_lss ?_; refine A_want ?_; refine A_not ?_; refine A_pick_t ?_; refine a_next ?_; refine a_false ?_; refine e_exit_then ?_; 
         refine e_exit_then ?_; refine e_exit_here ?_)
        exact e_restN (rest1 (k' + 1) w7 (hF4.trans (by exact fr_)) (by rw [← heq4, scanSorted_end (.inr (by simp [ltC, hc]))]) hik hkb) (by exact sub_)
      · (refine A_want ?_; refine A_lss ?_; refine A_want ?_; refine A_not ?_; refine A_pick_t ?_; refine a_next ?_; refine a_true ?_; refine a_nextC ?_; refine e_block ?_; 
         refine e_region ?_; refine A_move ?_; refine A_addN1 ?_; refine A_assign ?_; refine e_norm_nil ?_; refine e_norm_block ?_)
        exact e_againN (k' + 1 + 1) (by omega) ⟨by omega, by omega, hF4.trans (by exact fr_), by rw [← heq4]; exact (scanSorted_go hkb2 (by simp [ltC]; omega)).symm⟩ rfl (by exact sub_)
    · (refine e_seq fun K1 hK1 => ?_; refine e_seq fun K1 hK1 => ?_; refine a_drawn fun w1 hF1 => ?_; have hz1 := hF1.size; refine A_move ?_; refine A_move ?_; refine A_lss ?_; 
       refine A_move ?_; refine A_pass ?_; refine A_pass ?_; refine A_pass ?_; refine A_pass ?_; refine A_pass ?_; refine A_pass ?_; refine A_pass ?_; refine A_pass ?_; 
       refine A_pass ?_; refine A_pass ?_; refine A_pass ?_; refine A_pass ?_; refine A_pass ?_; refine A_pick_f ?_; refine a_next ?_; refine a_false ?_; refine e_exit_then ?_; 
       refine e_exit_then ?_; refine e_exit_here ?_)
      exact e_restN (rest1 k _ (hF4.trans (by exact fr_)) (by rw [← heq4, scanSorted_end (.inl hkb2)]) hik hkb) (by exact sub_)
  · (refine e_seq fun K1 hK1 => ?_; refine e_seq fun K1 hK1 => ?_; refine e_region ?_; refine A_move ?_; refine A_lss ?_; refine a_next ?_; refine a_false ?_; 
     refine e_exit_then ?_; refine e_exit_then ?_; refine e_exit_here ?_; refine a_norm_then ?_; refine e_seq fun K1 hK1 => ?_; refine e_region ?_; refine A_assign ?_; 
     refine a_next ?_; refine a_ret1 ?_)
    rw [show 5 - s = 0 by omega, Sort.partialIns] at heq3
    exact hR _ _ heq3 (hD3.fr (by exact fr_)) (hC3.trans_fr (by exact fr_))
end
end Go.Proofs.Ytjocklgihjbaiaa
end
section
/- Sorting of items: bits.Len, nextPowerOfTwo, xorshift (by the shelf's contracts), breakPatternsCmpFunc. -/
namespace Go.Proofs.Ytjocklgihjbaiaa
open Go.RowKit Go.Shelf
def renS : Ren := ⟨fun k => match k with | 48 => 74 | 47 => 73 | 15 => 49 | 28 => 66 | 29 => 67 | k => k, fun k => match k with | 39 => 83 | 55 => 113 | 66 => 119 | 76 => 128 | 53 => 111 | k => k, fun k => k⟩
theorem lay48 : SlLaysF0.n48 Try.prog renS where
  mixed := Try.mixed
  f48 := by kernel_rfl
  t0 := by kernel_rfl
  a0 := fun _ => by kernel_rfl
  z0 := fun _ => by kernel_rfl
  v0 := fun _ => by kernel_rfl
  t39 := by kernel_rfl
  a39 := fun _ => by kernel_rfl
  z39 := fun _ => by kernel_rfl
  v39 := fun _ => by kernel_rfl
  t55 := by kernel_rfl
  a55 := fun _ => by kernel_rfl
  z55 := fun _ => by kernel_rfl
  v55 := fun _ => by kernel_rfl
  t66 := by kernel_rfl
  a66 := fun _ => by kernel_rfl
  z66 := fun _ => by kernel_rfl
  v66 := fun _ => by kernel_rfl
  t76 := by kernel_rfl
  a76 := fun _ => by kernel_rfl
  z76 := fun _ => by kernel_rfl
  v76 := fun _ => by kernel_rfl
theorem lay47 : SlLaysF0.n47 Try.prog renS where
  mixed := Try.mixed
  f15 := by kernel_rfl
  f28 := by kernel_rfl
  f29 := by kernel_rfl
  f47 := by kernel_rfl
  t3 := by kernel_rfl
  a3 := fun _ => by kernel_rfl
  z3 := fun _ => by kernel_rfl
  v3 := fun _ => by kernel_rfl
  t4 := by kernel_rfl
  a4 := fun _ => by kernel_rfl
  z4 := fun _ => by kernel_rfl
  v4 := fun _ => by kernel_rfl
  t5 := by kernel_rfl
  a5 := fun _ => by kernel_rfl
  z5 := fun _ => by kernel_rfl
  v5 := fun _ => by kernel_rfl
  t9 := by kernel_rfl
  a9 := fun _ => by kernel_rfl
  z9 := fun _ => by kernel_rfl
  v9 := fun _ => by kernel_rfl
  t39 := by kernel_rfl
  a39 := fun _ => by kernel_rfl
  z39 := fun _ => by kernel_rfl
  v39 := fun _ => by kernel_rfl
  t53 := by kernel_rfl
  a53 := fun _ => by kernel_rfl
  z53 := fun _ => by kernel_rfl
  v53 := fun _ => by kernel_rfl
  t55 := by kernel_rfl
  a55 := fun _ => by kernel_rfl
  z55 := fun _ => by kernel_rfl
  v55 := fun _ => by kernel_rfl
theorem bitsLen49 (n : Nat) (hn : n < 4611686018427387904) (w : World) (RR : Ending → World → Prop) (hR : RR (.returned (.int .i64 (Sort.bitsLen n : Nat))) w) : Calls Try.prog 49 #[.int .u64 (n : Int)] w RR := by
  have h := Any.bits_Len (SlLaysF0.n15.bits (P := Try.prog) (ρ := renS) { lay47 with }) (n : Int) w (by omega) (by omega)
  rw [Int.toNat_natCast, bitLen_eq _ (by omega)] at h
  exact h.mono (by rintro e w' ⟨rfl, rfl⟩; exact hR)
theorem nextPow73 (n : Nat) (hn : n < 4611686018427387904) (w : World) (RR : Ending → World → Prop) (hR : RR (.returned (.int .u64 ((1 <<< Sort.bitsLen n : Nat) : Int))) w) : Calls Try.prog 73 #[.int .i64 (n : Int)] w RR :=
  (AnyF.nextPowerOfTwo lay47 n hn w).mono (by rintro e w' ⟨rfl, rfl⟩; exact hR)
theorem xorshift74 (b X : Nat) (hX : X < 18446744073709551616) (w : World) (RR : Ending → World → Prop) (hb : Blk w b 119 #[.int .u64 (X : Int)])
    (hR : ∀ w', Upd b w w' → Blk w' b 119 #[.int .u64 (Sort.xorNextN X : Nat)] → RR (.returned (.int .u64 (Sort.xorNextN X : Nat))) w') : Calls Try.prog 74 #[.pointer (some ⟨b, 0, none⟩)] w RR := by
  have hfz : w.frozen? ⟨b, 0, none⟩ = false := by
    unfold Blk at hb
    simp [World.frozen?, hb]
  refine (AnyF.xorshift_Next lay48 b 0 X hX w (hb.cell rfl) hfz).mono ?_
  rintro e w' ⟨rfl, rfl⟩
  obtain ⟨hU, hB⟩ := upd_setCells [.int .u64 (Sort.xorNextN X : Nat)] 0 w #[.int .u64 (X : Int)] hb (by simp)
  refine hR _ ⟨hU.os, hU.tape, hU.output, ?_, hU.size, hU.block⟩ ?_
  · exact Nat.le_trans hU.drawn (Nat.le_add_right _ _)
  · exact hB
section
variable {P : Program} {n : Fm} {R : Rel} {Q : Exit → Act → World → Prop} {e : Env} {w : World} {k : Kind} {d : Tmp} {ty : TypeId} {s : XPlan}
theorem E_conv {x : Operand} {t u : TypeId} {kd kd' : IntKind} {i j : Int} (hx : e.ev x = some (.int kd i)) (ht : (P.underlying t).isSome = true) (hu : P.underlying u = some (.int kd')) (hj : kd'.wrap i = j) (hd : d < n.n) (h : wpE P n Q R s ((d, .int kd' j) :: e) w) :
    wpE P n Q R (.step k ⟨some d, .convert t u x, ty⟩ none s) e w := fun _ ha =>
  rd_gen (.int kd' j) (fun w' _ => by
    obtain ⟨td, htd⟩ := Option.isSome_iff_exists.1 ht
    subst hj
    have h1 : (underlying t).run P w' = .ok td w' := by simp [underlying, htd]
    have h2 : (underlying u).run P w' = .ok (.int kd') w' := by simp [underlying, hu]
    have h3 : (convert t u (.int kd i)).run P w' = .ok (.int kd' (kd'.wrap i)) w' := by
      simp [convert, h1, h2, Conv.intToInt]
    simp [execOp, XOp.oper, ha.ev hx, h3]) (h _ (ha.put hd))
theorem E_and64 {x y : Operand} {t u : TypeId} {i j m : Nat} (hx : e.ev x = some (.int .u64 (i : Int))) (hy : e.ev y = some (.int .u64 (j : Int))) (hi : i < 18446744073709551616) (hj : j < 18446744073709551616) (hm : i &&& j = m) (hd : d < n.n) (h : wpE P n Q R s ((d, .int .u64 (m : Int)) :: e) w) :
    wpE P n Q R (.step k ⟨some d, .binOp .and t x y u, ty⟩ none s) e w := fun _ ha =>
  rd_bin (ha.ev hx) (ha.ev hy) (fun w' => by
    have := bits_and_u64_nat i j hi hj
    subst hm
    have e : (Go.binOp .and t (.int .u64 (i : Int)) (.int .u64 (j : Int))).run P w' = .ok (.int .u64 (bits .and .u64 (i : Int) (j : Int))) w' := rfl
    rw [e, this]) (h _ (ha.put hd))
theorem E_subU {x y : Operand} {t u : TypeId} {i j m : Nat} (hx : e.ev x = some (.int .u64 (i : Int))) (hy : e.ev y = some (.int .u64 (j : Int))) (hi : i < 18446744073709551616) (hj : j ≤ i) (hm : i - j = m) (hd : d < n.n) (h : wpE P n Q R s ((d, .int .u64 (m : Int)) :: e) w) :
    wpE P n Q R (.step k ⟨some d, .binOp .sub t x y u, ty⟩ none s) e w := fun _ ha =>
  rd_bin (ha.ev hx) (ha.ev hy) (fun w' => by
    have : IntKind.u64.wrap ((i : Int) - j) = (m : Int) := by rw [IntKind.wrap_u64]; omega
    simp [Go.binOp, Op.intArith, this]) (h _ (ha.put hd))
end
theorem und83 : Try.prog.underlying 83 = some (.int .u64) := by kernel_rfl
theorem und119 : Try.prog.underlying 119 = some (.int .u64) := by kernel_rfl
theorem size119 : sizeIs Try.prog 119 = some 1 := by kernel_rfl
/-- So many rounds are left; t have been made. -/
def bpR (a L M i0 : Nat) : Nat → Nat → UInt64 × Array It → Array It
  | 0, _, st => st.2
  | k + 1, t, st => bpR a L M i0 k (t + 1) (Sort.breakStep a L M st (i0 + t))
theorem breakPatterns_bpR (d : Array It) (a b L : Nat) (hL : b - a = L) (h8 : 8 ≤ L) : Sort.breakPatterns d a b = bpR a L (1 <<< Sort.bitsLen L) (a + L / 4 * 2 - 1) 3 0 (UInt64.ofNat L, d) := by
  unfold Sort.breakPatterns
  simp only [hL]
  rw [if_pos h8]
  rfl
section
variable {g cap N : Nat}
set_option maxRecDepth 10000 in
set_option maxHeartbeats 4000000 in
theorem breakPatterns60 (cv : Value) (a b : Nat) (d : Array It) (w : World) (RR : Ending → World → Prop) (hD : Dat w g cap N d) (hb : b ≤ N) (hab : a ≤ b) (hN2 : 4 * N + 8 < 2305843009213693951)
    (hR : ∀ w', Dat w' g cap N (Sort.breakPatterns d a b) → Ch (fun k => k = g) w w' → RR (.returned (.tuple #[])) w') :
    Calls Try.prog 60 #[.slice (some ⟨g, 0, none⟩) N cap, .int .i64 a, .int .i64 b, cv] w RR := by
  obtain ⟨L, hL⟩ : ∃ L, b - a = L := ⟨_, rfl⟩
  refine e_enter (n := ⟨67, []⟩) Try.mixed Try.func60 Try.p60 Try.x60 Try.fb60 Try.hx60 Try.ok60 rfl rfl (by simp) ?_; simp only [Try.x60, argEnv, Nat.zero_add, Nat.reduceAdd]
  (refine e_seq fun K1 hK1 => ?_; refine e_region ?_; refine A_move ?_; refine A_move ?_; refine A_subN ?_; refine A_assign ?_; refine a_next ?_; 
     refine e_seq fun K1 hK1 => ?_; refine e_region ?_; refine A_move ?_; refine A_geq ?_; refine a_next ?_)
  by_cases h8 : 8 ≤ L
  · rw [breakPatterns_bpR d a b L hL h8] at hR
    obtain ⟨M, hM⟩ : ∃ M : Nat, M = 1 <<< Sort.bitsLen L := ⟨_, rfl⟩
    have hM1 : 1 ≤ M := by rw [hM, Nat.one_shiftLeft]; exact Nat.two_pow_pos _
    have hM2 : M ≤ 2 * L := by rw [hM, Nat.one_shiftLeft]; exact Sort.two_pow_bitsLen_le (by omega)
    rw [← hM] at hR
    (refine a_true ?_; refine e_seq fun K1 hK1 => ?_; refine e_region ?_; refine A_move ?_)
    refine E_conv (j := (L : Int)) rfl (by rw [und3]; rfl) und119 (by rw [IntKind.wrap_u64]; omega) (Nat.le_of_ble_eq_true rfl) ?_
    (refine A_alloc fun b1 w1 hF1 hN1 hB1 => ?_; have hz1 := hF1.size; obtain ⟨hn1, hl1⟩ := hN1)
    have ⟨b2, hb2⟩ : ∃ b2, b2 = b1 := ⟨_, rfl⟩
    subst hb2
    have hB1' : Blk w1 b2 119 #[.int .u64 0] := hB1
    have hm1 : (a + L / 4 * 2 - 1 + 0) + 1 = a + L / 4 * 2 := by omega
    refine E_store1 (o := 0) rfl (fun _ _ _ => trivial) rfl rfl hB1' size119 rfl (by decide) ?_
    intro w3 hU3 hB3
    have hF3 : Fr w w3 := hF1.upd hU3 (by omega)
    have hz3 := hF3.size
    have hB3' : Blk w3 b2 119 #[.int .u64 (((UInt64.ofNat L).toNat : Nat) : Int)] := by
      rw [show (UInt64.ofNat L).toNat = L from by simp; omega]
      exact hB3
    clear hB3 hB1 hB1' hF1 hU3
    (refine a_next ?_; refine e_seq fun K1 hK1 => ?_; refine e_region ?_; refine A_move ?_)
    (with_reducible apply E_call); rfl; exact Try.en73; rfl; intro RR1 hRR1
    refine nextPow73 L (by omega) _ _ ?_
    rw [← hM]
    refine hRR1 _ _ (by first | assumption | exact trivial) (Nat.le_of_ble_eq_true rfl) ?_; clear hRR1 RR1
    clear hM
    (refine A_assign ?_; refine a_next ?_; refine e_seq fun K1 hK1 => ?_; refine e_region ?_; refine A_move ?_; refine A_move ?_)
    refine E_quoN (m := 4) rfl (by omega) (by omega) (Nat.le_of_ble_eq_true rfl) ?_; refine E_mulNC (m := 2) rfl (by omega) (Nat.le_of_ble_eq_true rfl) ?_
    (refine A_addN ?_; refine A_subN1 ?_; refine A_assign ?_; refine a_next ?_; refine e_block ?_)
    refine e_loop Try.mixed Try.p60 Try.lp60bbabbba Try.hx60bbabbbal Try.ok60bbabbbal (fun q : Nat × UInt64 × Array It => [(0, .slice (some ⟨g, 0, none⟩) N cap), (1, .int .i64 a), (8, .int .i64 L), (9, .pointer (some ⟨b2, 0, none⟩)), (10, .int .u64 M), (11, .int .i64 ((a + L / 4 * 2 - 1 + q.1 : Nat) : Int))])
      (fun q W => q.1 ≤ 3 ∧ Dat W g cap N q.2.2 ∧ Ch (fun k => k = g) w W ∧ Blk W b2 119 #[.int .u64 (q.2.1.toNat : Int)] ∧ bpR a L M (a + L / 4 * 2 - 1) (3 - q.1) q.1 q.2 = bpR a L M (a + L / 4 * 2 - 1) 3 0 (UInt64.ofNat L, d)) (fun q => 3 - q.1) (0, UInt64.ofNat L, d) (by exact sub_)
      ⟨Nat.zero_le _, hD.fr hF3, hF3.ch _, hB3', rfl⟩ ?_
    rintro ⟨t, r, d3⟩ w4 ⟨ht, hD4, hC4, hB4, heq⟩
    simp only at ht hD4 hB4 heq
    have hgl := hD.lt
    simp only [Try.x60bbabbbal]
    by_cases ht3 : t < 3
    · (refine e_seq fun K1 hK1 => ?_; refine e_seq fun K1 hK1 => ?_; refine e_region ?_; refine A_move ?_; refine A_move ?_; refine A_move ?_)
      refine E_quoN (m := 4) rfl (by omega) (by omega) (Nat.le_of_ble_eq_true rfl) ?_; refine E_mulNC (m := 2) rfl (by omega) (Nat.le_of_ble_eq_true rfl) ?_
      (refine A_addN ?_; refine A_addN1 ?_; refine A_leq ?_; refine a_next ?_; refine a_true ?_; refine a_nextC ?_; refine e_seq fun K1 hK1 => ?_; refine e_block ?_; 
         refine e_seq fun K1 hK1 => ?_; refine e_region ?_)
      obtain ⟨X, hX⟩ : ∃ X : Nat, X = Sort.xorNextN r.toNat := ⟨_, rfl⟩
      have lX : X < 18446744073709551616 := by rw [hX]; exact Sort.xorNextN_lt _ r.toNat_lt
      obtain ⟨O, hO⟩ : ∃ O : Nat, X &&& (M - 1) = O := ⟨_, rfl⟩
      have lO : O ≤ M - 1 := by rw [← hO]; exact Nat.and_le_right
      obtain ⟨o, ho⟩ : ∃ o : Nat, o = if O ≥ L then O - L else O := ⟨_, rfl⟩
      have lo : o < L := by rw [ho]; split <;> omega
      have hX2 : ((Sort.xorNext r).toNat : Int) = (X : Int) := by rw [Sort.xorNext_toNat, hX]
      have hst : Sort.breakStep a L M (r, d3) (a + L / 4 * 2 - 1 + t) = (Sort.xorNext r, Sort.swp d3 (a + L / 4 * 2 - 1 + t) (a + o)) := by
        unfold Sort.breakStep
        simp only [Sort.xorNext_toNat, ← hX, hO, ← ho]
      rw [show 3 - t = (3 - (t + 1)) + 1 by omega, bpR, hst] at heq
      (with_reducible apply E_call); rfl; exact Try.en74; rfl; intro RR1 hRR1
      refine xorshift74 b2 r.toNat r.toNat_lt _ _ hB4 fun w5 hU5 hB5 => ?_
      have hz5 := hU5.size
      rw [← hX] at hB5 ⊢
      refine hRR1 _ _ (by first | assumption | exact trivial) (Nat.le_of_ble_eq_true rfl) ?_; clear hRR1 RR1
      clear hX
      refine A_move ?_
      refine E_subU (i := M) (j := 1) (m := M - 1) rfl rfl (by omega) hM1 rfl (Nat.le_of_ble_eq_true rfl) ?_
      refine E_and64 (i := X) (j := M - 1) rfl rfl lX (by omega) hO (Nat.le_of_ble_eq_true rfl) ?_
      refine E_conv (j := (O : Int)) rfl (by rw [und83]; rfl) und3 (IntWalk.i64_in _ (by omega)) (Nat.le_of_ble_eq_true rfl) ?_
      have hD5 : Dat w5 g cap N d3 := by
        refine ⟨hD4.sl.ch hU5.ch ?_, hD4.size⟩
        intro k hk e
        have hkg : g = k := by simpa [Value.ownBlock] using hk
        omega
      have hC5 : Ch (fun k => k = g) w w5 := hC4.trans_upd hU5 (.inr (by omega))
      have hidx : a + L / 4 * 2 - 1 + t < N := by omega
      by_cases hOL : L ≤ O
      · rw [if_pos hOL] at ho
        subst ho
        (refine A_assign ?_; refine a_next ?_; refine e_seq fun K1 hK1 => ?_; refine e_seq fun K1 hK1 => ?_; refine e_region ?_; refine A_move ?_; refine A_move ?_; 
           refine A_geq ?_; refine a_next ?_; refine a_true ?_; refine e_region ?_; refine A_move ?_; refine A_move ?_; refine A_subN ?_; refine A_assign ?_; refine a_next ?_; 
           refine a_drawn fun w1 hF1 => ?_; have hz1 := hF1.size; refine A_move ?_; refine A_move ?_; refine A_move ?_; refine A_move ?_; refine A_move ?_; refine A_addN ?_; 
           refine A_move ?_; refine A_move ?_; refine A_move ?_; refine A_addN ?_; refine A_idxS ?_; refine A_move ?_; refine A_move ?_; refine A_idxS ?_)
        have q1 := hD5.get (i := a + (O - L)) (by omega)
        have q2 := hD5.get (i := a + L / 4 * 2 - 1 + t) hidx
        (refine A_loads ?_; refine A_loads ?_; refine A_idxS ?_)
        have hDw : Dat w1 g cap N d3 := hD5.fr (by exact fr_)
        have hFY : Fr w5 w1 := by exact fr_
        obtain ⟨cA, hbA, hfA, hpA⟩ := hDw.put (i := a + L / 4 * 2 - 1 + t) hidx d3[a + (O - L)]!
        refine E_store (o := (a + L / 4 * 2 - 1 + t) * 2) rfl (fun _ _ _ => trivial) rfl rfl hbA (by simp only [Try.SI]; rfl) (by show (itA _).all _ = true; rw [← Array.all_toList]; rfl) hfA rfl ?_
        intro w6 hU6 hB6
        have hD6 := hpA _ hB6
        refine A_idxS ?_
        obtain ⟨cB, hbB, hfB, hpB⟩ := hD6.put (i := a + (O - L)) (by omega) d3[a + L / 4 * 2 - 1 + t]!
        refine E_store (o := (a + (O - L)) * 2) rfl (fun _ _ _ => trivial) rfl rfl hbB (by simp only [Try.SI]; rfl) (by show (itA _).all _ = true; rw [← Array.all_toList]; rfl) hfB rfl ?_
        intro w7 hU7 hB7
        have hD7 := hpB _ hB7
        (refine e_norm_nil ?_; refine e_norm_block ?_; refine a_norm_then ?_; refine e_region ?_; refine A_move ?_; refine A_addN1 ?_; refine A_assign ?_; refine e_norm_nil ?_)
        refine e_againN (t + 1, Sort.xorNext r, Sort.swp d3 (a + L / 4 * 2 - 1 + t) (a + (O - L))) (by show 3 - (t + 1) < 3 - t; omega) ⟨by show t + 1 ≤ 3; omega, hD7, ((hC5.trans_fr hFY).trans_upd hU6 (.inl rfl)).trans_upd hU7 (.inl rfl), ?_, heq⟩ rfl (by exact sub_)
        show Blk w7 b2 119 #[.int .u64 ((Sort.xorNext r).toNat : Int)]
        rw [hX2]
        exact ((hB5.fr hFY).upd hU6 (by omega)).upd hU7 (by omega)
      · rw [if_neg hOL] at ho
        subst ho
        (refine A_assign ?_; refine a_next ?_; refine e_seq fun K1 hK1 => ?_; refine e_seq fun K1 hK1 => ?_; refine e_region ?_; refine A_move ?_; refine A_move ?_; 
           refine A_geq ?_; refine a_next ?_; refine a_false ?_; refine a_nextC ?_; refine a_drawn fun w1 hF1 => ?_; have hz1 := hF1.size; refine A_move ?_; refine A_move ?_; 
           refine A_move ?_; refine A_move ?_; refine A_move ?_; refine A_addN ?_; refine A_move ?_; refine A_move ?_; refine A_move ?_; refine A_addN ?_; refine A_idxS ?_; 
           refine A_move ?_; refine A_move ?_; refine A_idxS ?_)
        have q1 := hD5.get (i := a + o) (by omega)
        have q2 := hD5.get (i := a + L / 4 * 2 - 1 + t) hidx
        (refine A_loads ?_; refine A_loads ?_; refine A_idxS ?_)
        have hDw : Dat w1 g cap N d3 := hD5.fr (by exact fr_)
        have hFY : Fr w5 w1 := by exact fr_
        obtain ⟨cA, hbA, hfA, hpA⟩ := hDw.put (i := a + L / 4 * 2 - 1 + t) hidx d3[a + o]!
        refine E_store (o := (a + L / 4 * 2 - 1 + t) * 2) rfl (fun _ _ _ => trivial) rfl rfl hbA (by simp only [Try.SI]; rfl) (by show (itA _).all _ = true; rw [← Array.all_toList]; rfl) hfA rfl ?_
        intro w6 hU6 hB6
        have hD6 := hpA _ hB6
        refine A_idxS ?_
        obtain ⟨cB, hbB, hfB, hpB⟩ := hD6.put (i := a + o) (by omega) d3[a + L / 4 * 2 - 1 + t]!
        refine E_store (o := (a + o) * 2) rfl (fun _ _ _ => trivial) rfl rfl hbB (by simp only [Try.SI]; rfl) (by show (itA _).all _ = true; rw [← Array.all_toList]; rfl) hfB rfl ?_
        intro w7 hU7 hB7
        have hD7 := hpB _ hB7
        (refine e_norm_nil ?_; refine e_norm_block ?_; refine a_norm_then ?_; refine e_region ?_; refine A_move ?_; refine A_addN1 ?_; refine A_assign ?_; refine e_norm_nil ?_)
        refine e_againN (t + 1, Sort.xorNext r, Sort.swp d3 (a + L / 4 * 2 - 1 + t) (a + o)) (by show 3 - (t + 1) < 3 - t; omega) ⟨by show t + 1 ≤ 3; omega, hD7, ((hC5.trans_fr hFY).trans_upd hU6 (.inl rfl)).trans_upd hU7 (.inl rfl), ?_, heq⟩ rfl (by exact sub_)
        show Blk w7 b2 119 #[.int .u64 ((Sort.xorNext r).toNat : Int)]
        rw [hX2]
        exact ((hB5.fr hFY).upd hU6 (by omega)).upd hU7 (by omega)
    · (refine e_seq fun K1 hK1 => ?_; refine e_seq fun K1 hK1 => ?_; refine e_region ?_; refine A_move ?_; refine A_move ?_; refine A_move ?_)
      refine E_quoN (m := 4) rfl (by omega) (by omega) (Nat.le_of_ble_eq_true rfl) ?_; refine E_mulNC (m := 2) rfl (by omega) (Nat.le_of_ble_eq_true rfl) ?_
      (refine A_addN ?_; refine A_addN1 ?_; refine A_leq ?_; refine a_next ?_; refine a_false ?_; refine e_exit_then ?_; refine e_exit_then ?_; refine e_exit_here ?_; 
         refine a_end0 ?_)
      obtain rfl : t = 3 := by omega
      exact hR w4 (by rw [← heq]; exact hD4) hC4
  · (refine a_false ?_; refine e_norm_skip ?_; refine a_end0 ?_)
    exact hR _ (by unfold Sort.breakPatterns; simp only [hL]; rw [if_neg h8]; exact hD) (Ch.refl _ _)
end
end Go.Proofs.Ytjocklgihjbaiaa
end
section
/- Sorting of items: pdqsortCmpFunc, slices.SortFunc: what comes out is sorted, and nothing is lost. -/
namespace Go.Proofs.Ytjocklgihjbaiaa
open Go.RowKit
section
variable {f : FuncId} {first fc : Array Value} {cf : It → It → Int} {g cap N : Nat} {K : World → Prop} (hC : CmpV Try.prog f first fc cf g K)
include hC
set_option maxRecDepth 10000 in
set_option maxHeartbeats 4000000 in
theorem pdqsort48 (hW : Sort.SWO (ltC cf)) (hN2 : 4 * N + 8 < 2305843009213693951) : ∀ (m a b lim : Nat) (d : Array It) (w : World) (RR : Ending → World → Prop), b - a = m → Dat w g cap N d → K w → a ≤ b → b ≤ N → lim ≤ 64 → Sort.Below (ltC cf) a b d →
    (∀ w' d', Sort.PermIn a b d d' → Sort.SortedIn (ltC cf) a b d' → Dat w' g cap N d' → Ch (fun k => k = g) w w' → RR (.returned (.tuple #[])) w') →
    Calls Try.prog 48 #[(.slice (some ⟨g, 0, none⟩) N cap), .int .i64 a, .int .i64 b, .int .i64 lim, (.func (.func f) first fc)] w RR := by
  intro m
  induction m using Nat.strongRecOn with
  | _ m ih =>
  intro a b lim d w RR hm hD hK hab hb hlim hB hR
  refine e_enter (n := ⟨148, []⟩) Try.mixed Try.func48 Try.p48 Try.x48 Try.fb48 Try.hx48 Try.ok48 rfl rfl (by simp) ?_; simp only [Try.x48, argEnv, Nat.zero_add, Nat.reduceAdd]
  (refine e_seq fun K1 hK1 => ?_; refine e_region ?_; refine A_assign ?_; refine a_next ?_; refine e_seq fun K1 hK1 => ?_; refine e_region ?_; refine A_assign ?_; 
     refine a_next ?_; refine e_block ?_)
  refine e_loop Try.mixed Try.p48 Try.lp48bba Try.hx48bbal Try.ok48bbal (fun q : (Nat × Nat × Nat) × (Bool × Bool) × Array It => [(0, (.slice (some ⟨g, 0, none⟩) N cap)), (1, .int .i64 q.1.1), (2, .int .i64 q.1.2.1), (3, .int .i64 q.1.2.2), (4, (.func (.func f) first fc)), (10, .bool q.2.1.1), (11, .bool q.2.1.2)])
    (fun q W => q.1.1 ≤ q.1.2.1 ∧ q.1.2.1 ≤ N ∧ q.1.2.1 - q.1.1 ≤ m ∧ q.1.2.2 ≤ 64 ∧ Sort.Below (ltC cf) q.1.1 q.1.2.1 q.2.2 ∧ Dat W g cap N q.2.2 ∧ Ch (fun k => k = g) w W ∧
      ∀ R, Sort.PermIn q.1.1 q.1.2.1 q.2.2 R → Sort.SortedIn (ltC cf) q.1.1 q.1.2.1 R → (Sort.PermIn a b d R ∧ Sort.SortedIn (ltC cf) a b R)) (fun q => q.1.2.1 - q.1.1) ((a, b, lim), (true, true), d) (by exact sub_)
    ⟨hab, hb, Nat.le_of_eq hm, hlim, hB, hD, Ch.refl _ _, fun R h1 h2 => ⟨h1, h2⟩⟩ ?_
  rintro ⟨⟨a', b', lim'⟩, ⟨wb, wp⟩, d0⟩ w3 ⟨hab', hb', hm', hlim', hB', hD3, hC3, hall⟩
  simp only at hab' hb' hm' hlim' hB' hD3 hall
  have hK3 := hC.keep _ _ hK hC3
  have hs0 := hD3.size
  simp only [Try.x48bbal]
  by_cases h12 : b' - a' ≤ 12
  · (refine e_block ?_; refine e_seq fun K1 hK1 => ?_; refine e_region ?_; refine A_move ?_; refine A_move ?_; refine A_subN ?_; refine A_assign ?_; refine a_next ?_; 
     refine e_seq fun K1 hK1 => ?_; refine e_seq fun K1 hK1 => ?_; refine e_region ?_; refine A_move ?_; refine A_leq ?_; refine a_next ?_; refine a_true ?_; 
     refine e_seq fun K1 hK1 => ?_; refine e_region ?_; refine A_move ?_; refine A_move ?_; refine A_move ?_; refine A_move ?_)
    (with_reducible apply E_call); rfl; exact Try.en58; rfl; intro RR1 hRR1
    refine insertionSort58 hC a' b' d0 _ _ hD3 hK3 hb' (by omega) fun w4 hD4 hC4 => ?_
    refine hRR1 _ _ (by first | assumption | exact trivial) (Nat.le_of_ble_eq_true rfl) ?_; clear hRR1 RR1
    (refine a_next ?_; refine e_ret_then ?_; refine e_ret_block ?_; refine e_ret_then ?_; refine e_ret_block ?_; refine a_ret0 ?_)
    obtain ⟨h1, h2⟩ := Sort.insertionSort_holds (lt := ltC cf) hW d0 a' b' hab' (by omega)
    obtain ⟨h1, h2⟩ := hall _ h1 h2
    exact hR _ _ h1 h2 hD4 (hC3.trans hC4)
  by_cases hl0 : lim' = 0
  · (refine e_block ?_; refine e_seq fun K1 hK1 => ?_; refine e_region ?_; refine A_move ?_; refine A_move ?_; refine A_subN ?_; refine A_assign ?_; refine a_next ?_; 
     refine e_seq fun K1 hK1 => ?_; refine e_seq fun K1 hK1 => ?_; refine e_region ?_; refine A_move ?_; refine A_leq ?_; refine a_next ?_; refine a_false ?_; 
     refine a_nextC ?_; refine e_seq fun K1 hK1 => ?_; refine e_seq fun K1 hK1 => ?_; refine e_region ?_; refine A_move ?_; refine A_eql ?_; refine a_next ?_; refine a_true ?_; 
     refine e_seq fun K1 hK1 => ?_; refine e_region ?_; refine A_move ?_; refine A_move ?_; refine A_move ?_; refine A_move ?_)
    (with_reducible apply E_call); rfl; exact Try.en59; rfl; intro RR1 hRR1
    refine heapSort59 hC a' b' d0 _ _ hD3 hK3 hb' (by omega) (by omega) fun w4 hD4 hC4 => ?_
    refine hRR1 _ _ (by first | assumption | exact trivial) (Nat.le_of_ble_eq_true rfl) ?_; clear hRR1 RR1
    (refine a_next ?_; refine e_ret_then ?_; refine e_ret_block ?_; refine e_ret_then ?_; refine e_ret_block ?_; refine a_ret0 ?_)
    obtain ⟨h1, h2⟩ := Sort.heapSort_holds (lt := ltC cf) hW d0 a' b' hab' (by omega)
    obtain ⟨h1, h2⟩ := hall _ h1 h2
    exact hR _ _ h1 h2 hD4 (hC3.trans hC4)
  have hlm : (lim' - 1) + 1 = lim' := by omega
  have hbm : (b' - 1) + 1 = b' := by omega
  (refine e_block ?_; refine e_seq fun K1 hK1 => ?_; refine e_region ?_; refine A_move ?_; refine A_move ?_; refine A_subN ?_; refine A_assign ?_; refine a_next ?_; 
     refine e_seq fun K1 hK1 => ?_; refine e_seq fun K1 hK1 => ?_; refine e_region ?_; refine A_move ?_; refine A_leq ?_; refine a_next ?_; refine a_false ?_; 
     refine a_nextC ?_; refine e_seq fun K1 hK1 => ?_; refine e_seq fun K1 hK1 => ?_; refine e_region ?_; refine A_move ?_; refine A_eql ?_; refine a_next ?_; 
     refine a_false ?_; refine a_nextC ?_; refine e_seq fun K1 hK1 => ?_; refine e_seq fun K1 hK1 => ?_; refine e_region ?_; refine A_move ?_; refine A_not ?_; 
     refine a_next ?_)
  rename_i Kb hKb
  clear hK1
  have rest4 : ∀ (W : World) (d1 : Array It) (lim1 : Nat), lim1 ≤ 64 → Sort.PermIn a' b' d0 d1 → Dat W g cap N d1 → Ch (fun k => k = g) w W →
      ∀ act, Agrees ⟨148, []⟩ act [(0, (.slice (some ⟨g, 0, none⟩) N cap)), (1, .int .i64 a'), (2, .int .i64 b'), (3, .int .i64 lim1), (4, (.func (.func f) first fc)), (10, .bool wb), (11, .bool wp), (12, .int .i64 ((b' - a' : Nat) : Int))] → Kb act W := by
    intro W1 d1 lim1 hlim1 hp1 hD1 hC1
    have hK1' := hC.keep _ _ hK hC1
    refine later_of hKb ?_
    clear hKb
    (refine e_seq fun K1 hK1 => ?_; refine e_region ?_; refine A_move ?_; refine A_move ?_; refine A_move ?_; refine A_move ?_)
    (with_reducible apply E_call); rfl; exact Try.en61; rfl; intro RR1 hRR1
    refine choosePivot61 hC a' b' d1 _ _ hD1 hK1' hab' hb' (by omega) fun w5 r hr hD5 hF5 => ?_
    have hz5 := hF5.size
    have hpv : a' ≤ r.1 ∧ r.1 < b' := by rw [hr]; exact Sort.choosePivot_holds (ltC cf) d1 a' b' (by omega)
    obtain ⟨hp1a, hp1b⟩ := hpv
    obtain ⟨hh, hhh⟩ : ∃ hh : Int, hintI r.2 = hh := ⟨_, rfl⟩
    have hC5 := hC1.trans_fr hF5
    have hs1 := hD1.size
    refine hRR1 _ _ (by first | assumption | exact trivial) (Nat.le_of_ble_eq_true rfl) ?_; clear hRR1 RR1
    rw [hhh]
    (refine A_move ?_; refine A_extract ?_; refine A_extract ?_; refine A_assign ?_; refine A_assign ?_; refine a_next ?_; refine e_seq fun K1 hK1 => ?_; 
       refine e_seq fun K1 hK1 => ?_; refine e_region ?_; refine A_move ?_; refine A_eql ?_; refine a_next ?_)
    rename_i Kc hKc
    clear hK1
    have rest5 : ∀ (W : World) (d2 : Array It) (p : Nat) (h : Int), a' ≤ p → p < b' → Sort.PermIn a' b' d0 d2 → Dat W g cap N d2 → Ch (fun k => k = g) w W →
        ∀ act, Agrees ⟨148, []⟩ act [(0, (.slice (some ⟨g, 0, none⟩) N cap)), (1, .int .i64 a'), (2, .int .i64 b'), (3, .int .i64 lim1), (4, (.func (.func f) first fc)), (10, .bool wb), (11, .bool wp), (12, .int .i64 ((b' - a' : Nat) : Int)), (13, .int .i64 p), (14, .int .i64 h)] → Kc act W := by
      clear hF5 hz5 hC5 hr hhh
      intro W2 d2 p h hpa hpb hp2 hD2 hC2
      have hK2' := hC.keep _ _ hK hC2
      have hs2 := hD2.size
      have hB2 := hB'.perm (by omega) hp2
      refine later_of hKc ?_
      clear hKc
      (with_reducible apply e_seq); intro Kd hKd
      have rest7 : ∀ (W : World) (d3 : Array It), Sort.PermIn a' b' d0 d3 → Dat W g cap N d3 → Ch (fun k => k = g) w W →
          ∀ act, Agrees ⟨148, []⟩ act [(0, (.slice (some ⟨g, 0, none⟩) N cap)), (1, .int .i64 a'), (2, .int .i64 b'), (3, .int .i64 lim1), (4, (.func (.func f) first fc)), (10, .bool wb), (11, .bool wp), (12, .int .i64 ((b' - a' : Nat) : Int)), (13, .int .i64 p)] → Kd act W := by
        intro W4 d3 hp3 hD4 hC4
        have hK4' := hC.keep _ _ hK hC4
        have hs4 := hD4.size
        have hB4 := hB'.perm (by omega) hp3
        refine later_of hKd ?_
        clear hKd
        (with_reducible apply e_seq); intro Ke hKe
        have rest8 : ∀ (W : World), Fr W4 W → ∀ act, Agrees ⟨148, []⟩ act [(0, (.slice (some ⟨g, 0, none⟩) N cap)), (1, .int .i64 a'), (2, .int .i64 b'), (3, .int .i64 lim1), (4, (.func (.func f) first fc)), (10, .bool wb), (11, .bool wp), (12, .int .i64 ((b' - a' : Nat) : Int)), (13, .int .i64 p)] → Ke act W := by
          intro W5 hF5
          have hz5 := hF5.size
          refine later_of hKe ?_
          clear hKe
          (refine e_seq fun K1 hK1 => ?_; refine e_region ?_; refine A_move ?_; refine A_move ?_; refine A_move ?_; refine A_move ?_; refine A_move ?_)
          (with_reducible apply E_call); rfl; exact Try.en65; rfl; intro RR1 hRR1
          refine partition65 hC a' b' p d3 _ _ (hD4.fr hF5) (hC.keep _ _ hK4' (hF5.ch _)) hb' (by omega) (by omega) (by omega) fun w6 r hr hD6 hC6 => ?_
          obtain ⟨mid, ap, d4⟩ := r
          simp only at hD6
          obtain ⟨e1, e2, e3, e4, e5, e6, e7⟩ := Sort.round_part hW (Sort.partition_holds _) hpa hpb (by omega) hB4 hr.symm
          have hC7 := (hC4.trans_fr hF5).trans hC6
          have hK7 := hC.keep _ _ hK hC7
          have up : ∀ R, Sort.PermIn a' b' d3 R ∧ Sort.SortedIn (ltC cf) a' b' R → (Sort.PermIn a b d R ∧ Sort.SortedIn (ltC cf) a b R) := fun R hR' => hall R (Sort.permIn_trans _ _ _ a' b' hp3 hR'.1) hR'.2
          refine hRR1 _ _ (by first | assumption | exact trivial) (Nat.le_of_ble_eq_true rfl) ?_; clear hRR1 RR1
          by_cases hlr : mid - a' < b' - mid
          · (refine A_move ?_; refine A_extract ?_; refine A_extract ?_; refine A_assign ?_; refine A_assign ?_; refine a_next ?_; refine e_seq fun K1 hK1 => ?_; refine e_region ?_; 
             refine A_move ?_; refine A_assign ?_; refine a_next ?_; refine e_seq fun K1 hK1 => ?_; refine e_region ?_; refine A_move ?_; refine A_move ?_; refine A_subN ?_; 
             refine A_move ?_; refine A_move ?_; refine A_subN ?_; refine A_assign ?_; refine A_assign ?_; refine a_next ?_; refine e_seq fun K1 hK1 => ?_; refine e_region ?_; 
             refine A_move ?_)
            refine E_quoN (m := 8) rfl (by omega) (by omega) (Nat.le_of_ble_eq_true rfl) ?_
            (refine A_assign ?_; refine a_next ?_; refine e_seq fun K1 hK1 => ?_; refine e_region ?_; refine A_move ?_; refine A_move ?_; refine A_lss ?_; refine a_next ?_; 
               refine a_true ?_; refine e_seq fun K1 hK1 => ?_; refine e_region ?_; refine A_move ?_; refine A_move ?_; refine A_geq ?_; refine A_assign ?_; refine a_next ?_; 
               refine e_seq fun K1 hK1 => ?_; refine e_region ?_; refine A_move ?_; refine A_move ?_; refine A_move ?_; refine A_move ?_; refine A_move ?_)
            (with_reducible apply E_call); rfl; exact Try.en48; rfl; intro RR1 hRR1
            refine ih (mid - a') (by omega) a' mid lim1 d4 _ _ rfl hD6 hK7 e1 (by omega) hlim1 e4 fun w8 L q1 q2 hD8 hC8 => ?_
            refine hRR1 _ _ (by first | assumption | exact trivial) (Nat.le_of_ble_eq_true rfl) ?_; clear hRR1 RR1
            obtain ⟨f1, f2⟩ := e6 L q1 q2
            (refine a_next ?_; refine e_region ?_; refine A_move ?_; refine A_addN1 ?_; refine A_assign ?_; refine e_norm_nil ?_; refine e_norm_block ?_)
            exact e_againN ((mid + 1, b', lim1), (_, ap), L) (by show b' - (mid + 1) < b' - a'; omega) ⟨by show mid + 1 ≤ b'; omega, hb', by show b' - (mid + 1) ≤ m; omega, hlim1, f1, hD8, hC7.trans hC8, fun R g1 g2 => up R (f2 R g1 g2)⟩ rfl (by exact sub_)
          · (refine A_move ?_; refine A_extract ?_; refine A_extract ?_; refine A_assign ?_; refine A_assign ?_; refine a_next ?_; refine e_seq fun K1 hK1 => ?_; refine e_region ?_; 
             refine A_move ?_; refine A_assign ?_; refine a_next ?_; refine e_seq fun K1 hK1 => ?_; refine e_region ?_; refine A_move ?_; refine A_move ?_; refine A_subN ?_; 
             refine A_move ?_; refine A_move ?_; refine A_subN ?_; refine A_assign ?_; refine A_assign ?_; refine a_next ?_; refine e_seq fun K1 hK1 => ?_; refine e_region ?_; 
             refine A_move ?_)
            refine E_quoN (m := 8) rfl (by omega) (by omega) (Nat.le_of_ble_eq_true rfl) ?_
            (refine A_assign ?_; refine a_next ?_; refine e_seq fun K1 hK1 => ?_; refine e_region ?_; refine A_move ?_; refine A_move ?_; refine A_lss ?_; refine a_next ?_; 
               refine a_false ?_; refine e_seq fun K1 hK1 => ?_; refine e_region ?_; refine A_move ?_; refine A_move ?_; refine A_geq ?_; refine A_assign ?_; refine a_next ?_; 
               refine e_seq fun K1 hK1 => ?_; refine e_region ?_; refine A_move ?_; refine A_move ?_; refine A_addN1 ?_; refine A_move ?_; refine A_move ?_; refine A_move ?_)
            (with_reducible apply E_call); rfl; exact Try.en48; rfl; intro RR1 hRR1
            refine ih (b' - (mid + 1)) (by omega) (mid + 1) b' lim1 d4 _ _ rfl hD6 hK7 e2 hb' hlim1 e5 fun w8 L q1 q2 hD8 hC8 => ?_
            refine hRR1 _ _ (by first | assumption | exact trivial) (Nat.le_of_ble_eq_true rfl) ?_; clear hRR1 RR1
            obtain ⟨f1, f2⟩ := e7 L q1 q2
            (refine a_next ?_; refine e_region ?_; refine A_move ?_; refine A_assign ?_; refine e_norm_nil ?_; refine e_norm_block ?_)
            exact e_againN ((a', mid, lim1), (_, ap), L) (by show mid - a' < b' - a'; omega) ⟨e1, by show mid ≤ N; omega, by show mid - a' ≤ m; omega, hlim1, f1, hD8, hC7.trans hC8, fun R g1 g2 => up R (f2 R g1 g2)⟩ rfl (by exact sub_)
        by_cases ha0 : 0 < a'
        · have ham : (a' - 1) + 1 = a' := by omega
          have u1 := hD4.get (i := a' - 1) (by omega)
          have u2 := hD4.get (i := p) (by omega)
          (refine e_seq fun K1 hK1 => ?_; refine a_drawn fun w1 hF1 => ?_; have hz1 := hF1.size; refine A_move ?_; refine A_gtr ?_; refine A_move ?_; refine A_want ?_; 
             refine A_move ?_; refine A_want ?_; refine A_move ?_; refine A_want ?_; refine A_move ?_; refine A_want ?_; refine A_subN1 ?_; refine A_want ?_; refine A_idxS ?_; 
             refine A_want ?_; refine A_move ?_; refine A_want ?_; refine A_move ?_; refine A_want ?_; refine A_idxS ?_; refine A_want ?_; refine A_loads ?_; refine A_want ?_; 
             refine A_loads ?_; refine A_want ?_)
          refine E_callV rfl rfl hC.en rfl fun RR1 hRR1 => ?_
          refine hC.call d3[a' - 1]! d3[p]! _ _ (hC.keep _ _ hK4' ((show Fr W4 _ by exact fr_).ch _)) fun w5 hF5 => ?_
          have hz5 := hF5.size
          refine hRR1 _ _ (by first | assumption | exact trivial) (Nat.le_of_ble_eq_true rfl) ?_; clear hRR1 RR1
          have hFX : Fr W4 w5 := by exact fr_
          by_cases hc : cf d3[a' - 1]! d3[p]! < 0
          · clear hKe
            (refine A_want ?_; refine A_lss ?_; refine A_want ?_; refine A_not ?_; refine A_pick_t ?_; refine a_next ?_; refine a_false ?_; refine e_norm_skip ?_)
            exact e_restN (rest8 w5 hFX) (by exact sub_)
          · have hnl : ltC cf d3[a' - 1]! d3[p]! = false := by simp [ltC]; omega
            (refine A_want ?_; refine A_lss ?_; refine A_want ?_; refine A_not ?_; refine A_pick_t ?_; refine a_next ?_; refine a_true ?_; refine e_seq fun K1 hK1 => ?_; 
               refine e_region ?_; refine A_move ?_; refine A_move ?_; refine A_move ?_; refine A_move ?_; refine A_move ?_)
            (with_reducible apply E_call); rfl; exact Try.en64; rfl; intro RR1 hRR1
            refine partitionEqual64 hC a' b' p d3 _ _ (hD4.fr hFX) (hC.keep _ _ hK4' (hFX.ch _)) hb' (by omega) (by omega) (by omega) fun w6 r hr hD6 hC6 => ?_
            obtain ⟨mid, d4⟩ := r
            simp only at hD6
            obtain ⟨e1, e2, e3, e4, e5⟩ := Sort.round_eq hW (Sort.partitionEqual_holds _) ha0 hpa hpb (by omega) hB4 hnl hr.symm
            refine hRR1 _ _ (by first | assumption | exact trivial) (Nat.le_of_ble_eq_true rfl) ?_; clear hRR1 RR1
            (refine A_assign ?_; refine a_next ?_; refine e_seq fun K1 hK1 => ?_; refine e_region ?_; refine A_move ?_; refine A_assign ?_; refine a_next ?_; refine e_exit_then ?_; 
               refine e_exit_here ?_)
            exact e_againN ((mid, b', lim1), (wb, wp), d4) (by show b' - mid < b' - a'; omega) ⟨e2, hb', by show b' - mid ≤ m; omega, hlim1, e4, hD6, (hC4.trans_fr hFX).trans hC6, fun R g1 g2 => hall R (Sort.permIn_trans _ _ _ a' b' hp3 (e5 R g1 g2).1) (e5 R g1 g2).2⟩ rfl (by exact sub_)
        · clear hKe
          (refine e_seq fun K1 hK1 => ?_; refine a_drawn fun w1 hF1 => ?_; have hz1 := hF1.size; refine A_move ?_; refine A_gtr ?_; refine A_move ?_; refine A_pass ?_; 
             refine A_pass ?_; refine A_pass ?_; refine A_pass ?_; refine A_pass ?_; refine A_pass ?_; refine A_pass ?_; refine A_pass ?_; refine A_pass ?_; refine A_pass ?_; 
             refine A_pass ?_; refine A_pass ?_; refine A_pass ?_; refine A_pick_f ?_; refine a_next ?_; refine a_false ?_; refine e_norm_skip ?_)
          exact e_restN (rest8 _ (by exact fr_)) (by exact sub_)
      by_cases hyes : wb = true ∧ wp = true ∧ h = 1
      · obtain ⟨rfl, rfl, rfl⟩ := hyes
        clear hKd
        (refine e_seq fun K1 hK1 => ?_; refine e_region ?_; refine A_move ?_; refine A_move ?_; refine A_want ?_; refine A_move ?_; refine A_pick_t ?_; refine A_move ?_; 
           refine A_want ?_; refine A_move ?_; refine A_want ?_; refine A_eql ?_; refine A_pick_t ?_; refine a_next ?_; refine a_true ?_; refine e_seq fun K1 hK1 => ?_; 
           refine e_region ?_; refine A_move ?_; refine A_move ?_; refine A_move ?_; refine A_move ?_)
        (with_reducible apply E_call); rfl; exact Try.en63; rfl; intro RR1 hRR1
        refine partialIns63 hC a' b' d2 _ _ hD2 hK2' hb' (by omega) (by omega) fun w5 r hr hD5 hC5 => ?_
        have hpi := Sort.partialInsertionSort_holds (lt := ltC cf) hW d2 a' b' (by omega) (by omega) hB2
        rw [← hr] at hpi
        have hp3 := Sort.permIn_trans _ _ _ a' b' hp2 hpi.1
        refine hRR1 _ _ (by first | assumption | exact trivial) (Nat.le_of_ble_eq_true rfl) ?_; clear hRR1 RR1
        cases h2 : r.2 with
        | true =>
          (refine a_next ?_; refine a_true ?_; refine e_ret_then ?_; refine e_ret_block ?_; refine e_ret_then ?_; refine e_ret_block ?_; refine a_ret0 ?_)
          obtain ⟨g1, g2⟩ := hall _ hp3 (hpi.2 h2)
          exact hR _ _ g1 g2 hD5 (hC2.trans hC5)
        | false =>
          (refine a_next ?_; refine a_false ?_; refine e_norm_skip ?_)
          exact e_restN (rest7 _ _ hp3 hD5 (hC2.trans hC5)) (by exact sub_)
      · clear hKd
        cases wb with
        | false =>
          (refine e_seq fun K1 hK1 => ?_; refine e_region ?_; refine A_move ?_; refine A_move ?_; refine A_pass ?_; refine A_pick_f ?_; refine A_move ?_; refine A_pass ?_; 
             refine A_pass ?_; refine A_pick_f ?_; refine a_next ?_; refine a_false ?_; refine e_norm_skip ?_)
          exact e_restN (rest7 _ _ hp2 hD2 hC2) (by exact sub_)
        | true =>
          cases wp with
          | false =>
            (refine e_seq fun K1 hK1 => ?_; refine e_region ?_; refine A_move ?_; refine A_move ?_; refine A_want ?_; refine A_move ?_; refine A_pick_t ?_; refine A_move ?_; 
               refine A_pass ?_; refine A_pass ?_; refine A_pick_f ?_; refine a_next ?_; refine a_false ?_; refine e_norm_skip ?_)
            exact e_restN (rest7 _ _ hp2 hD2 hC2) (by exact sub_)
          | true =>
            have hne : ¬ h = 1 := fun e => hyes ⟨rfl, rfl, e⟩
            (refine e_seq fun K1 hK1 => ?_; refine e_region ?_; refine A_move ?_; refine A_move ?_; refine A_want ?_; refine A_move ?_; refine A_pick_t ?_; refine A_move ?_; 
               refine A_want ?_; refine A_move ?_; refine A_want ?_; refine A_eql ?_; refine A_pick_t ?_; refine a_next ?_; refine a_false ?_; refine e_norm_skip ?_)
            exact e_restN (rest7 _ _ hp2 hD2 hC2) (by exact sub_)
    by_cases hdec : hh = 2
    · clear hKc
      (refine a_true ?_; refine e_seq fun K1 hK1 => ?_; refine e_region ?_; refine A_move ?_; refine A_move ?_; refine A_move ?_; refine A_move ?_)
      (with_reducible apply E_call); rfl; exact Try.en62; rfl; intro RR1 hRR1
      refine reverseRange62 _ a' b' d1 _ _ hD5 hb' (by omega) fun w6 hD6 hC6 => ?_
      have hp2 := Sort.reverseRange_holds d1 a' b' hab' (by omega)
      refine hRR1 _ _ (by first | assumption | exact trivial) (Nat.le_of_ble_eq_true rfl) ?_; clear hRR1 RR1
      (refine a_next ?_; refine e_seq fun K1 hK1 => ?_; refine e_region ?_; refine A_move ?_; refine A_subN1 ?_; refine A_move ?_; refine A_move ?_; refine A_subN ?_; 
         refine A_subN ?_; refine A_assign ?_; refine a_next ?_; refine e_region ?_; refine A_assign ?_; refine e_norm_nil ?_)
      exact e_restN (rest5 _ _ (b' - 1 - (r.1 - a')) 1 (by omega) (by omega) (Sort.permIn_trans _ _ _ a' b' hp1 hp2) hD6 (hC5.trans hC6)) (by exact sub_)
    · clear hKc
      (refine a_false ?_; refine e_norm_skip ?_)
      exact e_restN (rest5 _ _ r.1 hh hp1a hp1b hp1 hD5 hC5) (by exact sub_)
  cases wb with
  | false =>
    clear hKb
    (refine a_true ?_; refine e_seq fun K1 hK1 => ?_; refine e_region ?_; refine A_move ?_; refine A_move ?_; refine A_move ?_; refine A_move ?_)
    (with_reducible apply E_call); rfl; exact Try.en60; rfl; intro RR1 hRR1
    refine breakPatterns60 _ a' b' d0 _ _ hD3 hb' hab' hN2 fun w4 hD4 hC4 => ?_
    refine hRR1 _ _ (by first | assumption | exact trivial) (Nat.le_of_ble_eq_true rfl) ?_; clear hRR1 RR1
    (refine a_next ?_; refine e_region ?_; refine A_move ?_; refine A_subN1 ?_; refine A_assign ?_; refine e_norm_nil ?_)
    exact e_restN (rest4 _ _ (lim' - 1) (by omega) (Sort.breakPatterns_holds d0 a' b' hab' (by omega)) hD4 (hC3.trans hC4)) (by exact sub_)
  | true =>
    clear hKb
    (refine a_false ?_; refine e_norm_skip ?_)
    exact e_restN (rest4 _ _ lim' hlim' (Sort.permIn_refl _ _ _) hD3 hC3) (by exact sub_)
set_option maxRecDepth 10000 in
/-- slices.SortFunc: what comes out is sorted, and nothing is lost. -/
theorem sortFunc27 (hW : Sort.SWO (ltC cf)) (hN2 : 4 * N + 8 < 2305843009213693951) (d : Array It) (w : World) (RR : Ending → World → Prop) (hD : Dat w g cap N d) (hK : K w)
    (hR : ∀ w' d', d'.toList.Perm d.toList → Sort.SortedIn (ltC cf) 0 N d' → Dat w' g cap N d' → Ch (fun k => k = g) w w' → RR (.returned (.tuple #[])) w') :
    Calls Try.prog 27 #[(.slice (some ⟨g, 0, none⟩) N cap), (.func (.func f) first fc)] w RR := by
  have hs := hD.size
  have hbl : Sort.bitsLen N ≤ 64 := (Sort.bitsLen_le_iff N 64).2 (by omega)
  refine e_enter (n := ⟨14, []⟩) Try.mixed Try.func27 Try.p27 Try.x27 Try.fb27 Try.hx27 Try.ok27 rfl rfl (by simp) ?_; simp only [Try.x27, argEnv, Nat.zero_add, Nat.reduceAdd]
  (refine e_seq fun K1 hK1 => ?_; refine e_region ?_; refine A_move ?_; refine A_lenS ?_; refine A_assign ?_; refine a_next ?_; refine e_region ?_; refine A_move ?_; 
     refine A_move ?_; refine A_move ?_)
  refine E_conv (j := (N : Int)) rfl (by rw [und3]; rfl) und83 (by rw [IntKind.wrap_u64]; omega) (Nat.le_of_ble_eq_true rfl) ?_
  (with_reducible apply E_call); rfl; exact Try.en49; rfl; intro RR1 hRR1
  refine bitsLen49 N (by omega) _ _ ?_
  refine hRR1 _ _ (by first | assumption | exact trivial) (Nat.le_of_ble_eq_true rfl) ?_; clear hRR1 RR1
  refine A_move ?_
  (with_reducible apply E_call); rfl; exact Try.en48; rfl; intro RR1 hRR1
  refine pdqsort48 hC hW hN2 N 0 N (Sort.bitsLen N) d _ _ (by omega) hD hK (Nat.zero_le _) (Nat.le_refl _) hbl (.inl rfl) fun w2 d' h1 h2 hD2 hC2 => ?_
  refine hRR1 _ _ (by first | assumption | exact trivial) (Nat.le_of_ble_eq_true rfl) ?_; clear hRR1 RR1
  (refine e_norm_nil ?_; refine a_end0 ?_)
  refine hR _ d' ?_ h2 hD2 hC2
  have h3 := h1.2.2
  have e1 : d'.extract 0 N = d' := by rw [← hD2.size]; simp
  have e2 : d.extract 0 N = d := by rw [← hs]; simp
  rwa [e1, e2] at h3
end
end Go.Proofs.Ytjocklgihjbaiaa
end
section
/- The plain law of the walk: what is gone over falls into parts, each behind all that it waits for. No program in sight. -/
namespace Go.Proofs.Ytjocklgihjbaiaa.PT
variable {α : Type}
/-- From one to another one, by none or more edges. -/
inductive Path (W : α → List α) : α → α → Prop
  | refl (x : α) : Path W x x
  | step {x y z : α} (h : y ∈ W x) (p : Path W y z) : Path W x z
theorem Path.trans {W : α → List α} {x y z : α} (p : Path W x y) (q : Path W y z) : Path W x z := by
  induction p with
  | refl => exact q
  | step h _ ih => exact .step h (ih q)
theorem Path.one {W : α → List α} {x y : α} (h : y ∈ W x) : Path W x y := .step h (.refl _)
theorem Path.snoc {W : α → List α} {x y z : α} (p : Path W x y) (h : z ∈ W y) : Path W x z := p.trans (.one h)
/-- What holds of the first, and goes on along edges, holds of the last. -/
theorem Path.keep {W : α → List α} {Q : α → Prop} (hQ : ∀ u v, Q u → v ∈ W u → Q v) {x y : α} (p : Path W x y) (h : Q x) : Q y := by
  induction p with
  | refl => exact h
  | step e _ ih => exact ih (hQ _ _ h e)
theorem nodup_le [DecidableEq α] : ∀ (l m : List α), l.Nodup → (∀ x ∈ l, x ∈ m) → l.length ≤ m.length
  | [], _, _, _ => Nat.zero_le _
  | a :: l, m, hn, hs => by
    have ha : a ∈ m := hs a (List.mem_cons_self ..)
    have := nodup_le l (m.erase a) (List.nodup_cons.1 hn).2 fun x hx => by
      have hne : x ≠ a := fun e => (List.nodup_cons.1 hn).1 (e ▸ hx)
      exact (List.mem_erase_of_ne hne).2 (hs x (List.mem_cons_of_mem _ hx))
    rw [List.length_erase_of_mem ha] at this
    have hpos : 0 < m.length := List.length_pos_of_mem ha
    simp only [List.length_cons]
    omega
/-- With what stands behind each one that is gone over. -/
abbrev Gh (α : Type) := α × List α × List α
def SG : List (Gh α) → List α
  | [] => []
  | g :: G => SG G ++ (g.1 :: g.2.2)
/-- The parts: all that one waits for lies in it, or before it, or is missing. -/
def InvP (ok : α → Bool) (W : α → List α) (srt : List α → List α) (missing : List α) : List (List α) → Prop
  | [] => True
  | p :: ps => (∀ u ∈ p, ∀ v ∈ W u, v ∈ p ∨ v ∈ ps.flatten ∨ (ok v = false ∧ v ∈ missing)) ∧ (∀ u ∈ p, ∀ v ∈ p, Path W u v) ∧ (∃ l : List α, l.Nodup ∧ p = srt l) ∧ InvP ok W srt missing ps
section
variable {ok : α → Bool} {W : α → List α} {srt : List α → List α} {r : α}
theorem InvP.mono {missing missing' : List α} (hm : ∀ x ∈ missing, x ∈ missing') : ∀ {ps : List (List α)}, InvP ok W srt missing ps → InvP ok W srt missing' ps
  | [], _ => trivial
  | p :: ps, ⟨h1, h2, h3, h4⟩ => ⟨fun u hu v hv => (h1 u hu v hv).imp id fun h => h.imp id fun h => ⟨h.1, hm _ h.2⟩, h2, h3, h4.mono hm⟩
theorem SG_len : ∀ (G : List (Gh α)), G.length ≤ (SG G).length
  | [] => Nat.zero_le _
  | g :: G => by
    have := SG_len G
    simp only [SG, List.length_append, List.length_cons]
    omega
theorem flat_len : ∀ (l : List (List α)), (∀ p ∈ l, p ≠ []) → l.length ≤ l.flatten.length
  | [], _ => Nat.zero_le _
  | p :: l, h => by
    have h1 := flat_len l fun q hq => h q (List.mem_cons_of_mem _ hq)
    have h2 := List.length_pos_iff.2 (h p (List.mem_cons_self ..))
    simp only [List.flatten_cons, List.length_append, List.length_cons]
    omega
theorem frames_mem : ∀ {G : List (Gh α)}, ∀ g ∈ G, g.1 ∈ SG G
  | g' :: G, g, hg => by
    rcases List.mem_cons.1 hg with rfl | hg
    · simp [SG]
    · simp [SG, frames_mem g hg]
theorem InvP.closed {missing : List α} : ∀ {ps : List (List α)}, InvP ok W srt missing ps → ∀ u ∈ ps.flatten, ∀ v ∈ W u, v ∈ ps.flatten ∨ (ok v = false ∧ v ∈ missing)
  | p :: ps, ⟨h1, _, _, h4⟩, u, hu, v, hv => by
    rw [List.flatten_cons] at hu ⊢
    simp only [List.mem_append] at hu ⊢
    rcases hu with hu | hu
    · rcases h1 u hu v hv with a | a | a
      · exact .inl (.inl a)
      · exact .inl (.inr a)
      · exact .inr a
    · exact (h4.closed u hu v hv).imp .inr id
theorem mem_rev {ps : List (List α)} {v : α} : v ∈ ps.reverse.flatten ↔ v ∈ ps.flatten := by simp [List.mem_flatten]
/-- Of two, the one behind is waited for by the one ahead only if they wait for each other; then they stand as they are sorted. -/
theorem InvP.order {missing : List α} {before : α → α → Prop} (hno : ∀ y, ok y = false → W y = []) (hsrt : ∀ l : List α, l.Nodup → (srt l).Pairwise before) : ∀ {ps : List (List α)}, InvP ok W srt missing ps → ps.flatten.Nodup → (∀ v ∈ ps.flatten, ok v = true) →
    ps.reverse.flatten.Pairwise fun a b => Path W a b → Path W b a ∧ before a b
  | [], _, _, _ => by simp
  | p :: ps, hI, hn, ho => by
    have hcl := hI.closed
    obtain ⟨h1, h2, ⟨l, hl, hp⟩, h4⟩ := hI
    rw [List.flatten_cons, List.nodup_append] at hn
    rw [List.reverse_cons, List.flatten_append, List.pairwise_append]
    have ho' : ∀ v ∈ ps.flatten, ok v = true := fun v hv => ho v (by simp only [List.flatten_cons, List.mem_append]; exact .inr hv)
    refine ⟨h4.order hno hsrt hn.2.1 ho', ?_, ?_⟩
    · simp only [List.flatten_cons, List.flatten_nil, List.append_nil]
      have := hsrt l hl
      rw [← hp] at this
      exact this.imp_of_mem fun ha hb hab _ => ⟨h2 _ hb _ ha, hab⟩
    · intro a ha b hb pab
      simp only [List.flatten_cons, List.flatten_nil, List.append_nil] at hb
      have ha' := mem_rev.1 ha
      have : b ∈ ps.flatten ∨ (ok b = false ∧ b ∈ missing) := by
        refine Path.keep (Q := fun v => v ∈ ps.flatten ∨ (ok v = false ∧ v ∈ missing)) ?_ pab (.inl ha')
        rintro u v (hu | hu) hv
        · exact h4.closed u hu v hv
        · rw [hno u hu.1] at hv; cases hv
      rcases this with h | h
      · exact absurd rfl (hn.2.2 b hb b h)
      · have := ho b (by simp only [List.flatten_cons, List.mem_append]; exact .inl hb)
        rw [h.1] at this; cases this
end
variable [DecidableEq α]
/-- The place of a thing in a row. -/
abbrev ix (l : List α) (x : α) : Nat := l.idxOf x
theorem ix_lt {l : List α} {x : α} (h : x ∈ l) : ix l x < l.length := List.idxOf_lt_length_of_mem h
theorem ix_get {l : List α} {x : α} (h : x ∈ l) : l[ix l x]? = some x := by
  rw [List.getElem?_eq_getElem (ix_lt h), List.getElem_idxOf (ix_lt h)]
theorem ix_before {l : List α} {x : α} {j : Nat} (h : j < ix l x) : l[j]? ≠ some x := fun he => by
  obtain ⟨hj', he'⟩ := List.getElem?_eq_some_iff.1 he
  have := List.not_of_lt_findIdx (p := (· == x)) (xs := l) (i := j) (by simpa [ix, List.idxOf] using h)
  simp [he'] at this
/-- A walk: what was met, in that order; how low each reaches; what waits for its part; what is gone over (the last one first) with what is left of it; parts; what is missing. -/
structure St (α : Type) where
  V : List α
  low : α → Nat
  S : List α
  FR : List (α × List α)
  parts : List (List α)
  missing : List α
section
variable (ok : α → Bool) (W : α → List α) (srt : List α → List α)
def St.push (s : St α) (x : α) : St α :=
  { s with V := s.V ++ [x], low := fun y => if y = x then s.V.length else s.low y, S := s.S ++ [x], FR := (x, W x) :: s.FR }
def St.part (s : St α) (x : α) : St α :=
  { s with S := s.S.take (s.S.idxOf x), parts := s.parts ++ [srt (s.S.drop (s.S.idxOf x))] }
def St.lower (s : St α) (x : α) (k : Nat) : St α := { s with low := fun y => if y = x then min (s.low x) k else s.low y }
/-- The last one is over: the one below hears of it. -/
def St.popped (s : St α) (x : α) (F : List (α × List α)) : St α :=
  match F with
  | [] => { s with FR := [] }
  | (u, r) :: F => { (s.lower u (s.low x)) with FR := (u, r) :: F }
def St.step (s : St α) : St α :=
  match s.FR with
  | [] => s
  | (x, []) :: F =>
    let s1 := s.popped x F
    if s1.low x = s1.V.idxOf x then s1.part srt x else s1
  | (x, y :: r) :: F =>
    let s1 := { s with FR := (x, r) :: F }
    if ok y = false then (if y ∈ s.missing then s1 else { s1 with missing := s.missing ++ [y] })
    else if y ∉ s.V then s1.push W y
    else if y ∈ s.S then s1.lower x (s.V.idxOf y)
    else s1
theorem St.step_next {s : St α} {x y : α} {rest : List α} {F : List (α × List α)} (hF : s.FR = (x, y :: rest) :: F) : s.step ok W srt =
    (if ok y = false then (if y ∈ s.missing then { s with FR := (x, rest) :: F } else { s with FR := (x, rest) :: F, missing := s.missing ++ [y] })
      else if y ∉ s.V then St.push W { s with FR := (x, rest) :: F } y
      else if y ∈ s.S then St.lower { s with FR := (x, rest) :: F } x (ix s.V y) else { s with FR := (x, rest) :: F }) := by
  unfold St.step
  rw [hF]
theorem St.step_pop {s : St α} {x : α} {F : List (α × List α)} (hF : s.FR = (x, []) :: F) : s.step ok W srt = if (s.popped x F).low x = ix (s.popped x F).V x then (s.popped x F).part srt x else s.popped x F := by
  unfold St.step
  rw [hF]
section
variable (r : α) (V : List α) (low : α → Nat) (S : List α) (parts : List (List α)) (missing : List α)
/-- An edge that was gone over. -/
def Met (v : α) (l : Nat) : Prop := (ok v = false ∧ v ∈ missing) ∨ v ∈ parts.flatten ∨ (v ∈ S ∧ l ≤ V.idxOf v)
def InvG : List (Gh α) → Prop
  | [] => True
  | g :: G => (∃ v ∈ SG G ++ [g.1], V.idxOf v = low g.1 ∧ Path W g.1 v) ∧ (∀ u ∈ g.2.2, Path W g.1 u ∧ Path W u g.1) ∧
      (match G with | [] => g.1 = r | g' :: _ => g.1 ∈ W g'.1) ∧ InvG G
/-- The edges; up: the one above. -/
def InvE : Option α → List (Gh α) → Prop
  | _, [] => True
  | up, g :: G => (∀ u ∈ g.2.2, ∀ v ∈ W u, Met ok V S parts missing v (low g.1)) ∧ (∃ pre, W g.1 = pre ++ g.2.1 ∧ ∀ v ∈ pre, Met ok V S parts missing v (low g.1) ∨ some v = up) ∧ InvE (some g.1) G
end
structure Inv (r : α) (s : St α) : Prop where
  rv : r ∈ s.V
  nd : s.V.Nodup
  oks : ∀ v ∈ s.V, ok v = true ∧ Path W r v
  sv : ∀ v, v ∈ s.V ↔ v ∈ s.S ∨ v ∈ s.parts.flatten
  sp : ∀ v ∈ s.S, v ∉ s.parts.flatten
  sn : s.S.Pairwise fun a b => s.V.idxOf a < s.V.idxOf b
  pn : s.parts.flatten.Nodup
  mi : ∀ m ∈ s.missing, ok m = false ∧ Path W r m
  mn : s.missing.Nodup
  pa : InvP ok W srt s.missing s.parts.reverse
  pl : ∀ p ∈ s.parts, p ≠ []
  gh : ∃ G : List (Gh α), s.FR = G.map (fun g => (g.1, g.2.1)) ∧ s.S = SG G ∧ InvG W r s.V s.low G ∧ InvE ok W s.V s.low s.S s.parts s.missing none G
end
section
variable {ok : α → Bool} {W : α → List α} {srt : List α → List α} {r : α}
theorem Met.mono {V V' S S' : List α} {parts parts' : List (List α)} {missing missing' : List α} {v : α} {l l' : Nat} (h : Met ok V S parts missing v l)
    (hm : ∀ x ∈ missing, x ∈ missing') (hp : ∀ x ∈ parts.flatten, x ∈ parts'.flatten) (hs : v ∈ S → l ≤ V.idxOf v → v ∈ parts'.flatten ∨ (v ∈ S' ∧ l' ≤ V'.idxOf v)) : Met ok V' S' parts' missing' v l' := by
  rcases h with ⟨h1, h2⟩ | h | ⟨h1, h2⟩
  · exact .inl ⟨h1, hm _ h2⟩
  · exact .inr (.inl (hp _ h))
  · exact .inr (hs h1 h2)
theorem InvE.mono {V V' S S' : List α} {low low' : α → Nat} {parts parts' : List (List α)} {missing missing' : List α} : ∀ {G : List (Gh α)} {up up' : Option α}, InvE ok W V low S parts missing up G →
    (∀ x ∈ missing, x ∈ missing') → (∀ x ∈ parts.flatten, x ∈ parts'.flatten) → (∀ g ∈ G, ∀ v, v ∈ S → low g.1 ≤ V.idxOf v → v ∈ parts'.flatten ∨ (v ∈ S' ∧ low' g.1 ≤ V'.idxOf v)) →
    (∀ v g, G.head? = some g → some v = up → Met ok V' S' parts' missing' v (low' g.1) ∨ some v = up') → InvE ok W V' low' S' parts' missing' up' G
  | [], _, _, _, _, _, _, _ => trivial
  | g :: G, up, up', ⟨h1, ⟨pre, h2, h3⟩, h4⟩, hm, hp, hs, hu => by
    refine ⟨fun u hu' v hv => (h1 u hu' v hv).mono hm hp (hs g (List.mem_cons_self ..) v), ⟨pre, h2, fun v hv => ?_⟩, InvE.mono h4 hm hp (fun g' hg' => hs g' (List.mem_cons_of_mem _ hg')) fun v g' _ h => .inr h⟩
    rcases h3 v hv with h | h
    · exact .inl (h.mono hm hp (hs g (List.mem_cons_self ..) v))
    · exact hu v g rfl h
theorem InvG.mono {V V' : List α} {low low' : α → Nat} : ∀ {G : List (Gh α)}, InvG W r V low G → (∀ v ∈ SG G, V'.idxOf v = V.idxOf v) → (∀ g ∈ G, low' g.1 = low g.1) → InvG W r V' low' G
  | [], _, _, _ => trivial
  | g :: G, ⟨⟨v, hv, h1, h2⟩, h3, h4, h5⟩, hV, hl => by
    refine ⟨⟨v, hv, ?_, h2⟩, h3, h4, InvG.mono h5 (fun u hu => hV u (by simp [SG, hu])) fun g' hg' => hl g' (List.mem_cons_of_mem _ hg')⟩
    rw [hV v ?_, hl g (List.mem_cons_self ..), h1]
    simp only [List.mem_append, List.mem_singleton] at hv
    simp only [SG, List.mem_append, List.mem_cons]
    rcases hv with h | h
    · exact .inl h
    · exact .inr (.inl h)
/-- All that stands below reaches the last one. -/
theorem reach_top {V : List α} {low : α → Nat} : ∀ {G : List (Gh α)} {g : Gh α}, InvG W r V low (g :: G) → ∀ v ∈ SG (g :: G), Path W v g.1
  | [], g, ⟨_, h3, _, _⟩, v, hv => by
    simp only [SG, List.nil_append, List.mem_cons] at hv
    rcases hv with rfl | hv
    · exact .refl _
    · exact (h3 v hv).2
  | g' :: G, g, ⟨_, h3, h4, h5⟩, v, hv => by
    simp only [SG, List.mem_append] at hv
    rcases hv with hv | hv
    · exact (reach_top h5 v (by simpa [SG] using hv)).snoc h4
    · rcases List.mem_cons.1 hv with rfl | hv
      · exact .refl _
      · exact (h3 v hv).2
theorem idx_snoc {V : List α} {v y : α} (h : v ∈ V) : (V ++ [y]).idxOf v = V.idxOf v := by rw [List.idxOf_append, if_pos h]
theorem idx_new {V : List α} {y : α} (h : y ∉ V) : (V ++ [y]).idxOf y = V.length := by
  rw [List.idxOf_append, if_neg h]; simp
theorem Inv.svm {s : St α} (h : Inv ok W srt r s) {v : α} (hv : v ∈ s.S) : v ∈ s.V := (h.sv v).2 (.inl hv)
theorem Inv.sd {s : St α} (h : Inv ok W srt r s) : s.S.Nodup := h.sn.imp fun h e => by rw [e] at h; omega
theorem Inv.fm {s : St α} (h : Inv ok W srt r s) {f : α × List α} (hf : f ∈ s.FR) : f.1 ∈ s.S := by
  obtain ⟨G, g1, g2, _⟩ := h.gh
  rw [g1] at hf
  obtain ⟨g, hg, rfl⟩ := List.mem_map.1 hf
  rw [g2]; exact frames_mem g hg
theorem Inv.fl {s : St α} (h : Inv ok W srt r s) : s.FR.length ≤ s.S.length := by
  obtain ⟨G, g1, g2, _⟩ := h.gh
  rw [g1, g2, List.length_map]; exact SG_len G
theorem Inv.slen {s : St α} (h : Inv ok W srt r s) : s.S.length ≤ s.V.length := nodup_le _ _ h.sd fun x hx => (h.sv x).2 (.inl hx)
theorem Inv.plen {s : St α} (h : Inv ok W srt r s) : s.parts.length ≤ s.V.length :=
  Nat.le_trans (flat_len _ h.pl) (nodup_le _ _ h.pn fun x hx => (h.sv x).2 (.inr hx))
theorem inv_push {s : St α} (h : Inv ok W srt r s) {x y : α} {rest : List α} {F : List (α × List α)} (hF : s.FR = (x, y :: rest) :: F) (hy : ok y = true) (hn : y ∉ s.V) :
    Inv ok W srt r (({ s with FR := (x, rest) :: F } : St α).push W y) := by
  obtain ⟨G, g1, g2, g3, g4⟩ := h.gh
  have hxy : y ∈ W x := by
    cases G with
    | nil => rw [hF] at g1; cases g1
    | cons g G =>
      rw [hF] at g1
      simp only [List.map_cons, List.cons.injEq, Prod.mk.injEq] at g1
      obtain ⟨⟨rfl, e⟩, _⟩ := g1
      obtain ⟨_, ⟨pre, e1, _⟩, _⟩ := g4
      rw [e1, ← e]; simp
  have hyS : y ∉ s.S := fun hs => hn (h.svm hs)
  have hix : ∀ v ∈ s.V, (s.V ++ [y]).idxOf v = s.V.idxOf v := fun v hv => idx_snoc hv
  have hxV : x ∈ s.V := by
    have : x ∈ s.S := by
      rw [g2]
      cases G with
      | nil => rw [hF] at g1; cases g1
      | cons g G =>
        rw [hF] at g1
        simp only [List.map_cons, List.cons.injEq, Prod.mk.injEq] at g1
        obtain ⟨⟨rfl, _⟩, _⟩ := g1
        exact frames_mem g (List.mem_cons_self ..)
    exact h.svm this
  refine ⟨List.mem_append_left _ h.rv, ?_, ?_, ?_, ?_, ?_, h.pn, h.mi, h.mn, h.pa, h.pl, ?_⟩
  · show (s.V ++ [y]).Nodup
    rw [List.nodup_append]
    exact ⟨h.nd, by simp, fun a ha b hb e => hn (by simp at hb; subst hb; exact e ▸ ha)⟩
  · intro v hv
    simp only [St.push, List.mem_append, List.mem_singleton] at hv
    rcases hv with hv | rfl
    · exact h.oks v hv
    · exact ⟨hy, (h.oks x hxV).2.snoc hxy⟩
  · intro v
    simp only [St.push, List.mem_append, List.mem_singleton, h.sv v]
    constructor
    · rintro ((a | a) | a)
      · exact .inl (.inl a)
      · exact .inr a
      · exact .inl (.inr a)
    · rintro ((a | a) | a)
      · exact .inl (.inl a)
      · exact .inr a
      · exact .inl (.inr a)
  · intro v hv
    simp only [St.push, List.mem_append, List.mem_singleton] at hv
    rcases hv with hv | rfl
    · exact h.sp v hv
    · exact fun hp => hn ((h.sv _).2 (.inr hp))
  · show (s.S ++ [y]).Pairwise fun a b => (s.V ++ [y]).idxOf a < (s.V ++ [y]).idxOf b
    rw [List.pairwise_append]
    refine ⟨?_, List.pairwise_singleton .., fun a ha b hb => ?_⟩
    · refine h.sn.imp_of_mem fun ha hb hab => ?_
      rw [hix _ (h.svm ha), hix _ (h.svm hb)]; exact hab
    · simp only [List.mem_singleton] at hb
      subst hb
      rw [hix _ (h.svm ha), idx_new hn]
      exact List.idxOf_lt_length_of_mem (h.svm ha)
  · cases G with
    | nil => rw [hF] at g1; cases g1
    | cons g G =>
      rw [hF] at g1
      simp only [List.map_cons, List.cons.injEq, Prod.mk.injEq] at g1
      obtain ⟨⟨rfl, e⟩, rfl⟩ := g1
      obtain ⟨gx, gr, gs⟩ := g
      simp only at e hxy hxV hF
      subst e
      have hne : ∀ g' ∈ (gx, y :: rest, gs) :: G, g'.1 ≠ y := fun g' hg' e => hyS (by have hm := frames_mem g' hg'; rw [e] at hm; rw [g2]; exact hm)
      have hlow : ∀ g' ∈ (gx, y :: rest, gs) :: G, (if g'.1 = y then s.V.length else s.low g'.1) = s.low g'.1 := fun g' hg' => if_neg (hne g' hg')
      refine ⟨(y, W y, []) :: (gx, rest, gs) :: G, rfl, ?_, ?_, ?_⟩
      · show s.S ++ [y] = _
        rw [g2]; simp [SG]
      · refine ⟨⟨y, by simp, ?_, .refl _⟩, by simp, hxy, ?_⟩
        · simp only [St.push, if_pos]; exact idx_new hn
        · have := InvG.mono (V' := s.V ++ [y]) (low' := fun z => if z = y then s.V.length else s.low z) g3 (fun v hv => hix v (h.svm (g2 ▸ hv))) hlow
          exact this
      · refine ⟨by simp, ⟨[], by simp, by simp⟩, ?_⟩
        obtain ⟨e1, ⟨pre, e2, e3⟩, e4⟩ := g4
        have mon : ∀ g' ∈ (gx, y :: rest, gs) :: G, ∀ v, v ∈ s.S → s.low g'.1 ≤ s.V.idxOf v → v ∈ s.parts.flatten ∨ (v ∈ s.S ++ [y] ∧ (if g'.1 = y then s.V.length else s.low g'.1) ≤ (s.V ++ [y]).idxOf v) := by
          intro g' hg' v hv hl
          refine .inr ⟨List.mem_append_left _ hv, ?_⟩
          rw [hlow g' hg', hix v (h.svm hv)]; exact hl
        refine ⟨fun u hu v hv => (e1 u hu v hv).mono (fun _ h => h) (fun _ h => h) (mon _ (List.mem_cons_self ..) v), ⟨pre ++ [y], by simp [e2], fun v hv => ?_⟩, ?_⟩
        · rcases List.mem_append.1 hv with hv | hv
          · rcases e3 v hv with h1 | h1
            · exact .inl (h1.mono (fun _ h => h) (fun _ h => h) (mon _ (List.mem_cons_self ..) v))
            · cases h1
          · simp only [List.mem_singleton] at hv
            exact .inr (by rw [hv])
        · exact e4.mono (fun _ h => h) (fun _ h => h) (fun g' hg' => mon g' (List.mem_cons_of_mem _ hg')) fun v g' _ h => .inr h
/-- The last one's next edge was met. -/
theorem inv_next {s s' : St α} (h : Inv ok W srt r s) {x y : α} {rest : List α} {F : List (α × List α)} (hF : s.FR = (x, y :: rest) :: F) (hF' : s'.FR = (x, rest) :: F) (hV : s'.V = s.V) (hS : s'.S = s.S) (hP : s'.parts = s.parts)
    (hM : ∀ m ∈ s.missing, m ∈ s'.missing) (hMn : s'.missing.Nodup) (hMo : ∀ m ∈ s'.missing, m ∈ s.missing ∨ (m = y ∧ ok y = false))
    (hl : ∀ z, z ≠ x → s'.low z = s.low z) (hlx : s'.low x = s.low x ∨ (y ∈ s.S ∧ s'.low x = min (s.low x) (s.V.idxOf y)))
    (hy : Met ok s.V s.S s.parts s'.missing y (s'.low x)) : Inv ok W srt r s' := by
  obtain ⟨G, g1, g2, g3, g4⟩ := h.gh
  cases G with
  | nil => rw [hF] at g1; cases g1
  | cons g G =>
    rw [hF] at g1
    simp only [List.map_cons, List.cons.injEq, Prod.mk.injEq] at g1
    obtain ⟨⟨rfl, e⟩, rfl⟩ := g1
    obtain ⟨gx, gr, gs⟩ := g
    simp only at e hF hF' hl hlx hy
    subst e
    have hxS : gx ∈ s.S := by rw [g2]; exact frames_mem _ (List.mem_cons_self ..)
    have hxV := h.svm hxS
    have hxy : y ∈ W gx := by
      obtain ⟨_, ⟨pre, e1, _⟩, _⟩ := g4
      simp only at e1
      rw [e1]; simp
    have hle : s'.low gx ≤ s.low gx := by
      rcases hlx with e | ⟨_, e⟩
      · omega
      · omega
    have hsn := h.sn
    rw [g2] at hsn
    simp only [SG] at hsn
    rw [List.pairwise_append] at hsn
    have hGx : ∀ g' ∈ G, g'.1 ≠ gx := fun g' hg' e => by
      have := hsn.2.2 g'.1 (frames_mem g' hg') gx (List.mem_cons_self ..)
      rw [e] at this; omega
    refine ⟨hV ▸ h.rv, hV ▸ h.nd, hV ▸ h.oks, by rw [hV, hS, hP]; exact h.sv, by rw [hS, hP]; exact h.sp, by rw [hV, hS]; exact h.sn, hP ▸ h.pn, ?_, hMn, by rw [hP]; exact h.pa.mono hM, hP ▸ h.pl, ?_⟩
    · intro m hm
      rcases hMo m hm with hm | ⟨rfl, hm⟩
      · exact h.mi m hm
      · exact ⟨hm, (h.oks gx hxV).2.snoc hxy⟩
    · refine ⟨(gx, rest, gs) :: G, by rw [hF']; rfl, by rw [hS, g2]; rfl, ?_, ?_⟩
      · rw [hV]
        obtain ⟨⟨v, hv, i1, i2⟩, i3, i4, i5⟩ := g3
        refine ⟨?_, i3, i4, i5.mono (fun _ _ => rfl) fun g' hg' => hl _ (hGx g' hg')⟩
        rcases hlx with e | ⟨hyS, e⟩
        · exact ⟨v, hv, by rw [e]; exact i1, i2⟩
        · by_cases hc : s.low gx ≤ s.V.idxOf y
          · exact ⟨v, hv, by show _ = s'.low gx; rw [e]; have i1' : s.V.idxOf v = s.low gx := i1; omega, i2⟩
          · refine ⟨y, ?_, by show _ = s'.low gx; rw [e]; omega, .one hxy⟩
            have hvx : s.V.idxOf v ≤ s.V.idxOf gx := by
              simp only [List.mem_append, List.mem_singleton] at hv
              rcases hv with hv | rfl
              · exact Nat.le_of_lt (hsn.2.2 v hv gx (List.mem_cons_self ..))
              · exact Nat.le_refl _
            have i1' : s.V.idxOf v = s.low gx := i1
            rw [g2] at hyS
            simp only [SG, List.mem_append, List.mem_cons] at hyS
            simp only [List.mem_append, List.mem_singleton]
            rcases hyS with hyS | rfl | hyS
            · exact .inl hyS
            · exact .inr rfl
            · have := (List.pairwise_cons.1 hsn.2.1).1 y hyS
              omega
      · rw [hV, hS, hP]
        obtain ⟨e1, ⟨pre, e2, e3⟩, e4⟩ := g4
        have mon : ∀ v, v ∈ s.S → s.low gx ≤ s.V.idxOf v → v ∈ s.parts.flatten ∨ (v ∈ s.S ∧ s'.low gx ≤ s.V.idxOf v) := fun v hv hl => .inr ⟨hv, by omega⟩
        refine ⟨fun u hu v hv => (e1 u hu v hv).mono hM (fun _ h => h) (mon v), ⟨pre ++ [y], by simp only at e2; simp [e2], fun v hv => ?_⟩, e4.mono hM (fun _ h => h) (fun g' hg' v hv hlv => .inr ⟨hv, by rw [hl _ (hGx g' hg')]; exact hlv⟩) fun v g' _ h => .inr h⟩
        rcases List.mem_append.1 hv with hv | hv
        · rcases e3 v hv with h1 | h1
          · exact .inl (h1.mono hM (fun _ h => h) (mon v))
          · cases h1
        · simp only [List.mem_singleton] at hv
          subst hv
          exact .inl hy
theorem idx_split {A B : List α} {x : α} (h : x ∉ A) : (A ++ x :: B).idxOf x = A.length := by
  rw [List.idxOf_append, if_neg h]; simp
theorem inv_pop {s : St α} (hs : ∀ l : List α, (srt l).Perm l) (h : Inv ok W srt r s) {x : α} {F : List (α × List α)} (hF : s.FR = (x, []) :: F) : Inv ok W srt r (s.step ok W srt) := by
  obtain ⟨G, g1, g2, g3, g4⟩ := h.gh
  cases G with
  | nil => rw [hF] at g1; cases g1
  | cons g G =>
    rw [hF] at g1
    simp only [List.map_cons, List.cons.injEq, Prod.mk.injEq] at g1
    obtain ⟨⟨rfl, e⟩, rfl⟩ := g1
    obtain ⟨x, gr, seg⟩ := g
    simp only at e hF
    subst e
    have hsn := h.sn
    rw [g2] at hsn
    simp only [SG] at hsn
    rw [List.pairwise_append] at hsn
    obtain ⟨sn1, sn2, sn3⟩ := hsn
    have sn4 := (List.pairwise_cons.1 sn2).1
    obtain ⟨⟨v0, hv0, i1, i2⟩, i3, i4, i5⟩ := g3
    simp only at i1 i2 i3
    have hv0x : s.V.idxOf v0 ≤ s.V.idxOf x := by
      simp only [List.mem_append, List.mem_singleton] at hv0
      rcases hv0 with hv | rfl
      · exact Nat.le_of_lt (sn3 v0 hv x (List.mem_cons_self ..))
      · exact Nat.le_refl _
    have hGx : ∀ g' ∈ G, s.V.idxOf g'.1 < s.V.idxOf x := fun g' hg' => sn3 g'.1 (frames_mem g' hg') x (List.mem_cons_self ..)
    have hGne : ∀ g' ∈ G, g'.1 ≠ x := fun g' hg' e => by have := hGx g' hg'; rw [e] at this; omega
    have hxG : x ∉ SG G := fun hx => by have := sn3 x hx x (List.mem_cons_self ..); omega
    obtain ⟨e1, ⟨pre, e2, e3⟩, e4⟩ := g4
    simp only [List.append_nil] at e1 e2 e3
    have e3' : ∀ v ∈ W x, Met ok s.V s.S s.parts s.missing v (s.low x) := fun v hv => (e3 v (e2 ▸ hv)).resolve_right (by simp)
    have eall : ∀ u ∈ x :: seg, ∀ v ∈ W u, Met ok s.V s.S s.parts s.missing v (s.low x) := by
      intro u hu
      rcases List.mem_cons.1 hu with rfl | hu
      · exact e3'
      · exact e1 u hu
    have hpop : (s.popped x (G.map fun g => (g.1, g.2.1))).V = s.V ∧ (s.popped x (G.map fun g => (g.1, g.2.1))).S = s.S ∧ (s.popped x (G.map fun g => (g.1, g.2.1))).low x = s.low x ∧
        (s.popped x (G.map fun g => (g.1, g.2.1))).parts = s.parts ∧ (s.popped x (G.map fun g => (g.1, g.2.1))).missing = s.missing ∧ (s.popped x (G.map fun g => (g.1, g.2.1))).FR = G.map (fun g => (g.1, g.2.1)) := by
      cases G with
      | nil => exact ⟨rfl, rfl, rfl, rfl, rfl, rfl⟩
      | cons g G =>
        refine ⟨rfl, rfl, ?_, rfl, rfl, rfl⟩
        simp only [List.map_cons, St.popped, St.lower]
        rw [if_neg (fun e => hGne g (List.mem_cons_self ..) e.symm)]
    have hstep : s.step ok W srt = if s.low x = s.V.idxOf x then (s.popped x (G.map fun g => (g.1, g.2.1))).part srt x else s.popped x (G.map fun g => (g.1, g.2.1)) := by
      unfold St.step
      rw [hF]
      simp only [hpop.2.2.1, hpop.1]
    rw [hstep]
    obtain ⟨p1, p2, p3, p4, p5, p6⟩ := hpop
    split
    · -- a part
      rename_i hlx
      have hS : s.S = SG G ++ (x :: seg) := by rw [g2]; rfl
      have hat : s.S.idxOf x = (SG G).length := by rw [hS]; exact idx_split hxG
      have htake : s.S.take (s.S.idxOf x) = SG G := by rw [hat, hS]; simp
      have hdrop : s.S.drop (s.S.idxOf x) = x :: seg := by rw [hat, hS]; simp
      have hlow : ∀ g' ∈ G, (s.popped x (G.map fun g => (g.1, g.2.1))).low g'.1 = s.low g'.1 := by
        cases G with
        | nil => intro g' hg'; cases hg'
        | cons g G =>
          intro g' _
          simp only [List.map_cons, St.popped, St.lower]
          split
          · rename_i e
            rw [e]
            obtain ⟨⟨v, hv, j1, _⟩, _⟩ := i5
            have : s.V.idxOf v ≤ s.V.idxOf g.1 := by
              simp only [SG] at sn1
              rw [List.pairwise_append] at sn1
              simp only [List.mem_append, List.mem_singleton] at hv
              rcases hv with hv | rfl
              · exact Nat.le_of_lt (sn1.2.2 v hv g.1 (List.mem_cons_self ..))
              · exact Nat.le_refl _
            have := hGx g (List.mem_cons_self ..)
            omega
          · rfl
      have hpm : ∀ v, v ∈ srt (x :: seg) ↔ v ∈ x :: seg := fun v => (hs _).mem_iff
      have hflat : ∀ v, v ∈ (s.parts ++ [srt (x :: seg)]).flatten ↔ v ∈ s.parts.flatten ∨ v ∈ x :: seg := fun v => by
        rw [List.flatten_append, List.mem_append]
        simp only [List.flatten_cons, List.flatten_nil, List.append_nil, hpm]
      have mon : ∀ g' ∈ G, ∀ v, v ∈ s.S → s.low g'.1 ≤ s.V.idxOf v → v ∈ (s.parts ++ [srt (x :: seg)]).flatten ∨ (v ∈ SG G ∧ s.low g'.1 ≤ s.V.idxOf v) := by
        intro g' hg' v hv hl
        rw [hS] at hv
        rcases List.mem_append.1 hv with hv | hv
        · exact .inr ⟨hv, hl⟩
        · exact .inl ((hflat v).2 (.inr hv))
      have hnd : (x :: seg).Nodup := sn2.imp fun h e => by rw [e] at h; omega
      refine ⟨?_, ?_, ?_, ?_, ?_, ?_, ?_, ?_, ?_, ?_, ?_, ⟨G, ?_, ?_, ?_, ?_⟩⟩
      · show r ∈ (s.popped x _).V; rw [p1]; exact h.rv
      · show (s.popped x _).V.Nodup; rw [p1]; exact h.nd
      · show ∀ v ∈ (s.popped x _).V, _; rw [p1]; exact h.oks
      · intro v
        show v ∈ (s.popped x _).V ↔ v ∈ (s.popped x _).S.take ((s.popped x _).S.idxOf x) ∨ v ∈ ((s.popped x _).parts ++ [srt ((s.popped x _).S.drop ((s.popped x _).S.idxOf x))]).flatten
        rw [p1, p2, p4, htake, hdrop, hflat, h.sv v, hS, List.mem_append]
        constructor
        · rintro ((a | a) | a)
          · exact .inl a
          · exact .inr (.inr a)
          · exact .inr (.inl a)
        · rintro (a | a | a)
          · exact .inl (.inl a)
          · exact .inr a
          · exact .inl (.inr a)
      · show ∀ v ∈ (s.popped x _).S.take ((s.popped x _).S.idxOf x), v ∉ ((s.popped x _).parts ++ [srt ((s.popped x _).S.drop ((s.popped x _).S.idxOf x))]).flatten
        rw [p2, p4, htake, hdrop]
        intro v hv
        rw [hflat]
        rintro (a | a)
        · exact h.sp v (by rw [hS]; exact List.mem_append_left _ hv) a
        · have := sn3 v hv v a; omega
      · show ((s.popped x _).S.take ((s.popped x _).S.idxOf x)).Pairwise fun a b => (s.popped x _).V.idxOf a < (s.popped x _).V.idxOf b
        rw [p1, p2, htake]; exact sn1
      · show ((s.popped x _).parts ++ [srt ((s.popped x _).S.drop ((s.popped x _).S.idxOf x))]).flatten.Nodup
        rw [p2, p4, hdrop, List.flatten_append, List.nodup_append]
        refine ⟨h.pn, ?_, ?_⟩
        · simp only [List.flatten_cons, List.flatten_nil, List.append_nil]
          exact (hs _).nodup_iff.2 hnd
        · intro a ha b hb e
          simp only [List.flatten_cons, List.flatten_nil, List.append_nil, hpm] at hb
          subst e
          exact h.sp a (by rw [hS]; exact List.mem_append_right _ hb) ha
      · show ∀ m ∈ (s.popped x _).missing, _; rw [p5]; exact h.mi
      · show (s.popped x _).missing.Nodup; rw [p5]; exact h.mn
      · show InvP ok W srt (s.popped x _).missing ((s.popped x _).parts ++ [srt ((s.popped x _).S.drop ((s.popped x _).S.idxOf x))]).reverse
        rw [p2, p4, p5, hdrop, List.reverse_append]
        refine ⟨?_, ?_, ⟨_, hnd, rfl⟩, h.pa⟩
        · intro u hu v hv
          rw [hpm] at hu ⊢
          rcases eall u hu v hv with a | a | ⟨a, b⟩
          · exact .inr (.inr a)
          · refine .inr (.inl ?_)
            rw [List.mem_flatten] at a ⊢
            obtain ⟨l, hl, hv⟩ := a
            exact ⟨l, List.mem_reverse.2 hl, hv⟩
          · rw [hS] at a
            rcases List.mem_append.1 a with a | a
            · have := sn3 v a x (List.mem_cons_self ..); omega
            · exact .inl a
        · intro u hu v hv
          rw [hpm] at hu hv
          have q1 : Path W u x := by
            rcases List.mem_cons.1 hu with rfl | hu
            · exact .refl _
            · exact (i3 u hu).2
          have q2 : Path W x v := by
            rcases List.mem_cons.1 hv with rfl | hv
            · exact .refl _
            · exact (i3 v hv).1
          exact q1.trans q2
      · show ∀ p ∈ (s.popped x _).parts ++ [srt ((s.popped x _).S.drop ((s.popped x _).S.idxOf x))], p ≠ []
        rw [p2, p4, hdrop]
        intro p hp
        rcases List.mem_append.1 hp with hp | hp
        · exact h.pl p hp
        · simp only [List.mem_singleton] at hp
          rintro rfl
          have := (hs (x :: seg)).length_eq
          rw [← hp] at this
          simp at this
      · show (s.popped x _).FR = _; rw [p6]
      · show (s.popped x _).S.take ((s.popped x _).S.idxOf x) = SG G; rw [p2, htake]
      · show InvG W r (s.popped x _).V (s.popped x _).low G
        rw [p1]; exact i5.mono (fun _ _ => rfl) hlow
      · show InvE ok W (s.popped x _).V (s.popped x _).low ((s.popped x _).S.take ((s.popped x _).S.idxOf x)) ((s.popped x _).parts ++ [srt ((s.popped x _).S.drop ((s.popped x _).S.idxOf x))]) (s.popped x _).missing none G
        rw [p1, p2, p4, p5, htake, hdrop]
        refine e4.mono (fun _ h => h) (fun v hv => (hflat v).2 (.inl hv)) (fun g' hg' v hv hl => (mon g' hg' v hv hl).imp id fun a => ⟨a.1, by rw [hlow g' hg']; exact a.2⟩) fun v g' _ hv => .inl (.inr (.inl ((hflat v).2 (.inr ?_))))
        simp only [Option.some.injEq] at hv
        rw [hv]; exact List.mem_cons_self ..
    · -- it goes into what stands below
      rename_i hlx
      have hlt : s.low x < s.V.idxOf x := by omega
      cases G with
      | nil =>
        simp only [SG, List.nil_append, List.mem_singleton] at hv0
        subst hv0; omega
      | cons g G =>
        obtain ⟨u, gr, gs⟩ := g
        simp only [List.map_cons, St.popped, St.lower] at p1 p2 p3 p4 p5 p6 ⊢
        have hne : v0 ≠ x := fun e => by rw [e] at i1; omega
        have hv0' : v0 ∈ SG ((u, gr, gs) :: G) := by
          simp only [List.mem_append, List.mem_singleton] at hv0
          exact hv0.resolve_right hne
        have hux : x ∈ W u := i4
        have hxu : Path W x u := i2.trans (reach_top i5 v0 hv0')
        have sn1' := sn1
        simp only [SG] at sn1
        rw [List.pairwise_append] at sn1
        have hGu : ∀ g' ∈ G, g'.1 ≠ u := fun g' hg' e => by
          have := sn1.2.2 g'.1 (frames_mem g' hg') u (List.mem_cons_self ..)
          rw [e] at this; omega
        obtain ⟨⟨v1, hv1, j1, j2⟩, j3, j4, j5⟩ := i5
        simp only at j1 j2 j3
        have hv1u : s.V.idxOf v1 ≤ s.V.idxOf u := by
          simp only [List.mem_append, List.mem_singleton] at hv1
          rcases hv1 with hv | rfl
          · exact Nat.le_of_lt (sn1.2.2 v1 hv u (List.mem_cons_self ..))
          · exact Nat.le_refl _
        obtain ⟨f1, ⟨pre', f2, f3⟩, f4⟩ := e4
        simp only at f1 f2 f3
        refine ⟨h.rv, h.nd, h.oks, h.sv, h.sp, h.sn, h.pn, h.mi, h.mn, h.pa, h.pl, ⟨(u, gr, gs ++ x :: seg) :: G, rfl, ?_, ?_, ?_⟩⟩
        · show s.S = _
          rw [g2]; simp [SG]
        · refine ⟨?_, ?_, j4, j5.mono (fun _ _ => rfl) fun g' hg' => if_neg (hGu g' hg')⟩
          · by_cases hc : s.low u ≤ s.low x
            · exact ⟨v1, hv1, by simp only [if_pos]; omega, j2⟩
            · refine ⟨v0, ?_, by simp only [if_pos]; omega, (Path.one hux).trans i2⟩
              simp only [SG, List.mem_append, List.mem_cons] at hv0'
              simp only [List.mem_append, List.mem_singleton]
              rcases hv0' with a | a | a
              · exact .inl a
              · exact .inr a
              · have := (List.pairwise_cons.1 sn1.2.1).1 v0 a; omega
          · intro w hw
            rcases List.mem_append.1 hw with hw | hw
            · exact j3 w hw
            · rcases List.mem_cons.1 hw with rfl | hw
              · exact ⟨.one hux, hxu⟩
              · exact ⟨(Path.one hux).trans (i3 w hw).1, (i3 w hw).2.trans hxu⟩
        · have m1 : ∀ v, v ∈ s.S → s.low x ≤ s.V.idxOf v → v ∈ s.parts.flatten ∨ (v ∈ s.S ∧ (if u = u then min (s.low u) (s.low x) else s.low u) ≤ s.V.idxOf v) := fun v hv hl => .inr ⟨hv, by simp only [if_pos]; omega⟩
          have m2 : ∀ v, v ∈ s.S → s.low u ≤ s.V.idxOf v → v ∈ s.parts.flatten ∨ (v ∈ s.S ∧ (if u = u then min (s.low u) (s.low x) else s.low u) ≤ s.V.idxOf v) := fun v hv hl => .inr ⟨hv, by simp only [if_pos]; omega⟩
          refine ⟨?_, ⟨pre', f2, fun v hv => ?_⟩, ?_⟩
          · intro w hw v hv
            rcases List.mem_append.1 hw with hw | hw
            · exact (f1 w hw v hv).mono (fun _ h => h) (fun _ h => h) (m2 v)
            · exact (eall w hw v hv).mono (fun _ h => h) (fun _ h => h) (m1 v)
          · rcases f3 v hv with a | a
            · exact .inl (a.mono (fun _ h => h) (fun _ h => h) (m2 v))
            · simp only [Option.some.injEq] at a
              subst a
              refine .inl (.inr (.inr ⟨?_, ?_⟩))
              · show v ∈ s.S; rw [g2]; exact frames_mem _ (List.mem_cons_self ..)
              · simp only [if_pos]; show _ ≤ s.V.idxOf v; omega
          · refine f4.mono (fun _ h => h) (fun _ h => h) (fun g' hg' v hv hl => .inr ⟨hv, ?_⟩) fun v g' _ hv => .inr hv
            show (if g'.1 = u then _ else _) ≤ _
            rw [if_neg (hGu g' hg')]; exact hl
theorem inv_step {s : St α} (hs : ∀ l : List α, (srt l).Perm l) (h : Inv ok W srt r s) : Inv ok W srt r (s.step ok W srt) := by
  match hF : s.FR with
  | [] => unfold St.step; rw [hF]; exact h
  | (x, []) :: F => exact inv_pop hs h hF
  | (x, y :: rest) :: F =>
    unfold St.step
    rw [hF]
    simp only
    by_cases ho : ok y = false
    · rw [if_pos ho]
      by_cases hm : y ∈ s.missing
      · rw [if_pos hm]
        exact inv_next h hF rfl rfl rfl rfl (fun _ h => h) h.mn (fun m hm => .inl hm) (fun _ _ => rfl) (.inl rfl) (.inl ⟨ho, hm⟩)
      · rw [if_neg hm]
        refine inv_next h hF rfl rfl rfl rfl (fun _ h => List.mem_append_left _ h) ?_ ?_ (fun _ _ => rfl) (.inl rfl) (.inl ⟨ho, by simp⟩)
        · show (s.missing ++ [y]).Nodup
          rw [List.nodup_append]
          exact ⟨h.mn, by simp, fun a ha b hb e => hm (by simp at hb; subst hb; exact e ▸ ha)⟩
        · intro m hm'
          simp only [List.mem_append, List.mem_singleton] at hm'
          exact hm'.imp id fun e => ⟨e, ho⟩
    · rw [if_neg ho]
      have ho' : ok y = true := by simpa using ho
      by_cases hv : y ∉ s.V
      · rw [if_pos hv]
        exact inv_push h hF ho' hv
      · rw [if_neg hv]
        have hv' : y ∈ s.V := by simpa using hv
        by_cases hS : y ∈ s.S
        · rw [if_pos hS]
          refine inv_next h hF rfl rfl rfl rfl (fun _ h => h) h.mn (fun m hm => .inl hm) (fun z hz => if_neg hz) (.inr ⟨hS, if_pos rfl⟩) (.inr (.inr ⟨hS, ?_⟩))
          show (if x = x then min (s.low x) (s.V.idxOf y) else _) ≤ _
          rw [if_pos rfl]; omega
        · rw [if_neg hS]
          exact inv_next h hF rfl rfl rfl rfl (fun _ h => h) h.mn (fun m hm => .inl hm) (fun _ _ => rfl) (.inl rfl) (.inr (.inl (((h.sv y).1 hv').resolve_left hS)))
/-- How much is left. -/
def St.left (K N : Nat) (s : St α) : Nat := (N - s.V.length) * K + (s.FR.map fun f => f.2.length + 1).sum
theorem left_step {s : St α} {K N : Nat} (hK : ∀ y, (W y).length + 1 < K) (h : Inv ok W srt r (s.step ok W srt)) (hN : (s.step ok W srt).V.length ≤ N) (hne : s.FR ≠ []) : (s.step ok W srt).left K N < s.left K N := by
  unfold St.left
  match hF : s.FR with
  | [] => exact absurd hF hne
  | (x, []) :: F =>
    have e : (s.step ok W srt).V = s.V ∧ ((s.step ok W srt).FR.map fun f => f.2.length + 1) = F.map fun f => f.2.length + 1 := by
      unfold St.step
      rw [hF]
      simp only
      have : (s.popped x F).V = s.V ∧ ((s.popped x F).FR.map fun f => f.2.length + 1) = F.map fun f => f.2.length + 1 := by
        cases F with
        | nil => exact ⟨rfl, rfl⟩
        | cons f F => exact ⟨rfl, rfl⟩
      split
      · exact this
      · exact this
    rw [e.1, e.2]
    simp
  | (x, y :: rest) :: F =>
    unfold St.step at hN ⊢
    rw [hF] at hN ⊢
    simp only at hN ⊢
    split
    · split <;> simp
    · rename_i ho
      rw [if_neg ho] at hN
      split
      · rename_i hv
        rw [if_pos hv] at hN
        simp only [St.push, List.length_append, List.length_singleton, List.length_nil, List.map_cons, List.sum_cons, List.length_cons, Nat.zero_add] at hN ⊢
        have hk := hK y
        obtain ⟨d, hd⟩ : ∃ d, N - s.V.length = d + 1 := ⟨N - s.V.length - 1, by omega⟩
        rw [hd, show N - (s.V.length + 1) = d by omega, Nat.succ_mul]
        omega
      · split <;> simp [St.lower]
/-- How a walk begins. -/
def St.init (W : α → List α) (r : α) : St α := ⟨[r], fun _ => 0, [r], [(r, W r)], [], []⟩
theorem inv_init (hr : ok r = true) : Inv ok W srt r (St.init W r) := by
  refine ⟨by simp [St.init], by simp [St.init], by simp [St.init, hr]; exact .refl _, by simp [St.init], by simp [St.init], by simp [St.init], by simp [St.init], by simp [St.init], by simp [St.init], trivial, by simp [St.init], ⟨[(r, W r, [])], rfl, rfl, ⟨⟨r, by simp, by simp [St.init], .refl _⟩, by simp, rfl, trivial⟩, ⟨by simp, ⟨[], by simp, by simp⟩, trivial⟩⟩⟩
/-- So many steps. -/
def iterS (ok : α → Bool) (W : α → List α) (srt : List α → List α) : Nat → St α → St α
  | 0, s => s
  | k + 1, s => iterS ok W srt k (s.step ok W srt)
theorem step_over {s : St α} (h : s.FR = []) : s.step ok W srt = s := by unfold St.step; rw [h]
theorem iterS_over {s : St α} (h : s.FR = []) : ∀ k, iterS ok W srt k s = s
  | 0 => rfl
  | k + 1 => by rw [iterS, step_over h]; exact iterS_over h k
theorem iterS_add (s : St α) : ∀ (k m : Nat), iterS ok W srt (k + m) s = iterS ok W srt m (iterS ok W srt k s)
  | 0, m => by rw [Nat.zero_add]; rfl
  | k + 1, m => by rw [Nat.succ_add, iterS, iterS]; exact iterS_add _ k m
/-- Two walks that are over, from the same beginning, are the same. -/
theorem iterS_uniq {s : St α} {k m : Nat} (h1 : (iterS ok W srt k s).FR = []) (h2 : (iterS ok W srt m s).FR = []) : iterS ok W srt k s = iterS ok W srt m s := by
  rcases Nat.le_total k m with h | h
  · obtain ⟨d, rfl⟩ := Nat.exists_eq_add_of_le h
    rw [iterS_add, iterS_over h1]
  · obtain ⟨d, rfl⟩ := Nat.exists_eq_add_of_le h
    rw [iterS_add, iterS_over h2]
/-! ### What a walk that is over tells -/
theorem over_V {s : St α} (h : Inv ok W srt r s) (hF : s.FR = []) : ∀ v, v ∈ s.V ↔ v ∈ s.parts.flatten := by
  obtain ⟨G, g1, g2, _⟩ := h.gh
  cases G with
  | cons g G => rw [hF] at g1; cases g1
  | nil =>
    intro v
    rw [h.sv v, g2]; simp [SG]
theorem over_reach {s : St α} (h : Inv ok W srt r s) (hF : s.FR = []) (hno : ∀ y, ok y = false → W y = []) : (∀ v, v ∈ s.parts.flatten ↔ ok v = true ∧ Path W r v) ∧ (∀ v, v ∈ s.missing ↔ ok v = false ∧ Path W r v) := by
  have hV := over_V h hF
  have hcl : ∀ v, Path W r v → v ∈ s.parts.flatten ∨ (ok v = false ∧ v ∈ s.missing) := fun v p => by
    refine Path.keep (Q := fun v => v ∈ s.parts.flatten ∨ (ok v = false ∧ v ∈ s.missing)) ?_ p (.inl ((hV r).1 h.rv))
    rintro u v (hu | hu) hv
    · have := h.pa.closed u (mem_rev.2 hu) v hv
      rwa [mem_rev] at this
    · rw [hno u hu.1] at hv; cases hv
  have hok : ∀ v, v ∈ s.parts.flatten → ok v = true ∧ Path W r v := fun v hv => h.oks v ((hV v).2 hv)
  refine ⟨fun v => ⟨hok v, fun ⟨a, b⟩ => (hcl v b).resolve_right fun c => by rw [c.1] at a; cases a⟩, fun v => ⟨h.mi v, fun ⟨a, b⟩ => ?_⟩⟩
  exact ((hcl v b).resolve_left fun c => by have := (hok v c).1; rw [a] at this; cases this).2
theorem over_order {s : St α} {before : α → α → Prop} (h : Inv ok W srt r s) (hF : s.FR = []) (hno : ∀ y, ok y = false → W y = []) (hsrt : ∀ l : List α, l.Nodup → (srt l).Pairwise before) :
    s.parts.flatten.Nodup ∧ s.parts.flatten.Pairwise fun a b => Path W a b → Path W b a ∧ before a b := by
  refine ⟨h.pn, ?_⟩
  have := h.pa.order (before := before) hno hsrt ?_ ?_
  · rwa [List.reverse_reverse] at this
  · have hp : s.parts.reverse.flatten.Perm s.parts.flatten := (List.reverse_perm s.parts).flatten
    exact hp.nodup_iff.2 h.pn
  · intro v hv
    exact (h.oks v ((over_V h hF v).2 (mem_rev.1 hv))).1
end
end Go.Proofs.Ytjocklgihjbaiaa.PT
end
section
/- Graphs: the walk in memory against the plain walk: what is kept of each. -/
namespace Go.Proofs.Ytjocklgihjbaiaa
open Go.RowKit
/-! ### Lists as maps -/
section
variable {κ : Type} [DecidableEq κ]
theorem findK_map (f : κ → Value) (x : κ) : ∀ (V : List κ) (i : Nat), findK x (V.map fun v => (v, f v)) i = if x ∈ V then some (i + V.idxOf x, f x) else none
  | [], i => by simp [findK]
  | v :: V, i => by
    simp only [List.map_cons, findK]
    by_cases h : x = v
    · subst h; simp
    · rw [if_neg h, findK_map f x V (i + 1)]
      have hne : ¬ v = x := fun e => h e.symm
      by_cases hV : x ∈ V
      · rw [if_pos hV, if_pos (List.mem_cons_of_mem _ hV)]
        congr 2
        rw [List.idxOf_cons, show (v == x) = false by simpa using hne]
        simp only [cond_false]
        omega
      · rw [if_neg hV, if_neg (by simp [h, hV])]
theorem look_map (f : κ → Value) {x : κ} {V : List κ} (hx : x ∈ V) (z : Value) : ((findK x (V.map fun v => (v, f v)) 0).map (·.2)).getD z = f x := by
  rw [findK_map, if_pos hx]; rfl
theorem putK_map (f : κ → Value) {x : κ} {V : List κ} (hn : V.Nodup) (hx : x ∈ V) (u : Value) : putK (V.map fun v => (v, f v)) x u = V.map fun v => (v, if v = x then u else f v) := by
  unfold putK
  rw [findK_map, if_pos hx]
  simp only [Nat.zero_add]
  apply List.ext_getElem?
  intro j
  rw [List.getElem?_modify, List.getElem?_map, List.getElem?_map]
  by_cases hj : V.idxOf x = j
  · subst hj
    have hlt := List.idxOf_lt_length_of_mem hx
    rw [List.getElem?_eq_getElem hlt, List.getElem_idxOf hlt]
    simp
  · simp only [hj, if_false]
    cases hg : V[j]? with
    | none => rfl
    | some v =>
      have hne : v ≠ x := by
        rintro rfl
        obtain ⟨hlt, he⟩ := List.getElem?_eq_some_iff.1 hg
        exact hj (by rw [← he]; exact hn.idxOf_getElem j hlt)
      simp [hne]
theorem putK_new (f : κ → Value) {x : κ} {V : List κ} (hx : x ∉ V) (u : Value) : putK (V.map fun v => (v, f v)) x u = (V.map fun v => (v, f v)) ++ [(x, u)] := by
  unfold putK
  rw [findK_map, if_neg hx]
end
/-! ### Slices that are read only -/
/-- A slice of items somewhere in a block. -/
def RdB (w : World) (v : Value) (xs : List It) : Prop :=
  ∃ p c, v = .slice p xs.length c ∧ (xs.length : Int) ≤ 9223372036854775807 ∧ xs.length ≤ c ∧ ((xs = [] ∧ p = none) ∨ ∃ g o cs, p = some ⟨g, o, none⟩ ∧ Blk w g 27 cs ∧ w.rangeAt g o (cellsOf itL xs))
theorem RdB.rd {w : World} {v : Value} {xs : List It} (h : RdB w v xs) : Rd w itL v xs := by
  obtain ⟨p, c, h1, h2, _, h3⟩ := h
  exact ⟨p, c, h1, h2, h3.imp id fun ⟨g, o, cs, h4, h5, h6⟩ => ⟨g, o, h4, h6, h5.lt⟩⟩
theorem RdB.ch {S : Nat → Prop} {w w' : World} {v : Value} {xs : List It} (h : RdB w v xs) (hc : Ch S w w') (hn : ∀ g, v.ownBlock = some g → ¬ S g) : RdB w' v xs := by
  obtain ⟨p, c, rfl, h2, hc', h3⟩ := h
  refine ⟨p, c, rfl, h2, hc', h3.imp id ?_⟩
  rintro ⟨g, o, cs, rfl, h5, h6⟩
  exact ⟨g, o, cs, rfl, h5.ch hc (hn g rfl), rangeAt_ch h6 hc (hn g rfl)⟩
theorem RdB.fr {w w' : World} {v : Value} {xs : List It} (h : RdB w v xs) (hF : Fr w w') : RdB w' v xs := h.ch (hF.ch fun _ => False) fun _ _ h => h
theorem RdB.blk {w : World} {v : Value} {xs : List It} (h : RdB w v xs) {g : Nat} (hg : v.ownBlock = some g) : ∃ cs, Blk w g 27 cs := by
  obtain ⟨p, c, rfl, h2, _, h3⟩ := h
  rcases h3 with ⟨_, rfl⟩ | ⟨g', o, cs, rfl, h5, h6⟩
  · cases hg
  · simp only [Value.ownBlock, Option.some.injEq] at hg
    subst hg
    exact ⟨cs, h5⟩
theorem RdB.of {w : World} {v : Value} {xs : List It} (h : Sl w 27 2 itL v xs) : RdB w v xs := by
  have hm := h.len_le
  rcases h.2 with ⟨rfl, h0⟩ | ⟨g, cap, cur, rfl, _, hb, hcap, _⟩
  · have : xs = [] := List.eq_nil_of_length_eq_zero h0
    subst this
    exact ⟨none, 0, rfl, by simp, by simp, .inl ⟨rfl, rfl⟩⟩
  · refine ⟨_, cap, rfl, hm, hcap, .inr ⟨g, 0, cur, rfl, hb, fun j u hj => ?_⟩⟩
    rw [Nat.zero_add]
    exact Row.cell (g := g) (v := .slice (some ⟨g, 0, none⟩) xs.length cap) h rfl hj
theorem rangeAt_tail {w : World} {g o : Nat} {x : It} {xs : List It} (h : w.rangeAt g o (cellsOf itL (x :: xs))) : w.rangeAt g (o + 2) (cellsOf itL xs) := fun j u hj => by
  have := h (2 + j) u (by
    have e : cellsOf itL (x :: xs) = itL x ++ cellsOf itL xs := rfl
    rw [e, List.getElem?_append_right (by rw [itL_len]; omega), itL_len]
    rw [show 2 + j - 2 = j by omega]; exact hj)
  rw [show o + 2 + j = o + (2 + j) by omega]; exact this
/-- The rest behind the first one. -/
theorem RdB.tail {w : World} {p : Option Addr} {n c : Nat} {x : It} {xs : List It} (h : RdB w (.slice p n c) (x :: xs)) : n = xs.length + 1 ∧ RdB w (sliced p 1 n c 2) xs ∧ (∀ g, (sliced p 1 n c 2).ownBlock = some g → (Value.slice p n c).ownBlock = some g) := by
  obtain ⟨p', c', h1, h2, hc, h3⟩ := h
  injection h1 with e1 e2 e3
  subst e1 e2 e3
  rcases h3 with ⟨h, _⟩ | ⟨g, o, cs, rfl, h5, h6⟩
  · cases h
  · simp only [List.length_cons] at h2 hc
    refine ⟨rfl, ⟨_, _, rfl, by omega, by omega, .inr ?_⟩, ?_⟩
    · split
      · have hx : xs = [] := List.eq_nil_of_length_eq_zero (by omega)
        subst hx
        exact ⟨g, o, cs, rfl, h5, fun j u hj => by simp [cellsOf] at hj⟩
      · exact ⟨g, o + 2, cs, rfl, h5, rangeAt_tail h6⟩
    · intro g' hg'
      unfold sliced at hg'
      split at hg' <;> simpa [Value.ownBlock, Addr.add] using hg'
/-- The first m elements; the capacity is as it was. -/
theorem Row.take {w : World} {e : TypeId} {k n c : Nat} {p : Option Addr} {cs : List Value} (h : Row w e k (.slice p n c) n cs) {m : Nat} (hm : m ≤ n) : Row w e k (.slice p m c) m (cs.take (m * k)) := by
  obtain ⟨hl, h⟩ := h
  have hmk : m * k ≤ n * k := Nat.mul_le_mul_right _ hm
  refine ⟨by rw [List.length_take, hl]; omega, ?_⟩
  rcases h with ⟨h0, hn⟩ | ⟨g, cap, cur, h1, hb, hg, hn, hmx, hs, ht⟩
  · injection h0 with e1 e2 e3
    subst e1 e3
    have : m = 0 := by omega
    subst this
    exact .inl ⟨rfl, rfl⟩
  · injection h1 with e1 e2 e3
    subst e1 e3
    refine .inr ⟨g, c, cur, rfl, hb, hg, by omega, hmx, hs, ?_⟩
    rw [← ht, List.take_take, Nat.min_eq_left hmk]
theorem cellsOf_take {α : Type} {enc : α → List Value} {k : Nat} (hk : ∀ x, (enc x).length = k) : ∀ (xs : List α) (m : Nat), m ≤ xs.length → cellsOf enc (xs.take m) = (cellsOf enc xs).take (m * k)
  | xs, 0, _ => by simp [cellsOf]
  | [], m + 1, h => by simp at h
  | x :: xs, m + 1, h => by
    have ih := cellsOf_take hk xs m (by simpa using h)
    simp only [List.take_succ_cons, cellsOf, List.flatMap_cons] at ih ⊢
    rw [ih, Nat.succ_mul, Nat.add_comm (m * k) k, List.take_append, hk, Nat.add_sub_cancel_left, List.take_of_length_le (l := enc x) (by rw [hk]; omega)]
theorem Sl.take {α : Type} {w : World} {e : TypeId} {k : Nat} {enc : α → List Value} (hk : ∀ x, (enc x).length = k) {p : Option Addr} {n c : Nat} {xs : List α} (h : Sl w e k enc (.slice p n c) xs) {m : Nat} (hm : m ≤ xs.length) : Sl w e k enc (.slice p m c) (xs.take m) := by
  have hn : n = xs.length := by
    obtain ⟨p', c', e⟩ := Sl.value h
    injection e
  subst hn
  have := Row.take (n := xs.length) h hm
  unfold Sl
  rw [cellsOf_take hk xs m hm, List.length_take, Nat.min_eq_left hm]
  exact this
/-- All behind the first k. -/
theorem RdB.drop {w : World} {p : Option Addr} {n c : Nat} {xs : List It} (h : Sl w 27 2 itL (.slice p n c) xs) {k : Nat} (hk : k < xs.length) : RdB w (sliced p k n c 2) (xs.drop k) ∧ (∀ g, (sliced p k n c 2).ownBlock = some g → (Value.slice p n c).ownBlock = some g) := by
  have hm := h.len_le
  obtain ⟨g, cap, e, hg⟩ := Row.form h (by omega)
  have hw := h
  injection e with e1 e2 e3
  subst e1 e2 e3
  rcases h.2 with ⟨h0, h1⟩ | ⟨g', cap', cur, h0, _, hb, hcap, _⟩
  · omega
  · injection h0 with e1 e2 e3
    injection e1 with e1
    injection e1 with e1
    subst e1 e3
    refine ⟨?_, ?_⟩
    · unfold sliced
      rw [if_neg (by omega), List.length_drop.symm]
      refine ⟨_, _, rfl, by rw [List.length_drop]; omega, by rw [List.length_drop]; omega, .inr ⟨g, 0 + k * 2, cur, by rw [Option.map_some, Addr.add_mid], hb, fun j u hj => ?_⟩⟩
      have e : (cellsOf itL (xs.drop k)) = (cellsOf itL xs).drop (k * 2) := by
        have h1 := cellsOf_take itL_len xs k (by omega)
        have h2 : cellsOf itL xs = cellsOf itL (xs.take k) ++ cellsOf itL (xs.drop k) := by rw [← cellsOf_append, List.take_append_drop]
        have h3 : (cellsOf itL (xs.take k)).length = k * 2 := by rw [cellsOf_length itL_len, List.length_take, Nat.min_eq_left (by omega)]
        rw [h2, ← h3, List.drop_left]
      rw [e, List.getElem?_drop] at hj
      have := Row.cell (g := g) (v := .slice (some ⟨g, 0, none⟩) xs.length c) hw rfl hj
      rw [show 0 + k * 2 + j = k * 2 + j by omega]; exact this
    · intro g2 hg2
      unfold sliced at hg2
      rw [if_neg (by omega), Option.map_some, Addr.add_mid] at hg2
      exact hg2
end Go.Proofs.Ytjocklgihjbaiaa
end
section
/- Graphs: the walk in memory; part. -/
namespace Go.Proofs.Ytjocklgihjbaiaa
open Go.RowKit
/-! ### In which order the items of one part are done -/
def keyLt (C : It → Option CallD) (x y : It) : Prop := seqOf (C x) < seqOf (C y) ∨ (seqOf (C x) = seqOf (C y) ∧ (x.2 < y.2 ∨ (x.2 = y.2 ∧ x.1 < y.1)))
theorem beforeB_iff (C : It → Option CallD) (x y : It) : beforeB C x y = true ↔ keyLt C x y := by
  unfold beforeB lessB keyLt
  simp only [Bool.or_eq_true, Bool.and_eq_true, decide_eq_true_eq]
theorem ltB_iff (C : It → Option CallD) (x y : It) : ltC (cmpB C) x y = true ↔ keyLt C x y := by
  unfold ltC cmpB
  simp only [decide_eq_true_eq]
  by_cases hxy : x = y
  · subst hxy
    rw [if_pos rfl]
    unfold keyLt
    omega
  · rw [if_neg hxy, ← beforeB_iff]
    split
    · rename_i h; simp [h]
    · rename_i h; simp [h]
theorem ltB_false (C : It → Option CallD) (x y : It) : ltC (cmpB C) x y = false ↔ ¬ keyLt C x y := by
  rw [← ltB_iff]; simp
theorem swoB (C : It → Option CallD) : Sort.SWO (ltC (cmpB C)) where
  irrefl := fun x => by rw [ltB_false]; unfold keyLt; omega
  trans := fun x y z h1 h2 => by rw [ltB_iff] at *; unfold keyLt at *; omega
  ntrans := fun x y z h1 h2 => by rw [ltB_false] at *; unfold keyLt at *; omega
theorem antiB (C : It → Option CallD) (x y : It) (h1 : ltC (cmpB C) x y = false) (h2 : ltC (cmpB C) y x = false) : x = y := by
  rw [ltB_false] at h1 h2
  unfold keyLt at h1 h2
  exact Prod.ext (by omega) (by omega)
/-- A part in its order. -/
def srtC (C : It → Option CallD) (l : List It) : List It := l.mergeSort (fun x y => !ltC (cmpB C) y x)
theorem srtC_perm (C : It → Option CallD) (l : List It) : (srtC C l).Perm l := List.mergeSort_perm _ _
theorem srtC_sorted (C : It → Option CallD) (l : List It) (hn : l.Nodup) : (srtC C l).Pairwise fun x y => beforeB C x y = true := by
  have hS := swoB C
  have h1 : (srtC C l).Pairwise fun x y => (!ltC (cmpB C) y x) = true := by
    refine List.pairwise_mergeSort ?_ ?_ l
    · intro a b c h1 h2
      simp only [Bool.not_eq_true'] at *
      exact hS.ntrans _ _ _ h2 h1
    · intro a b
      cases h : ltC (cmpB C) b a with
      | false => simp
      | true =>
        have : ltC (cmpB C) a b = false := by
          cases h' : ltC (cmpB C) a b with
          | false => rfl
          | true => have := hS.trans _ _ _ h h'; rw [hS.irrefl] at this; cases this
        simp [this]
  have h2 : (srtC C l).Pairwise fun x y => x ≠ y := (srtC_perm C l).nodup_iff.2 hn
  have h3 := h1.and h2
  exact h3.imp fun {x y} ⟨ha, hb⟩ => by
    simp only [Bool.not_eq_true'] at ha
    rw [beforeB_iff, ← ltB_iff]
    cases h : ltC (cmpB C) x y with
    | true => rfl
    | false => exact absurd (antiB C x y h ha) hb
/-- A sorted row of the same things is that row. -/
theorem srtC_of (C : It → Option CallD) (d d' : Array It) (h1 : d'.toList.Perm d.toList) (h2 : Sort.SortedIn (ltC (cmpB C)) 0 d.size d') : d'.toList = srtC C d.toList := by
  have hs : d'.size = d.size := by have := h1.length_eq; simpa using this
  refine Sort.sorted_unique_holds (swoB C) (antiB C) d d' ⟨hs, ?_, ?_⟩ h2
  · intro i hi
    have : d.size ≤ i := by omega
    rw [getElem!_neg d' i (by omega), getElem!_neg d i (by omega)]
  · have e1 : d'.extract 0 d.size = d' := by rw [← hs]; simp
    have e2 : d.extract 0 d.size = d := by simp
    rwa [e1, e2]
theorem cmpV78 {w0 : World} {bg g : Nat} {n : Int} {C : It → Option CallD} {O : It → Bool} {F : Nat → Prop} (hg : ¬ F g) : CmpV Try.prog 78 #[.pointer (some ⟨bg, 0, none⟩)] #[] (cmpB C) g (fun W => GraphAt W bg n C O F) where
  en := Try.en78
  call := fun x y w RR hK hR => by
    have := before78 x y w RR hK hR
    simpa using this
  keep := fun w w' hK hc => hK.ch hc fun k hk e => hg (e ▸ hk)
theorem indexI_idxOf {x : It} {xs : List It} (hx : x ∈ xs) : indexI x xs = (PT.ix xs x : Nat) :=
  indexI_at (fun _ hj => PT.ix_before hj) (PT.ix_get hx)
/-! ### The walk -/
abbrev WSt := PT.St It
def idxL (s : WSt) : List (It × Value) := s.V.map fun v => (v, .int .i64 (PT.ix s.V v : Nat))
def lowL (s : WSt) : List (It × Value) := s.V.map fun v => (v, .int .i64 (s.low v : Nat))
def onL (s : WSt) : List (It × Value) := s.V.map fun v => (v, .bool (decide (v ∈ s.S)))
/-- The plain walk s in memory: GF, GP: what is gone over, and the parts, each with its slice. -/
structure WalkG (w0 w : World) (bw bg : Nat) (s : WSt) (bi bl bo : Nat) (vs vf vp vm : Value) (GF : List (It × Value × List It)) (GP : List (Value × List It)) : Prop where
  m : WalkM w bw bg bi bl bo vs vf vp vm (idxL s) (lowL s) (onL s) s.S (GF.reverse.map fun g => (g.1, g.2.1)) (GP.map (·.1)) s.missing
  fr : Fr w0 w
  own : ∀ g, walkS bw bi bl bo vs vf vp vm g → w0.heap.size ≤ g
  f1 : s.FR = GF.map fun g => (g.1, g.2.2)
  p1 : s.parts = GP.map (·.2)
  f2 : ∀ g ∈ GF, RdB w g.2.1 g.2.2 ∧ ∀ b, g.2.1.ownBlock = some b → vs.ownBlock ≠ some b ∧ vm.ownBlock ≠ some b
  p2 : ∀ g ∈ GP, Sl w 27 2 itL g.1 g.2 ∧ ∀ b, g.1.ownBlock = some b → w0.heap.size ≤ b ∧ vs.ownBlock ≠ some b ∧ vm.ownBlock ≠ some b
def WalkW (w0 w : World) (bw bg : Nat) (s : WSt) : Prop := ∃ bi bl bo vs vf vp vm GF GP, WalkG w0 w bw bg s bi bl bo vs vf vp vm GF GP
theorem sliced_hi (g h m s : Nat) : sliced (some ⟨g, 0, none⟩) 0 h m s = .slice (some ⟨g, 0, none⟩) h m := by
  unfold sliced
  rw [Option.map_some, Addr.add_mid]
  simp
theorem Row.cap_le {w : World} {e : TypeId} {k n c : Nat} {p : Option Addr} {cs : List Value} (h : Row w e k (.slice p n c) n cs) : n ≤ c := by
  rcases h.2 with ⟨h0, _⟩ | ⟨g, cap, cur, h1, _, _, hn, _⟩
  · injection h0 with _ e2 _; omega
  · injection h1 with _ _ e3; omega
theorem own_sl {g o n c k : Nat} (h : (Value.slice (some ⟨g, o, none⟩) n c).ownBlock = some k) : g = k := by simpa [Value.ownBlock] using h
theorem slt {w : World} {v : Value} {p : List It} (h : Sl w 27 2 itL v p) {b : Nat} (hb : v.ownBlock = some b) : ∃ cs, Blk w b 27 cs := Row.blk h hb
section
variable {w0 : World} {bw bg bi bl bo : Nat} {vs vf vp vm : Value} {s : WSt} {GF : List (It × Value × List It)} {GP : List (Value × List It)}
variable {n : Int} {C : It → Option CallD} {O : It → Bool} {F : Nat → Prop}
set_option maxRecDepth 10000 in
set_option maxHeartbeats 4000000 in
theorem part69 (x : It) (w : World) (RR : Ending → World → Prop) (hG : GraphAt w0 bg n C O F) (h : WalkG w0 w bw bg s bi bl bo vs vf vp vm GF GP) (hx : x ∈ s.S) (hVn : s.V.Nodup) (hSV : ∀ v ∈ s.S, v ∈ s.V) (hSn : s.S.Nodup)
    (hls : s.S.length ≤ 1000000) (hlp : s.parts.length ≤ 1000000)
    (hR : ∀ w', WalkW w0 w' bw bg (s.part (srtC C) x) → RR (.returned (.tuple #[])) w') : Calls Try.prog 69 #[.pointer (some ⟨bw, 0, none⟩), itV x] w RR := by
  have hm := h.m
  have hb := hm.blk
  have c3 : w.cell? ⟨bw, 3, none⟩ = some (.map (some bo)) := hb.cell rfl
  have c4 : w.cell? ⟨bw, 4, none⟩ = some vs := hb.cell rfl
  have hlb := hb.lt
  have hlo := hm.on.lt
  have hst := hm.st
  have hGw := hG.fr h.fr
  obtain ⟨at_, hat⟩ : ∃ k, k = PT.ix s.S x := ⟨_, rfl⟩
  have hlt : at_ < s.S.length := by rw [hat]; exact PT.ix_lt hx
  obtain ⟨gs, cs, hvs, hgs⟩ := Row.form hst (by omega)
  subst hvs
  refine e_enter (n := ⟨59, []⟩) Try.mixed Try.func69 Try.p69 Try.x69 Try.fb69 Try.hx69 Try.ok69 rfl rfl (by simp) ?_; simp only [Try.x69, argEnv, Nat.zero_add, Nat.reduceAdd]
  (refine e_seq fun K1 hK1 => ?_; refine e_region ?_; refine A_box fun b1 w1 hF1 hN1 hB1 => ?_; have hz1 := hF1.size; obtain ⟨hn1, hl1⟩ := hN1; refine a_next ?_; 
     refine e_seq fun K1 hK1 => ?_)
  ((with_reducible apply e_drawn); (focus (intro _ _ _ d1 _ h1; cases d1 <;> exact h1)); intro w1 hF1; have hz1 := hF1.size)
  (refine A_move ?_; refine A_nil ?_; refine A_field ?_; refine A_load ?_; refine A_loadW ?_)
  (with_reducible apply E_call); rfl; exact Try.en52; rfl; intro RR1 hRR1
  refine index52 x _ s.S _ _ (hst.rd.fr (by exact fr_)) fun w2 hF2 => ?_
  have hz2 := hF2.size
  rw [indexI_idxOf hx, ← hat]
  refine hRR1 _ _ (by first | assumption | exact trivial) (Nat.le_of_ble_eq_true rfl) ?_; clear hRR1 RR1
  (refine A_assign ?_; refine a_next ?_; refine e_seq fun K1 hK1 => ?_; refine e_region ?_; refine A_move ?_; refine A_nil ?_; refine A_field ?_; refine A_load ?_; 
     refine A_move ?_)
  refine E_sliceLo (v := sliced (some ⟨gs, 0, none⟩) at_ s.S.length cs 2) sty39 rfl rfl (by omega) (by omega) (by rw [Int.toNat_natCast]) (Nat.le_of_ble_eq_true rfl) ?_
  have hFX : Fr w w2 := by exact fr_
  clear hF1
  obtain ⟨hdr, hdo⟩ := RdB.drop (hst.fr hFX) hlt
  have hdl : (s.S.drop at_).length = s.S.length - at_ := List.length_drop
  have hcs : s.S.length ≤ cs := Row.cap_le hst
  (with_reducible apply E_call); rfl; exact Try.en30; rfl; intro RR1 hRR1
  refine clone30 _ (s.S.drop at_) _ _ hdr.rd (by omega) fun v' w3 hF3 hv' hvo => ?_
  have hz3 := hF3.size
  obtain ⟨gl, cl, rfl, hgl⟩ := Row.form hv' (by omega)
  have hglf := hvo gl rfl
  have hFY : Fr w w3 := hFX.trans hF3
  have hB3 := hb.fr hFY
  have c43 : w3.cell? ⟨bw, 4, none⟩ = some (.slice (some ⟨gs, 0, none⟩) s.S.length cs) := hB3.cell rfl
  refine hRR1 _ _ (by first | assumption | exact trivial) (Nat.le_of_ble_eq_true rfl) ?_; clear hRR1 RR1
  (refine A_assign ?_; refine a_next ?_; refine e_seq fun K1 hK1 => ?_; refine e_region ?_; refine A_move ?_; refine A_move ?_; refine A_nil ?_; refine A_field ?_; 
     refine A_load ?_; refine A_move ?_)
  refine E_sliceHi (v := .slice (some ⟨gs, 0, none⟩) at_ cs) sty39 rfl rfl (by omega) (by omega) (by rw [Int.toNat_natCast]; exact sliced_hi _ _ _ _) (Nat.le_of_ble_eq_true rfl) ?_
  (refine A_nil ?_; refine A_field ?_)
  refine E_store1 (o := 4) rfl (fun _ _ _ => trivial) rfl rfl hB3 (by simp only [Try.SI]) rfl (by simp) ?_
  intro w4 hU4 hB4
  simp only [List.setIfInBounds_toArray, List.set_cons_zero, List.set_cons_succ] at hB4
  have hz4 := hU4.size
  have hM4 : MapAt itV w4 bo (onL s) := (hm.on.fr hFY).upd hU4 (fun e => hm.on.ne_blk hb e.symm)
  have hv4 : Sl w4 27 2 itL (.slice (some ⟨gl, 0, none⟩) (s.S.drop at_).length cl) (s.S.drop at_) := hv'.ch hU4.ch (fun k hk e => by have := own_sl hk; omega)
  have hC4 : Ch (walkS bw bi bl bo (.slice (some ⟨gs, 0, none⟩) s.S.length cs) vf vp vm) w w4 := (hFY.ch _).trans_upd hU4 (.inl (.inl rfl))
  (refine a_next ?_; refine e_seq fun K1 hK1 => ?_; refine e_seq fun K1 hK1 => ?_; refine e_region ?_; refine A_move ?_; refine A_lenS ?_; refine A_move ?_; 
     refine a_next ?_; refine e_block ?_)
  obtain ⟨N, hN⟩ : ∃ N, N = (s.S.drop at_).length := ⟨_, rfl⟩
  have hbo : bw ≠ bo := hm.on.ne_blk hb
  refine e_loop Try.mixed Try.p69 Try.lp69bbbbaba Try.hx69bbbbabal Try.ok69bbbbabal (fun i : Nat => [(0, .pointer (some ⟨bw, 0, none⟩)), (5, .slice (some ⟨gl, 0, none⟩) (s.S.drop at_).length cl), (30, .slice (some ⟨gl, 0, none⟩) (s.S.drop at_).length cl), (31, .int .i64 (s.S.drop at_).length), (32, .int .i64 i)])
    (fun i W => i ≤ N ∧ Ch (fun g => g = bo) w4 W ∧ MapAt itV W bo (s.V.map fun v => (v, .bool (decide (v ∈ s.S) && !decide (v ∈ (s.S.drop at_).take i))))) (fun i => N - i) 0 (by exact sub_) ⟨Nat.zero_le _, Ch.refl _ _, by simpa [onL] using hM4⟩ ?_
  rintro i w5 ⟨hi, hC5, hM5⟩
  have hz5 := hC5.size
  have hB5 := hB4.ch hC5 hbo
  have hv5 := hv4.ch hC5 (fun k hk e => by have := own_sl hk; omega)
  simp only [Try.x69bbbbabal]
  by_cases hlt2 : i < N
  · have hlt3 : i < (s.S.drop at_).length := by omega
    obtain ⟨y, hy⟩ : ∃ y, (s.S.drop at_)[i]? = some y := ⟨_, List.getElem?_eq_getElem hlt3⟩
    have hyS : y ∈ s.S := List.mem_of_mem_drop (List.mem_of_getElem? hy)
    obtain ⟨g2, c2, e2, _, hr⟩ := hv5.at_ itL_len hy
    injection e2 with e2 _ _
    injection e2 with e2
    injection e2 with e2
    subst e2
    have hra : w5.rangeAt gl (i * 2) (itA y).toList := hr
    (refine e_seq fun K1 hK1 => ?_; refine e_region ?_; refine A_lss ?_; refine a_next ?_; refine e_seq fun K1 hK1 => ?_; refine a_true ?_; refine a_nextC ?_; 
       refine e_seq fun K1 hK1 => ?_; refine e_block ?_; refine e_seq fun K1 hK1 => ?_; refine e_region ?_; refine A_idxS ?_; refine A_loads ?_; 
       refine A_alloc fun b1 w1 hF1 hN1 hB1 => ?_; have hz1 := hF1.size; obtain ⟨hn1, hl1⟩ := hN1; refine A_storeW fun w1 hU1 hB1 => ?_; refine a_next ?_; 
       refine a_drawn fun w1 hF1 => ?_; have hz1 := hF1.size; refine A_move ?_; refine A_nil ?_; refine A_field ?_; refine A_load ?_; refine A_loadW ?_)
    refine E_mapUpdateK und85 keyIt rfl (fun _ _ => trivial) rfl rfl rfl (by (focus (repeat (first | assumption | (apply MapAt.fr; rotate_left; assumption) | (apply MapAt.upd; rotate_left; assumption; (focus (first | assumption | omega))))))) ?_
    intro w6 hU6 hM6
    (refine e_norm_nil ?_; refine e_norm_block ?_; refine a_norm_then ?_; refine e_region ?_; refine A_add ?_; refine A_move ?_; refine e_norm_nil ?_)
    have hFZ : Fr w5 w1 := by exact fr_
    refine e_againN (i + 1) (by show N - (i + 1) < N - i; omega) ⟨hlt2, (hC5.trans_fr hFZ).trans_upd hU6 (.inl rfl), ?_⟩ rfl (by exact sub_)
    rw [putK_map _ hVn (hSV y hyS)] at hM6
    rw [List.take_add_one, hy]
    refine (congrArg (fun l => MapAt itV w6 bo l) (List.map_congr_left fun v hv => ?_)).mp hM6
    by_cases hvy : v = y
    · subst hvy; simp
    · simp [hvy]
  · (refine e_seq fun K1 hK1 => ?_; refine e_region ?_; refine A_lss ?_; refine a_next ?_; refine e_seq fun K1 hK1 => ?_; refine a_false ?_; refine e_exit_then ?_; 
     refine e_exit_then ?_; refine e_exit_here ?_; refine a_norm_then ?_; refine e_seq fun K1 hK1 => ?_; refine e_region ?_; refine A_move ?_; refine A_move ?_; 
     refine A_nil ?_; refine A_field ?_; refine A_load ?_; refine A_makeFunc ?_)
    have hiN : i = N := by omega
    have hF5 : Fr w0 w5 := (h.fr.trans hFY).upd hU4 (h.own bw (.inl rfl)) |>.more hC5 fun k e => by have := h.own bo (.inr (.inr (.inr (.inl rfl)))); omega
    have hG5 := hG.fr hF5
    have hw0 := h.fr.size
    have hFgl : ¬ F gl := fun hf => by have := hG.lt hf; omega
    have hD5 : Dat w5 gl cl (s.S.drop at_).length (s.S.drop at_).toArray := ⟨by simpa using hv5, by simp⟩
    (with_reducible apply E_call); rfl; exact Try.en27; rfl; intro RR1 hRR1
    refine sortFunc27 (cmpV78 (w0 := w0) hFgl) (swoB C) (by omega) _ _ _ hD5 hG5 fun w6 d' hp hso hD6 hC6 => ?_
    have hz6 := hC6.size
    have hsrt : d'.toList = srtC C (s.S.drop at_) := srtC_of C _ d' hp (by simpa using hso)
    have hB6 := hB5.ch hC6 (by omega)
    obtain ⟨pvs, hpvs⟩ : ∃ pvs : List Value, pvs = GP.map (·.1) := ⟨_, rfl⟩
    have hpa := hm.pa
    rw [← hpvs] at hpa
    refine hRR1 _ _ (by first | assumption | exact trivial) (Nat.le_of_ble_eq_true rfl) ?_; clear hRR1 RR1
    (refine a_next ?_; refine e_region ?_; refine A_move ?_; refine A_move ?_; refine A_nil ?_; refine A_field ?_; refine A_load ?_; refine A_move ?_)
    have hpa6 : Sl w6 39 1 slL vp pvs := (((hpa.fr hFY).ch hU4.ch (fun k hk e => Row.ne_ty hpa hb (by decide) (e ▸ hk))).ch hC5 (fun k hk e => Row.ne_map hpa hm.on (e ▸ hk))).ch hC6 (fun k hk e => by have := hpa.lt hk; omega)
    refine E_lit1 rfl rfl sty66 rfl (by decide) ?_
    intro b7 w7 hF7 hN7 hB7
    have hz7 := hF7.size
    obtain ⟨hn7, hl7⟩ := hN7
    have hlp' : pvs.length ≤ 1000000 := by have := congrArg List.length h.p1; rw [hpvs]; simp only [List.length_map] at this ⊢; omega
    refine E_append (v := vp) (m := pvs.length) (xs := cellsOf slL pvs) (news := slL (.slice (some ⟨gl, 0, none⟩) (s.S.drop at_).length cl)) rfl rfl rfl sty66 (Row.fr hpa6 hF7) rfl (Blk.range (cs := #[.slice (some ⟨gl, 0, none⟩) (s.S.drop at_).length cl]) hB7)
      (by intro u hu; simp [slL] at hu; subst hu; rfl) (by omega) (by omega) (fun _ _ => trivial) (by decide) ?_
    intro vp' w8 hC8 hR8 hO8
    have hz8 := hC8.size
    obtain ⟨pp, cp, rfl⟩ := Row.value hR8
    have hB8 := (hB6.fr hF7).ch hC8 (fun e => Row.ne_ty hpa hb (by decide) e)
    (refine A_nil ?_; refine A_field ?_)
    refine E_store1 (o := 6) rfl (fun _ _ _ => trivial) rfl rfl hB8 (by simp only [Try.SI]) rfl (by simp) ?_
    intro w9 hU9 hB9
    (refine e_norm_nil ?_; refine a_end0 ?_)
    simp only [List.setIfInBounds_toArray, List.set_cons_zero, List.set_cons_succ] at hB9
    have hCh : Ch (fun g => g = bw ∨ g = bo ∨ vp.ownBlock = some g) w w9 := ((((((hFY.ch _).trans_upd hU4 (.inl (.inl rfl))).trans_ch hC5 fun i e => .inl (.inr (.inl e))).trans_ch hC6 fun i e => .inr (by omega)).trans_fr hF7).trans_ch hC8 fun i e => .inl (.inr (.inr e))).trans_upd hU9 (.inl (.inl rfl))
    have kB : ∀ k cs', Blk w k 27 cs' → ¬ (k = bw ∨ k = bo ∨ vp.ownBlock = some k) := by
      rintro k cs' hk (rfl | rfl | e)
      · exact absurd (hk.inj hb).1 (by decide)
      · exact hm.on.ne_blk hk rfl
      · exact Row.ne_ty hpa hk (by decide) e
    have kS : ∀ {v xs}, Sl w 27 2 itL v xs → Sl w9 27 2 itL v xs := fun hs => hs.ch hCh fun k hk => by
      obtain ⟨cur, hbk⟩ := slt hs hk
      exact kB k _ hbk
    have kR : ∀ {v xs}, RdB w v xs → RdB w9 v xs := fun hs => hs.ch hCh fun k hk => by
      obtain ⟨cur, hbk⟩ := hs.blk hk
      exact kB k _ hbk
    have kM : ∀ {b l}, MapAt itV w b l → b ≠ bo → MapAt itV w9 b l := fun hmb hne => hmb.ch hCh (by
      rintro (rfl | e | e)
      · exact hmb.ne_blk hb rfl
      · exact hne e
      · exact Row.ne_map hpa hmb e)
    have hfr9 : Sl w9 115 3 frL vf _ := hm.fr.ch hCh (by
      rintro k hk (rfl | rfl | e)
      · exact Row.ne_ty hm.fr hb (by decide) hk
      · exact Row.ne_map hm.fr hm.on hk
      · exact Row.ne_row hm.fr hpa (by decide) k hk e)
    have hM9 : MapAt itV w9 bo (s.V.map fun v => (v, .bool (decide (v ∈ s.S) && !decide (v ∈ (s.S.drop at_).take i)))) :=
      (((hM5.ch hC6 (by omega)).fr hF7).ch hC8 (fun e => Row.ne_map hpa hm.on e)).upd hU9 (fun e => hbo e.symm)
    have hpa9 : Sl w9 39 1 slL (.slice pp (pvs.length + 1) cp) (pvs ++ [.slice (some ⟨gl, 0, none⟩) (s.S.drop at_).length cl]) := by
      unfold Sl
      rw [cellsOf_append, List.length_append]
      have := hR8.ch hU9.ch (fun g hg e => by subst e; exact Row.ne_ty hR8 hB8 (by decide) hg)
      simpa [cellsOf] using this
    have hnew : Sl w9 27 2 itL (.slice (some ⟨gl, 0, none⟩) (s.S.drop at_).length cl) (srtC C (s.S.drop at_)) := by
      have h6 := hD6.sl
      rw [hsrt] at h6
      refine ((h6.fr hF7).ch hC8 (fun k hk e => ?_)).ch hU9.ch (fun k hk e => ?_)
      · have := own_sl hk; have := hpa.lt e; omega
      · have := own_sl hk; omega
    have hsplit : ∀ v, v ∈ s.S ↔ v ∈ s.S.take at_ ∨ v ∈ s.S.drop at_ := fun v => by
      rw [← List.mem_append, List.take_append_drop]
    have hdisj : ∀ v, v ∈ s.S.take at_ → v ∉ s.S.drop at_ := fun v h1 h2 => by
      have hn := hSn
      rw [← List.take_append_drop at_ s.S, List.nodup_append] at hn
      exact hn.2.2 v h1 v h2 rfl
    refine hR w9 ⟨bi, bl, bo, .slice (some ⟨gs, 0, none⟩) at_ cs, vf, .slice pp (pvs.length + 1) cp, vm, GF, GP ++ [(.slice (some ⟨gl, 0, none⟩) (s.S.drop at_).length cl, srtC C (s.S.drop at_))], ⟨⟨hB9, kM hm.idx hm.io, kM hm.low hm.lo, ?_, ?_, hfr9, ?_, kS hm.mi, hm.il, hm.io, hm.lo, fun g hg => hm.sm g hg⟩, ?_, ?_, h.f1, ?_, ?_, ?_⟩⟩
    · refine (congrArg (fun l => MapAt itV w9 bo l) (List.map_congr_left fun v hv => ?_)).mp hM9
      show _ = (v, Value.bool (decide (v ∈ s.S.take (PT.ix s.S x))))
      rw [← hat, hiN, hN, List.take_length]
      by_cases h1 : v ∈ s.S.take at_
      · simp [h1, hdisj v h1, (hsplit v).2 (.inl h1)]
      · by_cases h2 : v ∈ s.S.drop at_
        · simp [h1, h2]
        · simp [h1, h2, hsplit v]
    · show Sl w9 27 2 itL _ (s.S.take (PT.ix s.S x))
      rw [← hat]
      exact Sl.take itL_len (kS hst) (by omega)
    · rw [List.map_append, ← hpvs]
      exact hpa9
    · exact (h.fr.more hCh fun k hk => by
        rcases hk with rfl | rfl | e
        · exact h.own _ (.inl rfl)
        · exact h.own _ (.inr (.inr (.inr (.inl rfl))))
        · exact h.own _ (.inr (.inr (.inr (.inr (.inr (.inr (.inl e))))))))
    · rintro k (e | e | e | e | e | e | e | e)
      · exact h.own _ (.inl e)
      · exact h.own _ (.inr (.inl e))
      · exact h.own _ (.inr (.inr (.inl e)))
      · exact h.own _ (.inr (.inr (.inr (.inl e))))
      · exact h.own _ (.inr (.inr (.inr (.inr (.inl e)))))
      · exact h.own _ (.inr (.inr (.inr (.inr (.inr (.inl e))))))
      · rcases hO8 k e with e | e
        · exact h.own _ (.inr (.inr (.inr (.inr (.inr (.inr (.inl e)))))))
        · omega
      · exact h.own _ (.inr (.inr (.inr (.inr (.inr (.inr (.inr e)))))))
    · show s.parts ++ [srtC C (s.S.drop (PT.ix s.S x))] = _
      rw [List.map_append, h.p1, hat]; rfl
    · intro g hg
      obtain ⟨a1, a2⟩ := h.f2 g hg
      exact ⟨kR a1, fun b hb' => a2 b hb'⟩
    · intro g hg
      rcases List.mem_append.1 hg with hg | hg
      · obtain ⟨a1, a2⟩ := h.p2 g hg
        exact ⟨kS a1, fun b hb' => a2 b hb'⟩
      · simp only [List.mem_singleton] at hg
        subst hg
        refine ⟨hnew, fun b hb' => ?_⟩
        have := own_sl hb'
        subst this
        refine ⟨by omega, fun e => ?_, fun e => ?_⟩
        · have := own_sl e; omega
        · have := hm.mi.lt e; omega
end
end Go.Proofs.Ytjocklgihjbaiaa
end
section
/- Graphs: the walk in memory; what is kept when one thing of it is turned. -/
namespace Go.Proofs.Ytjocklgihjbaiaa
open Go.RowKit
section
variable {w0 w w' : World} {bw bg bi bl bo : Nat} {vs vf vp vm : Value} {s : WSt} {GF : List (It × Value × List It)} {GP : List (Value × List It)}
structure Kept (w0 w' : World) (S : Nat → Prop) (bi bl bo : Nat) (vs vf vp vm : Value) (s : WSt) (GF : List (It × Value × List It)) (GP : List (Value × List It)) : Prop where
  fr : Fr w0 w'
  idx : MapAt itV w' bi (idxL s)
  on : MapAt itV w' bo (onL s)
  st : Sl w' 27 2 itL vs s.S
  pa : Sl w' 39 1 slL vp (GP.map (·.1))
  f2 : ∀ g ∈ GF, RdB w' g.2.1 g.2.2
  p2 : ∀ g ∈ GP, Sl w' 27 2 itL g.1 g.2
  low : ¬ S bl → MapAt itV w' bl (lowL s)
  vf : (∀ g, vf.ownBlock = some g → ¬ S g) → Sl w' 115 3 frL vf (GF.reverse.map fun g => (g.1, g.2.1))
  mi : (∀ g, vm.ownBlock = some g → ¬ S g) → Sl w' 27 2 itL vm s.missing
theorem WalkG.keep (h : WalkG w0 w bw bg s bi bl bo vs vf vp vm GF GP) {S : Nat → Prop} (hCh : Ch S w w') (hS : ∀ g, S g → g = bw ∨ g = bl ∨ vf.ownBlock = some g ∨ vm.ownBlock = some g) :
    Kept w0 w' S bi bl bo vs vf vp vm s GF GP := by
  have hm := h.m
  have hb := hm.blk
  have k27 : ∀ k cs', Blk w k 27 cs' → vm.ownBlock ≠ some k → ¬ S k := by
    intro k cs' hk hn hs
    rcases hS k hs with rfl | rfl | e | e
    · exact absurd (hk.inj hb).1 (by decide)
    · exact hm.low.ne_blk hk rfl
    · exact Row.ne_ty hm.fr hk (by decide) e
    · exact hn e
  have kM : ∀ {b l}, MapAt itV w b l → ¬ S b → MapAt itV w' b l := fun hmb hne => hmb.ch hCh hne
  have kN : ∀ {b l}, MapAt itV w b l → b ≠ bl → ¬ S b := by
    intro b l hmb hne hs
    rcases hS b hs with rfl | rfl | e | e
    · exact hmb.ne_blk hb rfl
    · exact hne rfl
    · exact Row.ne_map hm.fr hmb e
    · exact Row.ne_map hm.mi hmb e
  refine ⟨?_, kM hm.idx (kN hm.idx hm.il), kM hm.on (kN hm.on (Ne.symm hm.lo)), ?_, ?_, ?_, ?_, fun hn => kM hm.low hn, fun hn => hm.fr.ch hCh hn, fun hn => hm.mi.ch hCh hn⟩
  · refine h.fr.more hCh fun k hk => h.own k ?_
    rcases hS k hk with e | e | e | e
    · exact .inl e
    · exact .inr (.inr (.inl e))
    · exact .inr (.inr (.inr (.inr (.inr (.inl e)))))
    · exact .inr (.inr (.inr (.inr (.inr (.inr (.inr e))))))
  · exact hm.st.ch hCh fun k hk => by
      obtain ⟨cs, hc⟩ := slt hm.st hk
      exact k27 k cs hc (hm.sm k hk)
  · refine hm.pa.ch hCh fun k hk hs => ?_
    rcases hS k hs with rfl | rfl | e | e
    · exact Row.ne_ty hm.pa hb (by decide) hk
    · exact Row.ne_map hm.pa hm.low hk
    · exact Row.ne_row hm.pa hm.fr (by decide) k hk e
    · exact Row.ne_row hm.pa hm.mi (by decide) k hk e
  · intro g hg
    obtain ⟨h1, h2⟩ := h.f2 g hg
    exact h1.ch hCh fun k hk => by
      obtain ⟨cs, hc⟩ := h1.blk hk
      exact k27 k cs hc (h2 k hk).2
  · intro g hg
    obtain ⟨h1, h2⟩ := h.p2 g hg
    exact h1.ch hCh fun k hk => by
      obtain ⟨cs, hc⟩ := slt h1 hk
      exact k27 k cs hc (h2 k hk).2.2
theorem WalkG.mono (h : WalkG w0 w bw bg s bi bl bo vs vf vp vm GF GP) (hF : Fr w w') : WalkG w0 w' bw bg s bi bl bo vs vf vp vm GF GP := by
  have hk := h.keep (S := fun _ => False) (hF.ch _) (fun _ h => h.elim)
  exact ⟨⟨h.m.blk.fr hF, hk.idx, hk.low id, hk.on, hk.st, hk.vf (fun _ _ h => h), hk.pa, hk.mi (fun _ _ h => h), h.m.il, h.m.io, h.m.lo, h.m.sm⟩, hk.fr, h.own, h.f1, h.p1, fun g hg => ⟨hk.f2 g hg, (h.f2 g hg).2⟩, fun g hg => ⟨hk.p2 g hg, (h.p2 g hg).2⟩⟩
/-- One cell of the last frame put anew. -/
theorem frPut {x : It} {v : Value} {l : List (It × Value)} {i : Nat} (hi : l.length = i) (h : Sl w 115 3 frL vf (l ++ [(x, v)])) : ∃ g cap cur, vf = .slice (some ⟨g, 0, none⟩) (i + 1) cap ∧ i + 1 ≤ cap ∧ Blk w g 115 cur ∧ i * 3 + 2 < cur.size ∧ w.rangeAt g (i * 3) (itA x).toList ∧ w.cell? ⟨g, i * 3 + 2, none⟩ = some v ∧
    ∀ w' v', Blk w' g 115 (cur.setIfInBounds (i * 3 + 2) v') → Sl w' 115 3 frL vf (l ++ [(x, v')]) := by
  subst hi
  have hget : (l ++ [(x, v)])[l.length]? = some (x, v) := by simp
  have hlen : (l ++ [(x, v)]).length = l.length + 1 := by simp
  obtain ⟨g0, c0, e0, _, hr⟩ := h.at_ frL_len hget
  obtain ⟨g, cap, cur, e1, hb, hsz, _⟩ := h.put frL_len (i := l.length) (by simp) (x, v)
  have hcap : l.length + 1 ≤ cap := by
    have := Row.cap_le (p := some ⟨g, 0, none⟩) (n := (l ++ [(x, v)]).length) (c := cap) (by have h' : Row w 115 3 vf _ _ := h; rw [e1] at h'; exact h')
    rwa [hlen] at this
  rw [e0] at e1
  injection e1 with e1 _ e3
  injection e1 with e1
  injection e1 with e1
  subst e1 e3
  have c0 := hr 0 (.int .i64 x.1) rfl
  have c1 := hr 1 (.int .i64 x.2) rfl
  have c2 := hr 2 v rfl
  refine ⟨g0, _, cur, by rw [e0, hlen], hcap, hb, by omega, fun j u hj => ?_, c2, ?_⟩
  · match j, hj with
    | 0, hj => simp only [itA] at hj; injection hj with hj; rw [← hj]; exact c0
    | 1, hj => simp only [itA] at hj; injection hj with hj; rw [← hj]; exact c1
    | j + 2, hj => simp [itA] at hj
  · intro w' v' hb'
    obtain ⟨g2, cap2, cur2, e2, hb2, hsz2, hput⟩ := h.put frL_len (i := l.length) (by simp) (x, v')
    rw [e0] at e2
    injection e2 with e2 _ _
    injection e2 with e2
    injection e2 with e2
    subst e2
    obtain ⟨_, rfl⟩ := hb.inj hb2
    have hset : (l ++ [(x, v)]).set l.length (x, v') = l ++ [(x, v')] := by simp
    rw [hset] at hput
    refine hput w' ?_
    have hcell : ∀ k u, w.cell? ⟨g0, k, none⟩ = some u → cur.toList[k]? = some u := fun k u hc => by
      have hb0 := hb
      unfold Blk at hb0
      simp only [World.cell?, hb0] at hc
      simpa using hc
    have d0 := hcell _ _ c0
    have d1 := hcell _ _ c1
    have e : (⟨cur.toList.take (l.length * 3) ++ frL (x, v') ++ cur.toList.drop (l.length * 3 + 3)⟩ : Array Value) = cur.setIfInBounds (l.length * 3 + 2) v' := by
      apply Array.ext_getElem?
      intro j
      rw [Array.getElem?_setIfInBounds]
      rw [← Array.getElem?_toList, ← Array.getElem?_toList]
      simp only [List.append_assoc]
      have hcl : cur.toList.length = cur.size := rfl
      have htl : (cur.toList.take (l.length * 3)).length = l.length * 3 := by rw [List.length_take, hcl]; omega
      rcases Nat.lt_or_ge j (l.length * 3) with hj | hj
      · rw [List.getElem?_append_left (by omega), List.getElem?_take, if_pos hj, if_neg (by omega)]
      · rw [List.getElem?_append_right (by omega), htl]
        rcases Nat.lt_or_ge j (l.length * 3 + 3) with hj2 | hj2
        · rw [List.getElem?_append_left (by rw [frL_len]; omega)]
          obtain ⟨t, rfl⟩ : ∃ t, j = l.length * 3 + t := ⟨j - l.length * 3, by omega⟩
          rw [Nat.add_sub_cancel_left]
          match t, hj2 with
          | 0, _ => rw [if_neg (by omega)]; exact d0.symm
          | 1, _ => rw [if_neg (by omega)]; exact d1.symm
          | 2, _ => rw [if_pos rfl, if_pos (by omega)]; rfl
          | t + 3, h => omega
        · rw [List.getElem?_append_right (by rw [frL_len]; omega), frL_len, List.getElem?_drop, if_neg (by omega)]
          congr 1
          omega
    rw [e]
    exact hb'
/-- The last frame goes on by one. -/
theorem WalkG.next {x y : It} {v v' : Value} {r : List It} (h : WalkG w0 w bw bg s bi bl bo vs vf vp vm ((x, v, y :: r) :: GF) GP) {g : Nat} (hg : vf.ownBlock = some g) (hU : Upd g w w') (hfr : Sl w' 115 3 frL vf ((GF.reverse.map fun g => (g.1, g.2.1)) ++ [(x, v')]))
    (hv : RdB w v' r) (hvo : ∀ k, v'.ownBlock = some k → v.ownBlock = some k) : WalkG w0 w' bw bg { s with FR := (x, r) :: GF.map fun g => (g.1, g.2.2) } bi bl bo vs vf vp vm ((x, v', r) :: GF) GP := by
  have hb := h.m.blk
  have hne : bw ≠ g := fun e => Row.ne_ty h.m.fr hb (by decide) (e ▸ hg)
  have hk := h.keep (S := fun k => k = g) hU.ch (fun k e => by subst e; exact .inr (.inr (.inl hg)))
  have hv0 := h.f2 _ (List.mem_cons_self ..)
  refine ⟨⟨hb.upd hU hne, hk.idx, hk.low (fun e => Row.ne_map h.m.fr h.m.low (e ▸ hg)), hk.on, hk.st, ?_, hk.pa, hk.mi (fun k hk' e => Row.ne_row h.m.mi h.m.fr (by decide) k hk' (e ▸ hg)), h.m.il, h.m.io, h.m.lo, h.m.sm⟩, hk.fr, h.own, rfl, h.p1, ?_, fun g hg => ⟨hk.p2 g hg, (h.p2 g hg).2⟩⟩
  · simpa using hfr
  · intro a ha
    rcases List.mem_cons.1 ha with rfl | ha
    · refine ⟨hv.ch hU.ch fun k hk' e => ?_, fun b hb' => hv0.2 b (hvo b hb')⟩
      obtain ⟨cs, hc⟩ := hv.blk hk'
      exact Row.ne_ty h.m.fr hc (by decide) (e ▸ hg)
    · exact ⟨hk.f2 a (List.mem_cons_of_mem _ ha), (h.f2 a (List.mem_cons_of_mem _ ha)).2⟩
/-- One more is missing. -/
theorem WalkG.miss {y : It} {vm' : Value} (h : WalkG w0 w bw bg s bi bl bo vs vf vp vm GF GP) (hCh : Ch (fun g => g = bw ∨ vm.ownBlock = some g) w w') (hb : Blk w' bw 88 #[.pointer (some ⟨bg, 0, none⟩), .map (some bi), .map (some bl), .map (some bo), vs, vf, vp, vm'])
    (hmi : Sl w' 27 2 itL vm' (s.missing ++ [y])) (ho : ∀ g, vm'.ownBlock = some g → vm.ownBlock = some g ∨ w.heap.size ≤ g) : WalkG w0 w' bw bg { s with missing := s.missing ++ [y] } bi bl bo vs vf vp vm' GF GP := by
  have hb0 := h.m.blk
  have hk := h.keep (S := fun g => g = bw ∨ vm.ownBlock = some g) hCh (fun k e => e.elim .inl fun e => .inr (.inr (.inr e)))
  have hsz := h.fr.size
  have sep : ∀ b, b < w.heap.size → vm.ownBlock ≠ some b → vm'.ownBlock ≠ some b := fun b hb1 hb2 e => (ho b e).elim hb2 fun h => by omega
  refine ⟨⟨hb, hk.idx, hk.low ?_, hk.on, hk.st, hk.vf ?_, hk.pa, hmi, h.m.il, h.m.io, h.m.lo, fun g hg => sep g (h.m.st.lt hg) (h.m.sm g hg)⟩, hk.fr, ?_, h.f1, h.p1, fun g hg => ⟨hk.f2 g hg, fun b hb1 => ⟨((h.f2 g hg).2 b hb1).1, ?_⟩⟩, fun g hg => ⟨hk.p2 g hg, fun b hb1 => ⟨((h.p2 g hg).2 b hb1).1, ((h.p2 g hg).2 b hb1).2.1, ?_⟩⟩⟩
  · rintro (rfl | e)
    · exact h.m.low.ne_blk hb0 rfl
    · exact Row.ne_map h.m.mi h.m.low e
  · rintro k hk' (rfl | e)
    · exact Row.ne_ty h.m.fr hb0 (by decide) hk'
    · exact Row.ne_row h.m.fr h.m.mi (by decide) k hk' e
  · rintro k (e | e | e | e | e | e | e | e)
    · exact h.own _ (.inl e)
    · exact h.own _ (.inr (.inl e))
    · exact h.own _ (.inr (.inr (.inl e)))
    · exact h.own _ (.inr (.inr (.inr (.inl e))))
    · exact h.own _ (.inr (.inr (.inr (.inr (.inl e)))))
    · exact h.own _ (.inr (.inr (.inr (.inr (.inr (.inl e))))))
    · exact h.own _ (.inr (.inr (.inr (.inr (.inr (.inr (.inl e)))))))
    · rcases ho k e with e | e
      · exact h.own _ (.inr (.inr (.inr (.inr (.inr (.inr (.inr e)))))))
      · omega
  · obtain ⟨cs, hc⟩ := (h.f2 g hg).1.blk hb1
    exact sep b hc.lt ((h.f2 g hg).2 b hb1).2
  · exact sep b ((h.p2 g hg).1.lt hb1) ((h.p2 g hg).2 b hb1).2.2
/-- How low one reaches. -/
theorem WalkG.lower {x : It} {k : Nat} (h : WalkG w0 w bw bg s bi bl bo vs vf vp vm GF GP) (hn : s.V.Nodup) (hx : x ∈ s.V) (hU : Upd bl w w') (hl : MapAt itV w' bl (putK (lowL s) x (.int .i64 (min (s.low x) k : Nat)))) : WalkG w0 w' bw bg (s.lower x k) bi bl bo vs vf vp vm GF GP := by
  have hb0 := h.m.blk
  have hk := h.keep (S := fun g => g = bl) hU.ch (fun k e => .inr (.inl e))
  refine ⟨⟨hb0.upd hU (h.m.low.ne_blk hb0), hk.idx, ?_, hk.on, hk.st, hk.vf ?_, hk.pa, hk.mi ?_, h.m.il, h.m.io, h.m.lo, h.m.sm⟩, hk.fr, h.own, h.f1, h.p1, fun g hg => ⟨hk.f2 g hg, (h.f2 g hg).2⟩, fun g hg => ⟨hk.p2 g hg, (h.p2 g hg).2⟩⟩
  · unfold lowL at hl
    rw [putK_map _ hn hx] at hl
    refine (congrArg (fun l => MapAt itV w' bl l) (List.map_congr_left fun v hv => ?_)).mp hl
    simp only [PT.St.lower]
    split <;> rfl
  · rintro k hk' rfl
    exact Row.ne_map h.m.fr h.m.low hk'
  · rintro k hk' rfl
    exact Row.ne_map h.m.mi h.m.low hk'
/-- The last frame goes. -/
theorem WalkG.pop {x : It} {v : Value} {r : List It} {p : Option Addr} {n c : Nat} (h : WalkG w0 w bw bg s bi bl bo vs (.slice p n c) vp vm ((x, v, r) :: GF) GP) (hU : Upd bw w w')
    (hb : Blk w' bw 88 #[.pointer (some ⟨bg, 0, none⟩), .map (some bi), .map (some bl), .map (some bo), vs, .slice p GF.length c, vp, vm]) : WalkG w0 w' bw bg { s with FR := GF.map fun g => (g.1, g.2.2) } bi bl bo vs (.slice p GF.length c) vp vm GF GP := by
  have hb0 := h.m.blk
  have hk := h.keep (S := fun g => g = bw) hU.ch (fun k e => .inl e)
  have hfr := hk.vf (by rintro k hk' rfl; exact Row.ne_ty h.m.fr hb0 (by decide) hk')
  have hsl : Sl w' 115 3 frL (.slice p GF.length c) (GF.reverse.map fun g => (g.1, g.2.1)) := by
    have := Sl.take frL_len hfr (m := GF.length) (by simp)
    simpa using this
  refine ⟨⟨hb, hk.idx, hk.low (fun e => h.m.low.ne_blk hb0 e.symm), hk.on, hk.st, hsl, hk.pa, hk.mi ?_, h.m.il, h.m.io, h.m.lo, h.m.sm⟩, hk.fr, ?_, rfl, h.p1, fun g hg => ⟨hk.f2 g (List.mem_cons_of_mem _ hg), (h.f2 g (List.mem_cons_of_mem _ hg)).2⟩, fun g hg => ⟨hk.p2 g hg, (h.p2 g hg).2⟩⟩
  · rintro k hk' rfl
    exact Row.ne_ty h.m.mi hb0 (by decide) hk'
  · rintro k (e | e | e | e | e | e | e | e)
    · exact h.own _ (.inl e)
    · exact h.own _ (.inr (.inl e))
    · exact h.own _ (.inr (.inr (.inl e)))
    · exact h.own _ (.inr (.inr (.inr (.inl e))))
    · exact h.own _ (.inr (.inr (.inr (.inr (.inl e)))))
    · exact h.own _ (.inr (.inr (.inr (.inr (.inr (.inl (by cases p <;> exact e)))))))
    · exact h.own _ (.inr (.inr (.inr (.inr (.inr (.inr (.inl e)))))))
    · exact h.own _ (.inr (.inr (.inr (.inr (.inr (.inr (.inr e)))))))
end
section
variable {w0 w : World} {bw bg bi bl bo : Nat} {vs vf vp vm : Value} {s : WSt} {GF : List (It × Value × List It)} {GP : List (Value × List It)}
variable {n : Int} {C : It → Option CallD} {O : It → Bool} {F : Nat → Prop}
theorem pushW (y : It) (RR : Ending → World → Prop) (hG : GraphAt w0 bg n C O F) (h : WalkG w0 w bw bg s bi bl bo vs vf vp vm GF GP) (hdep : ∀ i, i < 7 → depOf (C y) i ≤ 64) (hy : y ∉ s.V) (hls : s.S.length ≤ 1000000) (hlf : s.FR.length ≤ 1000000)
    (hR : ∀ w', WalkW w0 w' bw bg (s.push (waitsL C O) y) → RR (.returned (.tuple #[])) w') : Calls Try.prog 50 #[.pointer (some ⟨bw, 0, none⟩), itV y] w RR := by
  have hlen : (idxL s).length = s.V.length := by simp [idxL]
  have hlf' : (GF.reverse.map fun g => (g.1, g.2.1)).length ≤ 1000000 := by
    have := congrArg List.length h.f1
    simp only [List.length_map, List.length_reverse] at this ⊢
    omega
  have hsz := h.fr.size
  refine push50 y w RR (hG.fr h.fr) h.m hdep (by unfold idxL; rw [findK_map, if_neg hy]) (by unfold lowL; rw [findK_map, if_neg hy]) hls hlf' fun w' vs' vf' vn hm hvn hvo hvs hCh hs1 hs2 => ?_
  have sepW : ∀ k cs, Blk w k 27 cs → vs.ownBlock ≠ some k → vm.ownBlock ≠ some k → ¬ walkS bw bi bl bo vs vf vp vm k := by
    rintro k cs hc n1 n2 (rfl | rfl | rfl | rfl | e | e | e | e)
    · exact absurd (hc.inj h.m.blk).1 (by decide)
    · exact h.m.idx.ne_blk hc rfl
    · exact h.m.low.ne_blk hc rfl
    · exact h.m.on.ne_blk hc rfl
    · exact n1 e
    · exact Row.ne_ty h.m.fr hc (by decide) e
    · exact Row.ne_ty h.m.pa hc (by decide) e
    · exact n2 e
  have sepS : ∀ b, b < w.heap.size → vs.ownBlock ≠ some b → vs'.ownBlock ≠ some b := fun b hb1 hb2 e => (hs1 b e).elim hb2 fun h => by omega
  refine hR w' ⟨bi, bl, bo, vs', vf', vp, vm, (y, vn, waitsL C O y) :: GF, GP, ⟨?_, ?_, ?_, ?_, h.p1, ?_, ?_⟩⟩
  · have e1 : idxL (s.push (waitsL C O) y) = idxL s ++ [(y, .int .i64 (idxL s).length)] := by
      rw [hlen]
      simp only [idxL, PT.St.push, List.map_append, List.map_cons, List.map_nil]
      congr 1
      · exact List.map_congr_left fun v hv => by rw [show PT.ix (s.V ++ [y]) v = PT.ix s.V v from PT.idx_snoc hv]
      · rw [show PT.ix (s.V ++ [y]) y = s.V.length from PT.idx_new hy]
    have e2 : lowL (s.push (waitsL C O) y) = lowL s ++ [(y, .int .i64 (idxL s).length)] := by
      rw [hlen]
      simp only [lowL, PT.St.push, List.map_append, List.map_cons, List.map_nil, if_pos]
      congr 1
      exact List.map_congr_left fun v hv => by
        have hne : v ≠ y := fun e => hy (e ▸ hv)
        rw [if_neg hne]
    have e3 : onL (s.push (waitsL C O) y) = putK (onL s) y (.bool true) := by
      unfold onL
      rw [putK_new _ hy]
      simp only [PT.St.push, List.map_append, List.map_cons, List.map_nil]
      congr 1
      · exact List.map_congr_left fun v hv => by
          have : v ≠ y := fun e => hy (e ▸ hv)
          simp [this]
      · simp
    rw [e1, e2, e3]
    have e4 : (((y, vn, waitsL C O y) :: GF).reverse.map fun g => (g.1, g.2.1)) = (GF.reverse.map fun g => (g.1, g.2.1)) ++ [(y, vn)] := by simp
    rw [e4]
    exact hm
  · exact h.fr.more hCh fun k hk => h.own k hk
  · rintro k (e | e | e | e | e | e | e | e)
    · exact h.own _ (.inl e)
    · exact h.own _ (.inr (.inl e))
    · exact h.own _ (.inr (.inr (.inl e)))
    · exact h.own _ (.inr (.inr (.inr (.inl e))))
    · rcases hs1 k e with e | e
      · exact h.own _ (.inr (.inr (.inr (.inr (.inl e)))))
      · omega
    · rcases hs2 k e with e | e
      · exact h.own _ (.inr (.inr (.inr (.inr (.inr (.inl e))))))
      · omega
    · exact h.own _ (.inr (.inr (.inr (.inr (.inr (.inr (.inl e)))))))
    · exact h.own _ (.inr (.inr (.inr (.inr (.inr (.inr (.inr e)))))))
  · show (y, waitsL C O y) :: s.FR = _
    rw [h.f1]; rfl
  · intro g hg
    rcases List.mem_cons.1 hg with rfl | hg
    · refine ⟨RdB.of hvn, fun b hb => ⟨hvs b hb, fun e => ?_⟩⟩
      have := hvo b hb
      have := h.m.mi.lt e
      omega
    · obtain ⟨a1, a2⟩ := h.f2 g hg
      refine ⟨a1.ch hCh fun k hk => ?_, fun b hb => ?_⟩
      · obtain ⟨cs, hc⟩ := a1.blk hk
        exact sepW k cs hc (a2 k hk).1 (a2 k hk).2
      · obtain ⟨cs, hc⟩ := a1.blk hb
        exact ⟨sepS b hc.lt (a2 b hb).1, (a2 b hb).2⟩
  · intro g hg
    obtain ⟨a1, a2⟩ := h.p2 g hg
    refine ⟨a1.ch hCh fun k hk => ?_, fun b hb => ?_⟩
    · obtain ⟨cs, hc⟩ := slt a1 hk
      exact sepW k cs hc (a2 k hk).2.1 (a2 k hk).2.2
    · exact ⟨(a2 b hb).1, sepS b (a1.lt hb) (a2 b hb).2.1, (a2 b hb).2.2⟩
end
end Go.Proofs.Ytjocklgihjbaiaa
end
section
/- Graphs: the walk in memory; step. -/
namespace Go.Proofs.Ytjocklgihjbaiaa
open Go.RowKit
def okC (C : It → Option CallD) (y : It) : Bool := (C y).isSome
theorem lookOk (s : WSt) (y : It) : (if true = true then Value.tuple #[((findK y (idxL s) 0).map (·.2)).getD (.int .i64 0), .bool (findK y (idxL s) 0).isSome] else ((findK y (idxL s) 0).map (·.2)).getD (.int .i64 0)) =
    .tuple #[.int .i64 ((if y ∈ s.V then PT.ix s.V y else 0 : Nat) : Int), .bool (decide (y ∈ s.V))] := by
  unfold idxL
  rw [if_pos rfl, findK_map]
  split <;> rename_i h <;> simp [h]
theorem lookN (f : It → Value) {x : It} {V : List It} (hx : x ∈ V) (z u : Value) : (if false = true then Value.tuple #[((findK x (V.map fun v => (v, f v)) 0).map (·.2)).getD z, u] else ((findK x (V.map fun v => (v, f v)) 0).map (·.2)).getD z) = f x := by
  rw [if_neg (by simp), look_map f hx]
section
variable {w0 : World} {bw bg bi bl bo : Nat} {vs vf vp vm : Value} {s : WSt} {GF : List (It × Value × List It)} {GP : List (Value × List It)}
variable {n : Int} {C : It → Option CallD} {O : It → Bool} {F : Nat → Prop} {rt : It}
set_option maxRecDepth 10000 in
set_option maxHeartbeats 4000000 in
theorem stepNext51 (x y : It) (v : Value) (r : List It) (w : World) (RR : Ending → World → Prop) (hG : GraphAt w0 bg n C O F) (h : WalkG w0 w bw bg s bi bl bo vs vf vp vm ((x, v, y :: r) :: GF) GP) (hI : PT.Inv (okC C) (waitsL C O) (srtC C) rt s)
    (hdep : ∀ y i, i < 7 → depOf (C y) i ≤ 64) (hV : s.V.length ≤ 100000) (hmiss : s.missing.length ≤ 100000)
    (hR : ∀ w', WalkW w0 w' bw bg (s.step (okC C) (waitsL C O) (srtC C)) → RR (.returned (.tuple #[])) w') : Calls Try.prog 51 #[.pointer (some ⟨bw, 0, none⟩)] w RR := by
  have hm := h.m
  have hb := hm.blk
  have hfr := hm.fr
  rw [List.reverse_cons, List.map_append, List.map_cons, List.map_nil] at hfr
  obtain ⟨gf, cf, cur, rfl, hcf, hbf, hszf, hix, hcv, hput⟩ := frPut (by simp : (GF.reverse.map fun g => (g.1, g.2.1)).length = GF.length) hfr
  obtain ⟨hrd, hsep⟩ := h.f2 _ (List.mem_cons_self ..)
  obtain ⟨p, c, hv⟩ : ∃ p c, v = .slice p (r.length + 1) c := by
    obtain ⟨p, c, e, _⟩ := hrd
    exact ⟨p, c, e⟩
  subst hv
  have hv0 := hrd
  obtain ⟨gy, oy, cy, hp, hby, hry⟩ : ∃ g o cs, p = some ⟨g, o, none⟩ ∧ Blk w g 27 cs ∧ w.rangeAt g o (cellsOf itL (y :: r)) := by
    obtain ⟨p', c', e1, e2, e3, e4⟩ := hrd
    injection e1 with e1 _ _
    subst e1
    rcases e4 with ⟨e4, _⟩ | e4
    · cases e4
    · exact e4
  subst hp
  have hry0 : w.rangeAt gy oy (itA y).toList := fun j u hj => hry j u (by
    have h1 : (itL y)[j]? = some u := hj
    rw [show cellsOf itL (y :: r) = itL y ++ cellsOf itL r from rfl, List.getElem?_append_left (List.getElem?_eq_some_iff.1 h1).1]
    exact h1)
  have hlb := hb.lt
  have hlgf := hbf.lt
  have hGw := hG.fr h.fr
  have hFR : s.FR = (x, y :: r) :: GF.map fun g => (g.1, g.2.2) := h.f1
  have hxS : x ∈ s.S := hI.fm (f := (x, y :: r)) (by rw [hFR]; exact List.mem_cons_self ..)
  have hfl := hI.fl
  have hsl := hI.slen
  have hgl : GF.length + 1 ≤ 100000 := by rw [hFR] at hfl; simp at hfl; omega
  refine e_enter (n := ⟨176, []⟩) Try.mixed Try.func51 Try.p51 Try.x51 Try.fb51 Try.hx51 Try.ok51 rfl rfl (by simp) ?_; simp only [Try.x51, argEnv, Nat.zero_add, Nat.reduceAdd]
  (refine e_seq fun K1 hK1 => ?_; refine a_drawn fun w1 hF1 => ?_; have hz1 := hF1.size; refine A_move ?_; refine A_nil ?_; refine A_field ?_; refine A_move ?_; 
     refine A_nil ?_; refine A_field ?_; refine A_load ?_; refine A_load ?_; refine A_lenS ?_; refine A_subN1 ?_; refine A_idxS ?_; refine A_assign ?_; refine a_next ?_; 
     refine e_seq fun K1 hK1 => ?_; refine e_seq fun K1 hK1 => ?_; refine e_region ?_; refine A_move ?_; refine A_nil ?_; refine A_field ?_; refine A_load ?_; refine A_lenS ?_; 
     refine A_eql ?_; refine a_next ?_; refine a_false ?_; refine a_nextC ?_; refine e_seq fun K1 hK1 => ?_; refine e_region ?_; refine A_move ?_; refine A_nil ?_; 
     refine A_field ?_; refine A_load ?_; refine A_idxS ?_; refine A_loads ?_; refine A_alloc fun b1 w1 hF1 hN1 hB1 => ?_; have hz1 := hF1.size; obtain ⟨hn1, hl1⟩ := hN1; 
     refine A_storeW fun w1 hU1 hB1 => ?_; refine a_next ?_; refine e_seq fun K1 hK1 => ?_; refine e_region ?_; refine A_move ?_; refine A_move ?_; refine A_nil ?_; 
     refine A_field ?_; refine A_load ?_)
  refine E_sliceLo (v := sliced (some ⟨gy, oy, none⟩) 1 (r.length + 1) c 2) sty39 rfl rfl (by omega) (by omega) rfl (Nat.le_of_ble_eq_true rfl) ?_
  (refine A_nil ?_; refine A_field ?_)
  have ⟨b5, hb5⟩ : ∃ b5, b5 = b1 := ⟨_, rfl⟩
  subst hb5
  have hB51 : Blk w1 b5 27 (itA y) := hB1
  have hFX : Fr w w1 := by exact fr_
  have hl5 : w.heap.size ≤ b5 := by omega
  have hzX := hFX.size
  clear hF1 hB1 hU1
  refine E_store1 (o := GF.length * 3 + 2) rfl (fun _ _ _ => trivial) rfl rfl (hbf.fr hFX) (by simp only [Try.SI]) rfl (by omega) ?_
  intro w2 hU2 hB2
  have hz2 := hU2.size
  obtain ⟨hrt, hro⟩ := (RdB.tail hv0).2
  have h1 := WalkG.next (h.mono hFX) (g := gf) rfl hU2 (hput w2 _ hB2) (hrt.fr hFX) hro
  have hB5 : Blk w2 b5 27 (itA y) := hB51.upd hU2 (by omega)
  have hb2 := h1.m.blk
  have hl52 := hB5.lt
  have hid2 := h1.m.idx
  have hon2 := h1.m.on
  have hlo2 := h1.m.low
  have hfm2 : Blk w2 gf 115 (cur.setIfInBounds (GF.length * 3 + 2) (sliced (some ⟨gy, oy, none⟩) 1 (r.length + 1) c 2)) := hB2
  have hix2 : w2.rangeAt gf (GF.length * 3) (itA x).toList := by
    have hfr2 := h1.m.fr
    rw [List.reverse_cons, List.map_append, List.map_cons, List.map_nil] at hfr2
    obtain ⟨gf', cf', cur', e1, _, _, _, hix', _⟩ := frPut (by simp : (GF.reverse.map fun g => (g.1, g.2.1)).length = GF.length) hfr2
    have := own_sl (e1 ▸ (show (Value.slice (some ⟨gf, 0, none⟩) (GF.length + 1) cf).ownBlock = some gf from rfl))
    rw [← this]; exact hix'
  rw [PT.St.step_next _ _ _ hFR] at hR
  have hF2 := h1.fr
  have hG2 := hG.fr hF2
  clear hB51 hU2 hbf hput hrt hro hv0 hry hry0 hrd hsep hfr hcv hix hGw hm hb hFX hB2
  (refine a_next ?_; refine e_seq fun K1 hK1 => ?_; refine a_drawn fun w1 hF1 => ?_; have hz1 := hF1.size; refine A_move ?_; refine A_nil ?_; refine A_field ?_; 
     refine A_load ?_; refine A_loadW ?_)
  refine E_lookupK (l := idxL s) und46 keyIt ez3 rfl rfl trivial (hid2.fr (by exact fr_)) (lookOk s y) (Nat.le_of_ble_eq_true rfl) ?_
  obtain ⟨bv, hbv⟩ : ∃ bv : Bool, decide (y ∈ s.V) = bv := ⟨_, rfl⟩
  obtain ⟨at_, hat⟩ : ∃ k : Nat, (if y ∈ s.V then PT.ix s.V y else 0) = k := ⟨_, rfl⟩
  rw [hbv, hat]
  (refine A_move ?_; refine A_extract ?_; refine A_extract ?_; refine A_assign ?_; refine A_assign ?_; refine a_next ?_; refine e_block ?_; refine e_seq fun K1 hK1 => ?_; 
     refine a_drawn fun w1 hF1 => ?_; have hz1 := hF1.size; refine A_move ?_; refine A_nil ?_; refine A_field ?_; refine A_load ?_; refine A_loadW ?_)
  (with_reducible apply E_call); rfl; exact Try.en42; rfl; intro RR1 hRR1
  refine is42 y _ _ (hG2.fr (by exact fr_)) fun w4 hF4 => ?_
  have hz4 := hF4.size
  refine hRR1 _ _ (by first | assumption | exact trivial) (Nat.le_of_ble_eq_true rfl) ?_; clear hRR1 RR1
  have hFY : Fr w2 w4 := by exact fr_
  have hl54 : b5 < w2.heap.size := hl52
  clear hF1
  have h4 := h1.mono hFY
  have hb4 := h4.m.blk
  have hB54 := hB5.fr hFY
  have hG4 := hG2.fr hFY
  have hzY := hFY.size
  have hix4 : w4.rangeAt gf (GF.length * 3) (itA x).toList := rangeAt_fr hix2 hFY
  clear hB5 hix2 hG2 hb2 hid2 hon2 hlo2 hfm2 h1
  cases hok : (C y).isSome with
  | false =>
    rw [if_pos (show okC C y = false from hok)] at hR
    (refine A_not ?_; refine A_assign ?_; refine a_next ?_; refine a_true ?_; refine e_seq fun K1 hK1 => ?_; refine a_drawn fun w1 hF1 => ?_; have hz1 := hF1.size; 
       refine A_move ?_; refine A_nil ?_; refine A_field ?_; refine A_load ?_; refine A_loadW ?_)
    (with_reducible apply E_call); rfl; exact Try.en32; rfl; intro RR1 hRR1
    refine contains32 y vm s.missing _ _ (h4.m.mi.rd.fr (by exact fr_)) fun w5 hF5 => ?_
    have hz5 := hF5.size
    refine hRR1 _ _ (by first | assumption | exact trivial) (Nat.le_of_ble_eq_true rfl) ?_; clear hRR1 RR1
    have hFZ : Fr w4 w5 := by exact fr_
    have hF04 := h4.fr
    by_cases hmy : y ∈ s.missing
    · rw [if_pos hmy] at hR
      (refine A_not ?_; refine a_next ?_; refine a_false ?_; refine e_norm_skip ?_; refine e_norm_block ?_; refine a_end0 ?_)
      exact hR _ ⟨_, _, _, _, _, _, _, _, _, h4.mono hFZ⟩
    · rw [if_neg hmy] at hR
      have h5 := h4.mono hFZ
      have hb5 := h5.m.blk
      have hB55 := hB54.fr hFZ
      have hlv : ∀ k, vm.ownBlock = some k → k ≠ b5 := fun k hk e => by
        subst e
        have := h.m.mi.lt hk
        omega
      clear hF1 hB54 hb4
      (refine A_not ?_; refine a_next ?_; refine a_true ?_)
      clear hFZ
      ((with_reducible apply e_drawn); (focus (intro _ _ _ d1 _ h1; cases d1 <;> exact h1)); intro w1 hF1; have hz1 := hF1.size)
      have hFd : Fr w5 w1 := hF1
      clear hF1
      have h6 := h5.mono hFd
      have hb6 := h6.m.blk
      have hB56 := hB55.fr hFd
      (refine A_move ?_; refine A_move ?_; refine A_nil ?_; refine A_field ?_; refine A_load ?_; refine A_loadW ?_)
      refine E_lit1 rfl rfl sty39 rfl (by decide) ?_
      intro b7 w7 hF7 hN7 hB7
      have hz7 := hF7.size
      obtain ⟨hn7, hl7⟩ := hN7
      have h7 := h6.mono hF7
      refine E_append (v := vm) (m := s.missing.length) (xs := cellsOf itL s.missing) (news := itL y) rfl rfl rfl sty39 h7.m.mi rfl (Blk.range (cs := itA y) hB7) (itL_one y) (by omega) (by omega) (fun _ _ => trivial) (by decide) ?_
      intro vm' w8 hC8 hR8 hO8
      have hz8 := hC8.size
      obtain ⟨pm, cm, rfl⟩ := Row.value hR8
      have hB8 := h7.m.blk.ch hC8 (fun e => Row.ne_ty h7.m.mi h7.m.blk (by decide) e)
      (refine A_nil ?_; refine A_field ?_)
      refine E_store1 (o := 7) rfl (fun _ _ _ => trivial) rfl rfl hB8 (by simp only [Try.SI]) rfl (by simp) ?_
      intro w9 hU9 hB9
      (refine e_norm_nil ?_; refine e_norm_block ?_; refine a_end0 ?_)
      simp only [List.setIfInBounds_toArray, List.set_cons_zero, List.set_cons_succ] at hB9
      refine hR w9 ⟨_, _, _, _, _, _, _, _, _, h7.miss ((hC8.mono fun _ _ e => .inr e).trans_upd hU9 (.inl (.inl rfl))) hB9 ?_ hO8⟩
      unfold Sl
      rw [cellsOf_append, List.length_append]
      have := hR8.ch hU9.ch (fun g hg e => by subst e; exact Row.ne_ty hR8 hB8 (by decide) hg)
      simpa [cellsOf] using this
  | true =>
    rw [if_neg (show ¬ okC C y = false by unfold okC; simp [hok])] at hR
    have hB54' := hB54
    cases bv with
    | false =>
      have hyV : y ∉ s.V := of_decide_eq_false hbv
      rw [if_pos hyV] at hR
      (refine A_not ?_; refine A_assign ?_; refine a_next ?_; refine a_false ?_; refine e_seq fun K1 hK1 => ?_; refine e_region ?_; refine A_move ?_; refine A_not ?_; 
         refine A_assign ?_; refine a_next ?_; refine a_true ?_; refine e_region ?_; refine A_move ?_; refine A_loadW ?_)
      (with_reducible apply E_call); rfl; exact Try.en50; rfl; intro RR1 hRR1
      refine pushW y _ hG (h4.mono (by exact fr_)) (hdep y) hyV (Nat.le_trans hsl (by omega)) (by show (_ :: _).length ≤ _; simp; omega) fun w5 hW5 => ?_
      refine hRR1 _ _ (by first | assumption | exact trivial) (Nat.le_of_ble_eq_true rfl) ?_; clear hRR1 RR1
      (refine e_norm_nil ?_; refine e_norm_block ?_; refine a_end0 ?_)
      exact hR _ hW5
    | true =>
      have hyV : y ∈ s.V := of_decide_eq_true hbv
      rw [if_neg (fun h => h hyV)] at hR
      rw [if_pos hyV] at hat
      subst hat
      clear hF1
      (refine A_not ?_; refine A_assign ?_; refine a_next ?_; refine a_false ?_; refine e_seq fun K1 hK1 => ?_; refine e_region ?_; refine A_move ?_; refine A_not ?_; 
         refine A_assign ?_; refine a_next ?_; refine a_false ?_; refine e_seq fun K1 hK1 => ?_; refine a_drawn fun w1 hF1 => ?_; have hz1 := hF1.size; refine A_move ?_; 
         refine A_nil ?_; refine A_field ?_; refine A_load ?_; refine A_loadW ?_)
      refine E_lookupK (l := onL s) und85 keyIt ez4 rfl rfl trivial (h4.m.on.fr (by exact fr_)) (lookN (fun v => .bool (decide (v ∈ s.S))) hyV _ _) (Nat.le_of_ble_eq_true rfl) ?_
      obtain ⟨bS, hbS⟩ : ∃ bS : Bool, decide (y ∈ s.S) = bS := ⟨_, rfl⟩
      rw [hbS]
      cases bS with
      | false =>
        rw [if_neg (of_decide_eq_false hbS)] at hR
        (refine A_assign ?_; refine a_next ?_; refine a_false ?_; refine e_norm_skip ?_; refine e_norm_block ?_; refine a_end0 ?_)
        exact hR _ ⟨_, _, _, _, _, _, _, _, _, h4.mono (by exact fr_)⟩
      | true =>
        rw [if_pos (of_decide_eq_true hbS)] at hR
        (refine A_assign ?_; refine a_next ?_; refine a_true ?_; refine a_drawn fun w1 hF1 => ?_; have hz1 := hF1.size; refine A_move ?_; refine A_nil ?_; refine A_field ?_; 
           refine A_move ?_; refine A_nil ?_; refine A_field ?_; refine A_move ?_; refine A_nil ?_; refine A_field ?_; refine A_move ?_; refine A_nil ?_; refine A_field ?_; 
           refine A_move ?_; refine A_load ?_; refine A_loads ?_; refine A_load ?_; refine A_loads ?_)
        have hxV : x ∈ s.V := hI.svm hxS
        have h6 := h4.mono (show Fr w4 w1 by exact fr_)
        refine E_lookupK (l := lowL s) und46 keyIt ez3 rfl rfl trivial h6.m.low (lookN (fun v => .int .i64 (s.low v : Nat)) hxV _ _) (Nat.le_of_ble_eq_true rfl) ?_
        refine E_min (m := ((min (s.low x) (PT.ix s.V y) : Nat) : Int)) rfl rfl (by omega) (Nat.le_of_ble_eq_true rfl) ?_
        refine E_mapUpdateK und46 keyIt rfl (fun _ _ => trivial) rfl rfl rfl h6.m.low ?_
        intro w7 hU7 hM7
        (refine e_norm_nil ?_; refine e_norm_block ?_; refine a_end0 ?_)
        exact hR w7 ⟨_, _, _, _, _, _, _, _, _, h6.lower hI.nd hxV hU7 hM7⟩
end
end Go.Proofs.Ytjocklgihjbaiaa
end
section
/- Graphs: the walk in memory; step, when nothing is left of the last one. -/
namespace Go.Proofs.Ytjocklgihjbaiaa
open Go.RowKit
section
variable {w0 : World} {bw bg bi bl bo : Nat} {vs vf vp vm : Value} {s : WSt} {GF : List (It × Value × List It)} {GP : List (Value × List It)}
variable {n : Int} {C : It → Option CallD} {O : It → Bool} {F : Nat → Prop} {rt : It}
set_option maxRecDepth 10000 in
set_option maxHeartbeats 4000000 in
theorem stepPop51 (x : It) (v : Value) (w : World) (RR : Ending → World → Prop) (hG : GraphAt w0 bg n C O F) (h : WalkG w0 w bw bg s bi bl bo vs vf vp vm ((x, v, []) :: GF) GP) (hI : PT.Inv (okC C) (waitsL C O) (srtC C) rt s)
    (hV : s.V.length ≤ 100000)
    (hR : ∀ w', WalkW w0 w' bw bg (s.step (okC C) (waitsL C O) (srtC C)) → RR (.returned (.tuple #[])) w') : Calls Try.prog 51 #[.pointer (some ⟨bw, 0, none⟩)] w RR := by
  have hm := h.m
  have hb := hm.blk
  have hfr := hm.fr
  rw [List.reverse_cons, List.map_append, List.map_cons, List.map_nil] at hfr
  obtain ⟨gf, cf, cur, rfl, hcf, hbf, hszf, hix, hcv, hput⟩ := frPut (by simp : (GF.reverse.map fun g => (g.1, g.2.1)).length = GF.length) hfr
  obtain ⟨hrd, hsep⟩ := h.f2 _ (List.mem_cons_self ..)
  obtain ⟨p, c, hv⟩ : ∃ p c, v = .slice p 0 c := by
    obtain ⟨p, c, e, _⟩ := hrd
    exact ⟨p, c, e⟩
  subst hv
  have hlb := hb.lt
  have hlgf := hbf.lt
  have hFR : s.FR = (x, []) :: GF.map fun g => (g.1, g.2.2) := h.f1
  have hxS : x ∈ s.S := hI.fm (f := (x, [])) (by rw [hFR]; exact List.mem_cons_self ..)
  have hxV : x ∈ s.V := hI.svm hxS
  have hfl := hI.fl
  have hsl := hI.slen
  have hpl := hI.plen
  have hgl : GF.length + 1 ≤ 100000 := by rw [hFR] at hfl; simp at hfl; omega
  rw [PT.St.step_pop _ _ _ hFR] at hR
  refine e_enter (n := ⟨176, []⟩) Try.mixed Try.func51 Try.p51 Try.x51 Try.fb51 Try.hx51 Try.ok51 rfl rfl (by simp) ?_; simp only [Try.x51, argEnv, Nat.zero_add, Nat.reduceAdd]
  (refine e_seq fun K1 hK1 => ?_; refine a_drawn fun w1 hF1 => ?_; have hz1 := hF1.size; refine A_move ?_; refine A_nil ?_; refine A_field ?_; refine A_move ?_; 
     refine A_nil ?_; refine A_field ?_; refine A_load ?_; refine A_load ?_; refine A_lenS ?_; refine A_subN1 ?_; refine A_idxS ?_; refine A_assign ?_; refine a_next ?_; 
     refine e_seq fun K1 hK1 => ?_; refine e_seq fun K1 hK1 => ?_; refine e_region ?_; refine A_move ?_; refine A_nil ?_; refine A_field ?_; refine A_load ?_; refine A_lenS ?_; 
     refine A_eql ?_; refine a_next ?_; refine a_true ?_; refine e_seq fun K1 hK1 => ?_; refine e_region ?_; refine A_move ?_; refine A_nil ?_; refine A_field ?_; 
     refine A_loads ?_; refine A_alloc fun b1 w1 hF1 hN1 hB1 => ?_; have hz1 := hF1.size; obtain ⟨hn1, hl1⟩ := hN1; refine A_storeW fun w1 hU1 hB1 => ?_; refine a_next ?_; 
     refine e_seq fun K1 hK1 => ?_; refine a_drawn fun w1 hF1 => ?_; have hz1 := hF1.size; refine A_move ?_; refine A_move ?_; refine A_nil ?_; refine A_field ?_; 
     refine A_move ?_; refine A_nil ?_; refine A_field ?_; refine A_load ?_; refine A_load ?_; refine A_lenS ?_; refine A_subN1 ?_)
  have ⟨b3, hb3⟩ : ∃ b3, b3 = b1 := ⟨_, rfl⟩
  subst hb3
  have hB31 : Blk w1 b3 27 (itA x) := by exact blk_
  have hFX : Fr w w1 := by exact fr_
  have hl3 : w.heap.size ≤ b3 := by omega
  have hzX := hFX.size
  clear hF1 hB1
  refine E_sliceHi (v := .slice (some ⟨gf, 0, none⟩) GF.length cf) sty86 rfl rfl (by omega) (by omega) (by rw [Int.toNat_natCast]; exact sliced_hi _ _ _ _) (Nat.le_of_ble_eq_true rfl) ?_
  (refine A_nil ?_; refine A_field ?_)
  refine E_store1 (o := 5) rfl (fun _ _ _ => trivial) rfl rfl (hb.fr hFX) (by simp only [Try.SI]) rfl (by simp) ?_
  intro w2 hU2 hB2
  simp only [List.setIfInBounds_toArray, List.set_cons_zero, List.set_cons_succ] at hB2
  have hz2 := hU2.size
  have h2 := (h.mono hFX).pop hU2 hB2
  have hB32 := hB31.upd hU2 (by omega)
  clear hU2 hput hbf hb hB31
  (refine a_next ?_; refine e_seq fun K1 hK1 => ?_; refine e_seq fun K1 hK1 => ?_; refine e_region ?_; refine A_move ?_; refine A_nil ?_; refine A_field ?_; 
     refine A_load ?_; refine A_lenS ?_; refine A_gtr ?_; refine a_next ?_)
  rename_i Kb hKb
  clear hK1
  have rest : ∀ (W : World) (s1 : WSt) (vf1 : Value), s1.V = s.V → s1.S = s.S → s1.parts = s.parts → WalkG w0 W bw bg s1 bi bl bo vs vf1 vp vm GF GP → Blk W b3 27 (itA x) →
      (∀ w', WalkW w0 w' bw bg (if s1.low x = PT.ix s1.V x then s1.part (srtC C) x else s1) → RR (.returned (.tuple #[])) w') → ∀ act, Agrees ⟨176, []⟩ act [(0, .pointer (some ⟨bw, 0, none⟩)), (3, .pointer (some ⟨b3, 0, none⟩))] → Kb act W := by
    clear hR h2 hB32 hB2 hm hfr h
    intro W s1 vf1 e1 e2 e3 h1 hB31 hR
    have hb1 := h1.m.blk
    have hid := h1.m.idx
    have hlo := h1.m.low
    have hx1 : x ∈ s1.V := by rw [e1]; exact hxV
    have hl31 := hB31.lt
    refine later_of hKb ?_
    clear hKb
    (refine e_seq fun K1 hK1 => ?_; refine e_seq fun K1 hK1 => ?_; refine a_drawn fun w1 hF1 => ?_; have hz1 := hF1.size; refine A_move ?_; refine A_nil ?_; refine A_field ?_; 
       refine A_move ?_; refine A_nil ?_; refine A_field ?_; refine A_load ?_; refine A_loadW ?_)
    refine E_lookupK (l := lowL s1) und46 keyIt ez3 rfl rfl trivial (hlo.fr (by exact fr_)) (lookN (fun v => .int .i64 (s1.low v : Nat)) hx1 _ _) (Nat.le_of_ble_eq_true rfl) ?_
    (refine A_load ?_; refine A_loadW ?_)
    refine E_lookupK (l := idxL s1) und46 keyIt ez3 rfl rfl trivial (hid.fr (by exact fr_)) (lookN (fun v => .int .i64 (PT.ix s1.V v : Nat)) hx1 _ _) (Nat.le_of_ble_eq_true rfl) ?_
    by_cases hc : s1.low x = PT.ix s1.V x
    · rw [if_pos hc] at hR
      (refine A_eql ?_; refine a_next ?_; refine a_true ?_; refine e_region ?_; refine A_move ?_; refine A_loadW ?_)
      (with_reducible apply E_call); rfl; exact Try.en69; rfl; intro RR1 hRR1
      refine part69 x _ _ hG (h1.mono (by exact fr_)) (by rw [e2]; exact hxS) (by rw [e1]; exact hI.nd) (by rw [e1, e2]; exact fun v hv => hI.svm hv) (by rw [e2]; exact hI.sd) (by rw [e2]; omega) (by rw [e3]; omega) fun w3 hW3 => ?_
      refine hRR1 _ _ (by first | assumption | exact trivial) (Nat.le_of_ble_eq_true rfl) ?_; clear hRR1 RR1
      (refine a_next ?_; refine e_ret_then ?_; refine a_ret0 ?_)
      exact hR _ hW3
    · rw [if_neg hc] at hR
      (refine A_eql ?_; refine a_next ?_; refine a_false ?_; refine a_nextC ?_; refine e_ret_then ?_; refine a_ret0 ?_)
      exact hR _ ⟨_, _, _, _, _, _, _, _, _, h1.mono (by exact fr_)⟩
  cases GF with
  | nil =>
    clear hKb
    (refine a_false ?_; refine e_norm_skip ?_)
    exact e_restN (rest _ { s with FR := [] } _ rfl rfl rfl (h2.mono (by exact fr_)) (hB32.fr (by exact fr_)) hR) (by exact sub_)
  | cons f GF =>
    obtain ⟨u, vu, ru⟩ := f
    have hfr2 := h2.m.fr
    rw [List.reverse_cons, List.map_append, List.map_cons, List.map_nil] at hfr2
    obtain ⟨gf', cf', cur', e1, _, hbf2, _, hix2, _⟩ := frPut (by simp : (GF.reverse.map fun g => (g.1, g.2.1)).length = GF.length) hfr2
    have e2 := own_sl (e1 ▸ (show (Value.slice (some ⟨gf, 0, none⟩) (GF.length + 1) cf).ownBlock = some gf from rfl))
    subst e2
    have huV : u ∈ s.V := hI.svm (hI.fm (f := (u, ru)) (by rw [hFR]; simp))
    have hb2 := h2.m.blk
    have hlo := h2.m.low
    have hl32 := hB32.lt
    clear hKb hfr hix hcv e1
    simp only [List.length_cons] at hb2 h2 hgl ⊢
    (refine a_true ?_; refine e_seq fun K1 hK1 => ?_)
    ((with_reducible apply e_drawn); (focus (intro _ _ _ d1 _ h1; cases d1 <;> exact h1)); intro w1 hF1; have hz1 := hF1.size)
    (refine A_move ?_; refine A_nil ?_; refine A_field ?_; refine A_move ?_; refine A_nil ?_; refine A_field ?_; refine A_load ?_; refine A_load ?_; refine A_lenS ?_; 
       refine A_subN1 ?_; refine A_idxS ?_; refine A_field ?_; refine A_loads ?_; refine A_alloc fun b1 w1 hF1 hN1 hB1 => ?_; have hz1 := hF1.size; obtain ⟨hn1, hl1⟩ := hN1; 
       refine A_storeW fun w1 hU1 hB1 => ?_; refine a_next ?_; refine a_drawn fun w1 hF1 => ?_; have hz1 := hF1.size; refine A_move ?_; refine A_nil ?_; refine A_field ?_; 
       refine A_move ?_; refine A_nil ?_; refine A_field ?_; refine A_move ?_; refine A_nil ?_; refine A_field ?_; refine A_load ?_; refine A_loadW ?_; refine A_load ?_; 
       refine A_loadW ?_)
    have ⟨b4, hb4⟩ : ∃ b4, b4 = b1 := ⟨_, rfl⟩
    subst hb4
    have hB34 : Blk w1 b3 27 (itA x) := by exact blk_
    have hF4 : Fr w2 w1 := by exact fr_
    have h4 := h2.mono hF4
    clear hF1
    refine E_lookupK (l := lowL s) und46 keyIt ez3 rfl rfl trivial h4.m.low (lookN (fun v => .int .i64 (s.low v : Nat)) huV _ _) (Nat.le_of_ble_eq_true rfl) ?_
    (refine A_load ?_; refine A_loadW ?_)
    refine E_lookupK (l := lowL s) und46 keyIt ez3 rfl rfl trivial h4.m.low (lookN (fun v => .int .i64 (s.low v : Nat)) hxV _ _) (Nat.le_of_ble_eq_true rfl) ?_
    refine E_min (m := ((min (s.low u) (s.low x) : Nat) : Int)) rfl rfl (by omega) (Nat.le_of_ble_eq_true rfl) ?_
    refine E_mapUpdateK und46 keyIt rfl (fun _ _ => trivial) rfl rfl rfl h4.m.low ?_
    intro w7 hU7 hM7
    have hlb := h4.m.low.ne_blk hB34
    refine e_norm_nil ?_
    exact e_restN (rest w7 (PT.St.lower { s with FR := ((u, vu, ru) :: GF).map fun g => (g.1, g.2.2) } u (s.low x)) _ rfl rfl rfl (h4.lower hI.nd huV hU7 hM7) (hB34.upd hU7 hlb) hR) (by exact sub_)
end
end Go.Proofs.Ytjocklgihjbaiaa
end
