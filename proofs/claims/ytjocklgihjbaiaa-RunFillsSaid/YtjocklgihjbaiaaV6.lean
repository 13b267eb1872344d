/- Proved: whatever number and whatever slice of steps come in, the law RunFills returns true, and both read behind the call as they read before. No condition beyond the given statement's own. -/
import Derived.Test.YtjocklgihjbaiaaV5
section
/- Graphs: Order. -/
namespace Go.Proofs.Ytjocklgihjbaiaa
open Go.RowKit
theorem mem_rowI (i k : Nat) (y : It) : y ∈ rowI i k ↔ y.1 = (i : Int) ∧ 1 ≤ y.2 ∧ y.2 ≤ (k : Int) := by
  unfold rowI
  rw [List.mem_map]
  constructor
  · rintro ⟨j, hj, rfl⟩
    rw [List.mem_range] at hj
    exact ⟨rfl, by show 1 ≤ (j : Int) + 1; omega, by show (j : Int) + 1 ≤ k; omega⟩
  · rintro ⟨h1, h2, h3⟩
    refine ⟨(y.2 - 1).toNat, by rw [List.mem_range]; omega, Prod.ext h1.symm ?_⟩
    show (((y.2 - 1).toNat : Nat) : Int) + 1 = y.2
    omega
theorem mem_upTo (d : Nat → Int) (m : Nat) (y : It) : y ∈ upTo d m ↔ 0 ≤ y.1 ∧ y.1 < m ∧ 1 ≤ y.2 ∧ y.2 ≤ d y.1.toNat := by
  unfold upTo
  rw [List.mem_flatMap]
  constructor
  · rintro ⟨r, hr, hy⟩
    rw [List.mem_range] at hr
    obtain ⟨h1, h2, h3⟩ := (mem_rowI _ _ _).1 hy
    have e : y.1.toNat = r := by omega
    rw [e]
    exact ⟨by omega, by omega, h2, by omega⟩
  · rintro ⟨h1, h2, h3, h4⟩
    exact ⟨y.1.toNat, by rw [List.mem_range]; omega, (mem_rowI _ _ _).2 ⟨by omega, h3, by omega⟩⟩
theorem mem_itemsOf (d : Nat → Int) (y : It) : y ∈ itemsOf d ↔ 0 ≤ y.1 ∧ y.1 < 7 ∧ 1 ≤ y.2 ∧ y.2 ≤ d y.1.toNat := by
  have := mem_upTo d 7 y
  simpa [itemsOf] using this
theorem itemsOf_zero : itemsOf (fun _ => 0) = [] := by
  rw [List.eq_nil_iff_forall_not_mem]
  intro y hy
  have := (mem_itemsOf _ y).1 hy
  omega
theorem waitsL_none {C : It → Option CallD} {O : It → Bool} {y : It} (h : okC C y = false) : waitsL C O y = [] := by
  unfold okC at h
  have : C y = none := by simpa using h
  unfold waitsL
  rw [this]
  show (itemsOf fun _ => 0).filter _ = []
  rw [itemsOf_zero]; rfl
theorem waitsL_len {C : It → Option CallD} {O : It → Bool} {y : It} (hdep : ∀ i, i < 7 → depOf (C y) i ≤ 64) : (waitsL C O y).length ≤ 448 := by
  have h1 := upTo_length (depOf (C y)) hdep 7 (Nat.le_refl _)
  have h2 : (waitsL C O y).length ≤ (itemsOf (depOf (C y))).length := List.length_filter_le _ _
  unfold itemsOf at h2
  omega
section
variable {w0 : World} {bw bg : Nat} {s : WSt}
variable {n : Int} {C : It → Option CallD} {O : It → Bool} {F : Nat → Prop} {rt : It}
theorem good_univ {x : It} (hn : n ≤ 7) (h : goodB x.1 x.2 n = true) : x ∈ itemsOf (fun _ => 64) := by
  unfold goodB at h
  simp only [Bool.and_eq_true, decide_eq_true_eq] at h
  rw [mem_itemsOf]
  omega
theorem inv_len (hG : GraphAt w0 bg n C O F) (hI : PT.Inv (okC C) (waitsL C O) (srtC C) rt s) : s.V.length ≤ 448 := by
  have h1 := PT.nodup_le s.V (itemsOf fun _ => 64) hI.nd fun x hx => good_univ hG.reps.2 (hG.good (by
    have := (hI.oks x hx).1
    unfold okC at this
    intro e; rw [e] at this; cases this))
  have h2 := upTo_length (fun _ => 64) (fun _ _ => Int.le_refl _) 7 (Nat.le_refl _)
  unfold itemsOf at h1
  omega
theorem miss_len (hdep : ∀ y i, i < 7 → depOf (C y) i ≤ 64) (hI : PT.Inv (okC C) (waitsL C O) (srtC C) rt s) : s.missing.length ≤ 448 := by
  have h1 := PT.nodup_le s.missing (itemsOf fun _ => 64) hI.mn fun x hx => by
    obtain ⟨h1, h2⟩ := hI.mi x hx
    have : x = rt ∨ x ∈ itemsOf fun _ => 64 := by
      refine PT.Path.keep (Q := fun x => x = rt ∨ x ∈ itemsOf fun _ => 64) ?_ h2 (.inl rfl)
      intro u v _ hv
      right
      unfold waitsL at hv
      have hv' := (mem_itemsOf _ _).1 (List.mem_filter.1 hv).1
      rw [mem_itemsOf]
      have := hdep u v.1.toNat (by omega)
      omega
    refine this.resolve_left fun e => ?_
    have := (hI.oks rt hI.rv).1
    rw [← e, h1] at this; cases this
  have h2 := upTo_length (fun _ => 64) (fun _ _ => Int.le_refl _) 7 (Nat.le_refl _)
  unfold itemsOf at h1
  omega
theorem step51 (w : World) (RR : Ending → World → Prop) (hG : GraphAt w0 bg n C O F) (h : WalkW w0 w bw bg s) (hI : PT.Inv (okC C) (waitsL C O) (srtC C) rt s)
    (hdep : ∀ y i, i < 7 → depOf (C y) i ≤ 64) (hne : s.FR ≠ [])
    (hR : ∀ w', WalkW w0 w' bw bg (s.step (okC C) (waitsL C O) (srtC C)) → RR (.returned (.tuple #[])) w') : Calls Try.prog 51 #[.pointer (some ⟨bw, 0, none⟩)] w RR := by
  obtain ⟨bi, bl, bo, vs, vf, vp, vm, GF, GP, h⟩ := h
  have h1 := inv_len hG hI
  have h2 := miss_len hdep hI
  match GF, h with
  | [], h => exact absurd h.f1 hne
  | (x, v, []) :: GF, h => exact stepPop51 x v w RR hG h hI (by omega) hR
  | (x, v, y :: r) :: GF, h => exact stepNext51 x y v r w RR hG h hI hdep (by omega) (by omega) hR
/-- What Order answers. -/
def Ordered (C : It → Option CallD) (O : It → Bool) (x : It) (parts : List (List It)) (missing : List It) : Prop :=
  ((C x = none ∨ O x = true) ∧ parts = [] ∧ missing = []) ∨
  ((C x).isSome = true ∧ O x = false ∧ ∃ (s : WSt) (k : Nat), s = PT.iterS (okC C) (waitsL C O) (srtC C) k (PT.St.init (waitsL C O) x) ∧ PT.Inv (okC C) (waitsL C O) (srtC C) x s ∧ s.FR = [] ∧ ((s.missing ≠ [] ∧ parts = [] ∧ missing = s.missing) ∨ (s.missing = [] ∧ parts = s.parts ∧ missing = [])))
theorem Ordered.uniq {C : It → Option CallD} {O : It → Bool} {x : It} {p p' : List (List It)} {m m' : List It} (h : Ordered C O x p m) (h' : Ordered C O x p' m') : p = p' ∧ m = m' := by
  rcases h with ⟨a, rfl, rfl⟩ | ⟨a, b, s, k, hs, _, hF, h⟩
  · rcases h' with ⟨_, rfl, rfl⟩ | ⟨a', b', _⟩
    · exact ⟨rfl, rfl⟩
    · rcases a with a | a
      · rw [a] at a'; cases a'
      · rw [a] at b'; cases b'
  · rcases h' with ⟨a', rfl, rfl⟩ | ⟨a', b', s', k', hs', _, hF', h'⟩
    · rcases a' with a' | a'
      · rw [a'] at a; cases a
      · rw [a'] at b; cases b
    · have e : s = s' := by
        rw [hs] at hF ⊢
        rw [hs'] at hF' ⊢
        exact PT.iterS_uniq hF hF'
      subst e
      rcases h with ⟨h1, rfl, rfl⟩ | ⟨h1, rfl, rfl⟩ <;> rcases h' with ⟨h2, rfl, rfl⟩ | ⟨h2, rfl, rfl⟩
      · exact ⟨rfl, rfl⟩
      · exact absurd h2 h1
      · exact absurd h1 h2
      · exact ⟨rfl, rfl⟩
open Classical in
/-- The answer of Order. -/
noncomputable def orderP (C : It → Option CallD) (O : It → Bool) (x : It) : List (List It) × List It := if h : ∃ q : List (List It) × List It, Ordered C O x q.1 q.2 then h.choose else ([], [])
theorem Ordered.eq {C : It → Option CallD} {O : It → Bool} {x : It} {p : List (List It)} {m : List It} (h : Ordered C O x p m) : orderP C O x = (p, m) := by
  have hex : ∃ q : List (List It) × List It, Ordered C O x q.1 q.2 := ⟨(p, m), h⟩
  unfold orderP
  rw [dif_pos hex]
  obtain ⟨h1, h2⟩ := h.uniq hex.choose_spec
  exact Prod.ext h1.symm h2.symm
/-- Parts in memory, all of them new. -/
def PartsAt (w : World) (base : Nat) (v : Value) (parts : List (List It)) : Prop :=
  ∃ GP : List (Value × List It), parts = GP.map (·.2) ∧ Sl w 39 1 slL v (GP.map (·.1)) ∧ (∀ b, v.ownBlock = some b → base ≤ b) ∧ ∀ g ∈ GP, Sl w 27 2 itL g.1 g.2 ∧ ∀ b, g.1.ownBlock = some b → base ≤ b
theorem PartsAt.nil (w : World) (base : Nat) : PartsAt w base (.slice none 0 0) [] := ⟨[], rfl, Sl.nil, fun _ h => (by cases h), fun _ h => (by cases h)⟩
theorem build88 (bg bi bl bo : Nat) : Try.prog.built 88 [(0, .pointer (some ⟨bg, 0, none⟩)), (1, .map (some bi)), (2, .map (some bl)), (3, .map (some bo))] =
    some #[.pointer (some ⟨bg, 0, none⟩), .map (some bi), .map (some bl), .map (some bo), .slice none 0 0, .slice none 0 0, .slice none 0 0, .slice none 0 0] := by kernel_rfl
set_option maxRecDepth 10000 in
set_option maxHeartbeats 4000000 in
theorem order31 (x : It) (w : World) (RR : Ending → World → Prop) (hG : GraphAt w bg n C O F) (hdep : ∀ y i, i < 7 → depOf (C y) i ≤ 64)
    (hR : ∀ w' vp vm parts missing, Fr w w' → Ordered C O x parts missing → PartsAt w' w.heap.size vp parts → Sl w' 27 2 itL vm missing → (∀ b, vm.ownBlock = some b → w.heap.size ≤ b) → RR (.returned (.tuple #[vp, vm])) w') :
    Calls Try.prog 31 #[.pointer (some ⟨bg, 0, none⟩), itV x] w RR := by
  refine e_enter (n := ⟨47, []⟩) Try.mixed Try.func31 Try.p31 Try.x31 Try.fb31 Try.hx31 Try.ok31 rfl rfl (by simp) ?_; simp only [Try.x31, argEnv, Nat.zero_add, Nat.reduceAdd]
  (refine e_seq fun K1 hK1 => ?_; refine e_region ?_; refine A_box fun b1 w1 hF1 hN1 hB1 => ?_; have hz1 := hF1.size; obtain ⟨hn1, hl1⟩ := hN1; refine A_assign ?_; 
     refine A_assign ?_; refine a_next ?_; refine e_seq fun K1 hK1 => ?_; refine e_seq fun K1 hK1 => ?_; refine e_region ?_; refine A_move ?_; refine A_loadW ?_)
  have ⟨b3, hb3⟩ : ∃ b3, b3 = b1 := ⟨_, rfl⟩
  subst hb3
  (with_reducible apply E_call); rfl; exact Try.en42; rfl; intro RR1 hRR1
  refine is42 x _ _ (hG.fr (by exact fr_)) fun w2 hF2 => ?_
  have hz2 := hF2.size
  refine hRR1 _ _ (by first | assumption | exact trivial) (Nat.le_of_ble_eq_true rfl) ?_; clear hRR1 RR1
  have hB32 : Blk w2 b3 27 (itA x) := by exact blk_
  have hFX : Fr w w2 := by exact fr_
  clear hF1 hB1
  cases hc : (C x).isSome with
  | false =>
    (refine A_not ?_; refine A_move ?_; refine A_pass ?_; refine A_pass ?_; refine A_pass ?_; refine A_pick_t ?_; refine a_next ?_; refine a_true ?_; 
       refine e_seq fun K1 hK1 => ?_; refine e_region ?_; refine A_assign ?_; refine A_assign ?_; refine a_next ?_; refine e_ret_then ?_; refine a_ret2 ?_)
    exact hR _ _ _ [] [] (by exact fr_) (.inl ⟨.inl (by simpa using hc), rfl, rfl⟩) (PartsAt.nil _ _) Sl.nil (fun _ h => by cases h)
  | true =>
    (refine A_not ?_; refine A_move ?_; refine A_want ?_; refine A_move ?_; refine A_want ?_; refine A_loadW ?_; refine A_want ?_)
    (with_reducible apply E_call); rfl; exact Try.en41; rfl; intro RR1 hRR1
    refine over41 x _ _ (hG.fr (by exact fr_)) fun w4 hF4 => ?_
    have hz4 := hF4.size
    refine hRR1 _ _ (by first | assumption | exact trivial) (Nat.le_of_ble_eq_true rfl) ?_; clear hRR1 RR1
    have hFZ : Fr w w4 := by exact fr_
    clear hFX
    have hFY : Fr w2 w4 := by exact fr_
    have hB34 : Blk w4 b3 27 (itA x) := hB32.fr hFY
    clear hB32 hFY hF4
    cases ho : O x with
    | true =>
      (refine A_pick_f ?_; refine a_next ?_; refine a_true ?_; refine e_seq fun K1 hK1 => ?_; refine e_region ?_; refine A_assign ?_; refine A_assign ?_; refine a_next ?_; 
         refine e_ret_then ?_; refine a_ret2 ?_)
      exact hR _ _ _ [] [] (by exact fr_) (.inl ⟨.inr ho, rfl, rfl⟩) (PartsAt.nil _ _) Sl.nil (fun _ h => by cases h)
    | false =>
      (refine A_pick_f ?_; refine a_next ?_; refine a_false ?_; refine a_nextC ?_; refine e_seq fun K1 hK1 => ?_; refine e_region ?_; refine A_move ?_)
      refine E_makeMap itV rfl (Nat.le_of_ble_eq_true rfl) fun bi w5 hF5 hN5 hM5 => ?_
      have hz5 := hF5.size
      obtain ⟨hn5, hl5⟩ := hN5
      refine E_makeMap itV rfl (Nat.le_of_ble_eq_true rfl) fun bl w6 hF6 hN6 hM6 => ?_
      have hz6 := hF6.size
      obtain ⟨hn6, hl6⟩ := hN6
      refine E_makeMap itV rfl (Nat.le_of_ble_eq_true rfl) fun bo w7 hF7 hN7 hM7 => ?_
      have hz7 := hF7.size
      obtain ⟨hn7, hl7⟩ := hN7
      have hbd := build88 bg bi bl bo
      have hF47 : Fr w4 w7 := (hF5.trans hF6).trans hF7
      have hB37 : Blk w7 b3 27 (itA x) := hB34.fr hF47
      have hMi : MapAt itV w7 bi [] := (hM5.fr hF6).fr hF7
      have hMl : MapAt itV w7 bl [] := hM6.fr hF7
      have hF07 : Fr w w7 := hFZ.trans hF47
      have hz07 := hF07.size
      clear hF5 hF6 hF7 hM5 hM6 hF47 hB34 hFZ
      (refine A_build ?_; refine A_box fun b1 w1 hF1 hN1 hB1 => ?_; have hz1 := hF1.size; obtain ⟨hn1, hl1⟩ := hN1; refine A_assign ?_; refine a_next ?_; 
         refine e_seq fun K1 hK1 => ?_; refine e_region ?_; refine A_move ?_; refine A_loadW ?_)
      have ⟨bw, hbw⟩ : ∃ bw, bw = b1 := ⟨_, rfl⟩
      subst hbw
      have hF7w : Fr w7 w1 := by exact fr_
      have hF0w : Fr w w1 := hF07.trans hF7w
      have hbk : Blk w1 bw 88 #[.pointer (some ⟨bg, 0, none⟩), .map (some bi), .map (some bl), .map (some bo), .slice none 0 0, .slice none 0 0, .slice none 0 0, .slice none 0 0] := by exact blk_
      have hW0 : WalkG w w1 bw bg ⟨[], fun _ => 0, [], [], [], []⟩ bi bl bo (.slice none 0 0) (.slice none 0 0) (.slice none 0 0) (.slice none 0 0) [] [] := by
        refine ⟨⟨hbk, hMi.fr hF7w, hMl.fr hF7w, hM7.fr hF7w, Sl.nil, Sl.nil, Sl.nil, Sl.nil, by omega, by omega, by omega, fun g h => by cases h⟩, hF0w, ?_, rfl, rfl, fun _ h => (by cases h), fun _ h => (by cases h)⟩
        rintro g (rfl | rfl | rfl | rfl | e | e | e | e)
        · omega
        · omega
        · omega
        · omega
        · cases e
        · cases e
        · cases e
        · cases e
      have hpush : PT.St.push (waitsL C O) ⟨[], fun _ => 0, [], [], [], []⟩ x = PT.St.init (waitsL C O) x := by
        unfold PT.St.push PT.St.init
        congr 1
        funext y
        show (if y = x then 0 else 0) = 0
        split <;> rfl
      (with_reducible apply E_call); rfl; exact Try.en50; rfl; intro RR1 hRR1
      refine pushW x _ hG hW0 (hdep x) (by simp) (by simp) (by simp) fun w8 hW8 => ?_
      rw [hpush] at hW8
      refine hRR1 _ _ (by first | assumption | exact trivial) (Nat.le_of_ble_eq_true rfl) ?_; clear hRR1 RR1
      clear hF1 hB1 hbk hW0 hF0w hF7w hM7 hMi hMl hB37 hF07 hpush
      (refine a_next ?_; refine e_seq fun K1 hK1 => ?_; refine e_block ?_)
      have hI0 : PT.Inv (okC C) (waitsL C O) (srtC C) x (PT.St.init (waitsL C O) x) := PT.inv_init hc
      refine e_loop Try.mixed Try.p31 Try.lp31bbbbaa Try.hx31bbbbaal Try.ok31bbbbaal (fun _ : WSt => [(4, .slice none 0 0), (5, .slice none 0 0), (6, .pointer (some ⟨bw, 0, none⟩))])
        (fun s W => WalkW w W bw bg s ∧ PT.Inv (okC C) (waitsL C O) (srtC C) x s ∧ ∃ k, s = PT.iterS (okC C) (waitsL C O) (srtC C) k (PT.St.init (waitsL C O) x)) (fun s => s.left 500 448) (PT.St.init (waitsL C O) x) (by exact sub_) ⟨hW8, hI0, 0, rfl⟩ ?_
      rintro s w9 ⟨hW9, hI9, kk, hkk⟩
      have hW9' := hW9
      obtain ⟨bi', bl', bo', vs, vf, vp, vm, GF, GP, hG9⟩ := hW9'
      obtain ⟨pm, cm, rfl⟩ := hG9.m.mi.value
      have hb9 := hG9.m.blk
      obtain ⟨pf, cf, rfl⟩ := hG9.m.fr.value
      have hlen : (GF.reverse.map fun g => (g.1, g.2.1)).length = GF.length := by simp
      rw [hlen] at hb9
      have hg9 := inv_len hG hI9
      have hfl := Nat.le_trans hI9.fl hI9.slen
      have hfg : s.FR.length = GF.length := by rw [hG9.f1]; simp
      simp only [Try.x31bbbbaal]
      by_cases hne : s.FR = []
      · have hg0 : GF.length = 0 := by rw [← hfg, hne]; rfl
        by_cases hmis : s.missing = []
        · have hm0 : s.missing.length = 0 := by rw [hmis]; rfl
          (refine e_seq fun K1 hK1 => ?_; refine e_seq fun K1 hK1 => ?_; refine e_region ?_; refine A_move ?_; refine A_nil ?_; refine A_field ?_; refine A_load ?_; 
             refine A_lenS ?_; refine A_gtr ?_; refine a_next ?_; refine a_false ?_; refine e_exit_then ?_; refine e_exit_then ?_; refine e_exit_here ?_; refine a_norm_then ?_; 
             refine e_seq fun K1 hK1 => ?_; refine e_seq fun K1 hK1 => ?_; refine e_region ?_; refine A_move ?_; refine A_nil ?_; refine A_field ?_; refine A_load ?_; refine A_lenS ?_; 
             refine A_gtr ?_; refine a_next ?_; refine a_false ?_; refine a_nextC ?_; refine e_seq fun K1 hK1 => ?_; refine e_region ?_; refine A_move ?_; refine A_nil ?_; 
             refine A_field ?_; refine A_load ?_; refine A_assign ?_; refine A_assign ?_; refine a_next ?_; refine a_ret2 ?_)
          refine hR _ _ _ s.parts [] hG9.fr (.inr ⟨hc, ho, s, kk, hkk, hI9, hne, .inr ⟨hmis, rfl, rfl⟩⟩) ⟨GP, hG9.p1, hG9.m.pa, fun b hb => hG9.own b (.inr (.inr (.inr (.inr (.inr (.inr (.inl hb))))))), fun g hg => ⟨(hG9.p2 g hg).1, fun b hb => ((hG9.p2 g hg).2 b hb).1⟩⟩ Sl.nil (fun _ h => by cases h)
        · have hm0 : 0 < s.missing.length := List.length_pos_iff.2 hmis
          (refine e_seq fun K1 hK1 => ?_; refine e_seq fun K1 hK1 => ?_; refine e_region ?_; refine A_move ?_; refine A_nil ?_; refine A_field ?_; refine A_load ?_; 
             refine A_lenS ?_; refine A_gtr ?_; refine a_next ?_; refine a_false ?_; refine e_exit_then ?_; refine e_exit_then ?_; refine e_exit_here ?_; refine a_norm_then ?_; 
             refine e_seq fun K1 hK1 => ?_; refine e_seq fun K1 hK1 => ?_; refine e_region ?_; refine A_move ?_; refine A_nil ?_; refine A_field ?_; refine A_load ?_; refine A_lenS ?_; 
             refine A_gtr ?_; refine a_next ?_; refine a_true ?_; refine e_seq fun K1 hK1 => ?_; refine a_drawn fun w1 hF1 => ?_; have hz1 := hF1.size; refine A_move ?_; 
             refine A_nil ?_; refine A_field ?_; refine A_assign ?_; refine A_load ?_; refine A_assign ?_; refine a_next ?_; refine e_ret_then ?_; refine a_ret2 ?_)
          refine hR _ _ _ [] s.missing (hG9.fr.trans (by exact fr_)) (.inr ⟨hc, ho, s, kk, hkk, hI9, hne, .inl ⟨hmis, rfl, rfl⟩⟩) (PartsAt.nil _ _) (hG9.m.mi.fr (by exact fr_)) (fun b hb => hG9.own b (.inr (.inr (.inr (.inr (.inr (.inr (.inr hb))))))))
      · have hgp : 0 < GF.length := by rw [← hfg]; exact List.length_pos_iff.2 hne
        (refine e_seq fun K1 hK1 => ?_; refine e_seq fun K1 hK1 => ?_; refine e_region ?_; refine A_move ?_; refine A_nil ?_; refine A_field ?_; refine A_load ?_; 
           refine A_lenS ?_; refine A_gtr ?_; refine a_next ?_; refine a_true ?_; refine a_nextC ?_; refine e_block ?_; refine e_region ?_; refine A_move ?_)
        (with_reducible apply E_call); rfl; exact Try.en51; rfl; intro RR1 hRR1
        refine step51 _ _ hG hW9 hI9 hdep hne fun w10 hW10 => ?_
        refine hRR1 _ _ (by first | assumption | exact trivial) (Nat.le_of_ble_eq_true rfl) ?_; clear hRR1 RR1
        have hI10 := PT.inv_step (srtC_perm C) hI9
        (refine e_norm_nil ?_; refine e_norm_block ?_)
        exact e_againN _ (PT.left_step (K := 500) (N := 448) (fun y => by have := waitsL_len (C := C) (O := O) (hdep y); omega) hI10 (inv_len hG hI10) hne) ⟨hW10, hI10, kk + 1, by rw [PT.iterS_add, ← hkk]; rfl⟩ rfl (by exact sub_)
end
end Go.Proofs.Ytjocklgihjbaiaa
end
section
/- Runs: what lies in memory; New, Done, Open, Over, Is, the functions that compare items. -/
namespace Go.Proofs.Ytjocklgihjbaiaa
open Go.RowKit
theorem GraphAt.ty2 {w : World} {b : Nat} {n : Int} {C : It → Option CallD} {O : It → Bool} {F : Nat → Prop} (h : GraphAt w b n C O F) {g : Nat} (hg : F g) : ∃ t cs, Blk w g t cs ∧ t ≠ 27 ∧ t ≠ 62 ∧ t ≠ 39 := by
  obtain ⟨bc, bd, R, D, Fc, Fd, rs, hs, rs', hs', h, e1, e2⟩ := h
  rcases (h.foot g).1 hg with rfl | hg | hg
  · exact ⟨_, _, h.blk, by decide, by decide, by decide⟩
  · rcases (h.calls.foot g).1 hg with rfl | ⟨i, hi, hg | hg⟩
    · exact ⟨_, _, h.calls.blk, by decide, by decide, by decide⟩
    · obtain ⟨cur, hb⟩ := Row.blk (h.calls.row i hi) hg
      exact ⟨_, _, hb, by decide, by decide, by decide⟩
    · obtain ⟨cur, hb⟩ := Row.blk (h.calls.has i hi) hg
      exact ⟨_, _, hb, by decide, by decide, by decide⟩
  · rcases (h.done.foot g).1 hg with rfl | ⟨i, hi, hg | hg⟩
    · exact ⟨_, _, h.done.blk, by decide, by decide, by decide⟩
    · obtain ⟨cur, hb⟩ := Row.blk (h.done.row i hi) hg
      exact ⟨_, _, hb, by decide, by decide, by decide⟩
    · obtain ⟨cur, hb⟩ := Row.blk (h.done.has i hi) hg
      exact ⟨_, _, hb, by decide, by decide, by decide⟩
/-! ### Items in their order -/
theorem ltI_iff (x y : It) : lessB x y = true ↔ (x.2 < y.2 ∨ (x.2 = y.2 ∧ x.1 < y.1)) := by
  unfold lessB
  simp only [Bool.or_eq_true, Bool.and_eq_true, decide_eq_true_eq]
theorem ltI_false (x y : It) : lessB x y = false ↔ ¬ (x.2 < y.2 ∨ (x.2 = y.2 ∧ x.1 < y.1)) := by rw [← ltI_iff]; simp
theorem swoI : Sort.SWO lessB where
  irrefl := fun x => by rw [ltI_false]; omega
  trans := fun x y z h1 h2 => by rw [ltI_iff] at *; omega
  ntrans := fun x y z h1 h2 => by rw [ltI_false] at *; omega
theorem antiI (x y : It) (h1 : lessB x y = false) (h2 : lessB y x = false) : x = y := by
  rw [ltI_false] at h1 h2
  exact Prod.ext (by omega) (by omega)
def srtI (l : List It) : List It := l.mergeSort (fun x y => !lessB y x)
theorem srtI_perm (l : List It) : (srtI l).Perm l := List.mergeSort_perm _ _
theorem srtI_sorted (l : List It) (hn : l.Nodup) : (srtI l).Pairwise fun x y => lessB x y = true := by
  have h1 : (srtI l).Pairwise fun x y => (!lessB y x) = true := by
    refine List.pairwise_mergeSort ?_ ?_ l
    · intro a b c h1 h2
      simp only [Bool.not_eq_true'] at *
      exact swoI.ntrans _ _ _ h2 h1
    · intro a b
      cases h : lessB b a with
      | false => simp
      | true =>
        have : lessB a b = false := by rw [ltI_iff] at h; rw [ltI_false]; omega
        simp [this]
  have h2 : (srtI l).Pairwise fun x y => x ≠ y := (srtI_perm l).nodup_iff.2 hn
  exact (h1.and h2).imp fun {x y} ⟨ha, hb⟩ => by
    simp only [Bool.not_eq_true'] at ha
    cases h : lessB x y with
    | true => rfl
    | false => exact absurd (antiI x y h ha) hb
theorem srtI_of (d d' : Array It) (h1 : d'.toList.Perm d.toList) (h2 : Sort.SortedIn lessB 0 d.size d') : d'.toList = srtI d.toList := by
  have hs : d'.size = d.size := by have := h1.length_eq; simpa using this
  refine Sort.sorted_unique_holds swoI antiI d d' ⟨hs, ?_, ?_⟩ h2
  · intro i hi
    have : d.size ≤ i := by omega
    rw [getElem!_neg d' i (by omega), getElem!_neg d i (by omega)]
  · have e1 : d'.extract 0 d.size = d' := by rw [← hs]; simp
    have e2 : d.extract 0 d.size = d := by simp
    rwa [e1, e2]
def cmp28 (x y : It) : Int := if lessB x y = true then -1 else if x = y then 0 else 1
def cmp33 (x y : It) : Int := if lessB x y = true then -1 else 1
theorem lt28 : ltC cmp28 = lessB := by
  funext x y
  unfold ltC cmp28
  cases h : lessB x y
  · by_cases h' : x = y <;> simp [h']
  · simp
theorem lt33 : ltC cmp33 = lessB := by
  funext x y
  unfold ltC cmp33
  cases h : lessB x y <;> simp
theorem less28 (x y : It) (w : World) (RR : Ending → World → Prop) (hR : ∀ w', Fr w w' → RR (.returned (.int .i64 (cmp28 x y))) w') : Calls Try.prog 28 #[itV x, itV y] w RR := by
  refine e_enter (n := ⟨13, []⟩) Try.mixed Try.func28 Try.p28 Try.x28 Try.fb28 Try.hx28 Try.ok28 rfl rfl (by simp) ?_; simp only [Try.x28, argEnv, Nat.zero_add, Nat.reduceAdd]
  (refine e_seq fun K1 hK1 => ?_; refine e_region ?_; refine A_box fun b1 w1 hF1 hN1 hB1 => ?_; have hz1 := hF1.size; obtain ⟨hn1, hl1⟩ := hN1; 
     refine A_box fun b1 w1 hF1 hN1 hB1 => ?_; have hz1 := hF1.size; obtain ⟨hn1, hl1⟩ := hN1; refine A_assign ?_; refine a_next ?_; refine e_seq fun K1 hK1 => ?_; 
     refine e_block ?_; refine e_seq fun K1 hK1 => ?_; refine e_region ?_; refine A_loadW ?_; refine A_loadW ?_)
  rename_i b2 w2 hF2 hB2 hz2 hn2 hl2
  (with_reducible apply E_call); rfl; exact Try.en29; rfl; intro RR1 hRR1
  refine less29 x y _ _ fun w8 hF8 => ?_
  have hz8 := hF8.size
  refine hRR1 _ _ (by first | assumption | exact trivial) (Nat.le_of_ble_eq_true rfl) ?_; clear hRR1 RR1
  unfold cmp28 at hR
  cases hle : lessB x y with
  | true =>
    rw [if_pos hle] at hR
    (refine A_assign ?_; refine a_next ?_; refine a_true ?_; refine e_seq fun K1 hK1 => ?_; refine e_region ?_; refine A_assign ?_; refine a_next ?_; refine e_ret_block ?_; 
       refine e_ret_then ?_; refine a_ret1 ?_)
    exact hR _ (by exact fr_)
  | false =>
    rw [if_neg (by rw [hle]; simp)] at hR
    by_cases hxy : x = y
    · rw [if_pos hxy] at hR
      (refine A_assign ?_; refine a_next ?_; refine a_false ?_; refine e_seq fun K1 hK1 => ?_; refine e_region ?_; refine A_loadW ?_; refine A_loadW ?_; refine A_eqK keyIt ?_; 
         refine A_assign ?_; refine a_next ?_; refine a_true ?_; refine e_seq fun K1 hK1 => ?_; refine e_region ?_; refine A_assign ?_; refine a_next ?_; refine e_ret_block ?_; 
         refine e_ret_then ?_; refine a_ret1 ?_)
      exact hR _ (by exact fr_)
    · rw [if_neg hxy] at hR
      (refine A_assign ?_; refine a_next ?_; refine a_false ?_; refine e_seq fun K1 hK1 => ?_; refine e_region ?_; refine A_loadW ?_; refine A_loadW ?_; refine A_eqK keyIt ?_; 
         refine A_assign ?_; refine a_next ?_; refine a_false ?_; refine e_norm_skip ?_; refine e_norm_block ?_; refine a_norm_then ?_; refine e_seq fun K1 hK1 => ?_; 
         refine e_region ?_; refine A_assign ?_; refine a_next ?_; refine a_ret1 ?_)
      exact hR _ (by exact fr_)
theorem less33 (x y : It) (w : World) (RR : Ending → World → Prop) (hR : ∀ w', Fr w w' → RR (.returned (.int .i64 (cmp33 x y))) w') : Calls Try.prog 33 #[itV x, itV y] w RR := by
  refine e_enter (n := ⟨8, []⟩) Try.mixed Try.func33 Try.p33 Try.x33 Try.fb33 Try.hx33 Try.ok33 rfl rfl (by simp) ?_; simp only [Try.x33, argEnv, Nat.zero_add, Nat.reduceAdd]
  (refine e_seq fun K1 hK1 => ?_; refine e_region ?_; refine A_box fun b1 w1 hF1 hN1 hB1 => ?_; have hz1 := hF1.size; obtain ⟨hn1, hl1⟩ := hN1; 
     refine A_box fun b1 w1 hF1 hN1 hB1 => ?_; have hz1 := hF1.size; obtain ⟨hn1, hl1⟩ := hN1; refine A_assign ?_; refine a_next ?_; refine e_seq fun K1 hK1 => ?_; 
     refine e_seq fun K1 hK1 => ?_; refine e_region ?_; refine A_loadW ?_; refine A_loadW ?_)
  rename_i b2 w2 hF2 hB2 hz2 hn2 hl2
  (with_reducible apply E_call); rfl; exact Try.en29; rfl; intro RR1 hRR1
  refine less29 x y _ _ fun w8 hF8 => ?_
  have hz8 := hF8.size
  refine hRR1 _ _ (by first | assumption | exact trivial) (Nat.le_of_ble_eq_true rfl) ?_; clear hRR1 RR1
  unfold cmp33 at hR
  cases hle : lessB x y with
  | true =>
    rw [if_pos hle] at hR
    (refine a_next ?_; refine a_true ?_; refine e_seq fun K1 hK1 => ?_; refine e_region ?_; refine A_assign ?_; refine a_next ?_; refine e_ret_then ?_; refine a_ret1 ?_)
    exact hR _ (by exact fr_)
  | false =>
    rw [if_neg (by rw [hle]; simp)] at hR
    (refine a_next ?_; refine a_false ?_; refine a_nextC ?_; refine e_seq fun K1 hK1 => ?_; refine e_region ?_; refine A_assign ?_; refine a_next ?_; refine a_ret1 ?_)
    exact hR _ (by exact fr_)
theorem cmpV28 (g : Nat) : CmpV Try.prog 28 #[] #[] cmp28 g (fun _ => True) where
  en := Try.en28
  call := fun x y w RR _ hR => by
    have := less28 x y w RR hR
    simpa using this
  keep := fun _ _ _ _ => trivial
theorem cmpV33 (g : Nat) : CmpV Try.prog 33 #[] #[] cmp33 g (fun _ => True) where
  en := Try.en33
  call := fun x y w RR _ hR => by
    have := less33 x y w RR hR
    simpa using this
  keep := fun _ _ _ _ => trivial
/-! ### A run in memory -/
structure RunM (w : World) (br bg : Nat) (vd vo : Value) (n : Int) (C : It → Option CallD) (O : It → Bool) (F : Nat → Prop) (done opn : List It) (S : Nat → Prop) : Prop where
  blk : Blk w br 62 #[.pointer (some ⟨bg, 0, none⟩), vd, vo]
  g : GraphAt w bg n C O F
  sd : Sl w 27 2 itL vd done
  so : Sl w 27 2 itL vo opn
  ne : ∀ k, vd.ownBlock = some k → vo.ownBlock ≠ some k
  foot : ∀ k, S k ↔ (k = br ∨ F k ∨ vd.ownBlock = some k ∨ vo.ownBlock = some k)
def RunAt (w : World) (br : Nat) (n : Int) (C : It → Option CallD) (O : It → Bool) (done opn : List It) (S : Nat → Prop) : Prop := ∃ bg vd vo F, RunM w br bg vd vo n C O F done opn S
section
variable {w w' : World} {br bg : Nat} {vd vo : Value} {n : Int} {C : It → Option CallD} {O : It → Bool} {F : Nat → Prop} {done opn : List It} {S : Nat → Prop}
theorem RunM.ch {T : Nat → Prop} (h : RunM w br bg vd vo n C O F done opn S) (hc : Ch T w w') (hn : ∀ g, S g → ¬ T g) : RunM w' br bg vd vo n C O F done opn S :=
  ⟨h.blk.ch hc (hn _ ((h.foot _).2 (.inl rfl))), h.g.ch hc fun g hg => hn g ((h.foot g).2 (.inr (.inl hg))), h.sd.ch hc fun g hg => hn g ((h.foot g).2 (.inr (.inr (.inl hg)))), h.so.ch hc fun g hg => hn g ((h.foot g).2 (.inr (.inr (.inr hg)))), h.ne, h.foot⟩
theorem RunM.fr (h : RunM w br bg vd vo n C O F done opn S) (hF : Fr w w') : RunM w' br bg vd vo n C O F done opn S := h.ch (hF.ch fun _ => False) fun _ _ h => h
theorem RunAt.ch {T : Nat → Prop} (h : RunAt w br n C O done opn S) (hc : Ch T w w') (hn : ∀ g, S g → ¬ T g) : RunAt w' br n C O done opn S := by
  obtain ⟨bg, vd, vo, F, h⟩ := h
  exact ⟨bg, vd, vo, F, h.ch hc hn⟩
theorem RunAt.fr (h : RunAt w br n C O done opn S) (hF : Fr w w') : RunAt w' br n C O done opn S := h.ch (hF.ch fun _ => False) fun _ _ h => h
theorem RunM.lt (h : RunM w br bg vd vo n C O F done opn S) {k : Nat} (hk : S k) : k < w.heap.size := by
  rcases (h.foot k).1 hk with rfl | h1 | h1 | h1
  · exact h.blk.lt
  · exact h.g.lt h1
  · exact h.sd.lt h1
  · exact h.so.lt h1
theorem RunAt.lt (h : RunAt w br n C O done opn S) {k : Nat} (hk : S k) : k < w.heap.size := by
  obtain ⟨bg, vd, vo, F, h⟩ := h
  exact h.lt hk
theorem RunM.fbr (h : RunM w br bg vd vo n C O F done opn S) : ¬ F br := fun hf => by
  obtain ⟨t, cs, hb, _, n2, _⟩ := h.g.ty2 hf
  exact n2 (hb.inj h.blk).1
theorem RunM.fvd (h : RunM w br bg vd vo n C O F done opn S) {k : Nat} (hk : vd.ownBlock = some k) : ¬ F k := fun hf => by
  obtain ⟨t, cs, hb, n1, _⟩ := h.g.ty2 hf
  exact Row.ne_ty h.sd hb (Ne.symm n1) hk
theorem RunM.fvo (h : RunM w br bg vd vo n C O F done opn S) {k : Nat} (hk : vo.ownBlock = some k) : ¬ F k := fun hf => by
  obtain ⟨t, cs, hb, n1, _⟩ := h.g.ty2 hf
  exact Row.ne_ty h.so hb (Ne.symm n1) hk
theorem RunAt.good (h : RunAt w br n C O done opn S) {x : It} (hx : C x ≠ none) : goodB x.1 x.2 n = true := by
  obtain ⟨bg, vd, vo, F, h⟩ := h
  exact h.g.good hx
variable (w) (RR : Ending → World → Prop)
theorem build62 (b : Nat) : Try.prog.built 62 [(0, .pointer (some ⟨b, 0, none⟩))] = some #[.pointer (some ⟨b, 0, none⟩), .slice none 0 0, .slice none 0 0] := by kernel_rfl
theorem new8 (k : Int) (hR : ∀ b w' S, Fr w w' → RunAt w' b (min (max k 0) 7) (fun _ => none) (fun _ => false) [] [] S → (∀ g, S g → w.heap.size ≤ g) → RR (.returned (.pointer (some ⟨b, 0, none⟩))) w') : Calls Try.prog 8 #[.int .i64 k] w RR := by
  refine e_enter (n := ⟨7, []⟩) Try.mixed Try.func8 Try.p8 Try.x8 Try.fb8 Try.hx8 Try.ok8 rfl rfl (by simp) ?_; simp only [Try.x8, argEnv, Nat.zero_add, Nat.reduceAdd]
  (refine e_seq fun K1 hK1 => ?_; refine e_region ?_; refine A_assign ?_; refine a_next ?_; refine e_seq fun K1 hK1 => ?_; refine e_region ?_; refine A_move ?_)
  (with_reducible apply E_call); rfl; exact Try.en25; rfl; intro RR1 hRR1
  refine new25 _ _ _ fun bg w2 F hF2 hG hS => ?_
  have hz2 := hF2.size
  refine hRR1 _ _ (by first | assumption | exact trivial) (Nat.le_of_ble_eq_true rfl) ?_; clear hRR1 RR1
  have hbd := build62 bg
  (refine A_build ?_; refine A_box fun b1 w1 hF1 hN1 hB1 => ?_; have hz1 := hF1.size; obtain ⟨hn1, hl1⟩ := hN1; refine A_assign ?_; refine a_next ?_; refine a_ret1 ?_)
  refine hR _ _ (fun g => g = b1 ∨ F g) (by exact fr_) ⟨bg, _, _, F, hB1, hG.fr (by exact fr_), Sl.nil, Sl.nil, fun k hk => (by cases hk), fun k => ?_⟩ ?_
  · constructor
    · rintro (e | e)
      · exact .inl e
      · exact .inr (.inl e)
    · rintro (e | e | e | e)
      · exact .inl e
      · exact .inr e
      · cases e
      · cases e
  · rintro g (rfl | e)
    · omega
    · exact hS g e
theorem done11 (h : RunAt w br n C O done opn S) (hl : done.length ≤ 1000000) (hR : ∀ v' w', Fr w w' → Sl w' 27 2 itL v' done → (∀ g, v'.ownBlock = some g → w.heap.size ≤ g) → RR (.returned v') w') : Calls Try.prog 11 #[.pointer (some ⟨br, 0, none⟩)] w RR := by
  obtain ⟨bg, vd, vo, F, h⟩ := h
  have hb := h.blk
  refine e_enter (n := ⟨10, []⟩) Try.mixed Try.func11 Try.p11 Try.x11 Try.fb11 Try.hx11 Try.ok11 rfl rfl (by simp) ?_; simp only [Try.x11, argEnv, Nat.zero_add, Nat.reduceAdd]
  (refine e_seq fun K1 hK1 => ?_; refine e_region ?_; refine A_assign ?_; refine a_next ?_; refine e_seq fun K1 hK1 => ?_; refine e_seq fun K1 hK1 => ?_; refine e_region ?_; 
     refine A_move ?_; refine A_eqlnil ?_; refine a_next ?_; refine a_false ?_; refine a_nextC ?_; refine e_seq fun K1 hK1 => ?_; refine e_region ?_; refine A_move ?_; 
     refine A_nil ?_; refine A_field ?_; refine A_load ?_)
  (with_reducible apply E_call); rfl; exact Try.en30; rfl; intro RR1 hRR1
  refine clone30 vd done _ _ h.sd.rd hl fun v' w2 hF2 hv hvo => ?_
  refine hRR1 _ _ (by first | assumption | exact trivial) (Nat.le_of_ble_eq_true rfl) ?_; clear hRR1 RR1
  (refine A_assign ?_; refine a_next ?_; refine a_ret1 ?_)
  exact hR v' w2 hF2 hv hvo
theorem open14 (h : RunAt w br n C O done opn S) (hl : opn.length ≤ 1000000) (hR : ∀ v' w', Fr w w' → Sl w' 27 2 itL v' opn → (∀ g, v'.ownBlock = some g → w.heap.size ≤ g) → RR (.returned v') w') : Calls Try.prog 14 #[.pointer (some ⟨br, 0, none⟩)] w RR := by
  obtain ⟨bg, vd, vo, F, h⟩ := h
  have hb := h.blk
  refine e_enter (n := ⟨10, []⟩) Try.mixed Try.func14 Try.p14 Try.x14 Try.fb14 Try.hx14 Try.ok14 rfl rfl (by simp) ?_; simp only [Try.x14, argEnv, Nat.zero_add, Nat.reduceAdd]
  (refine e_seq fun K1 hK1 => ?_; refine e_region ?_; refine A_assign ?_; refine a_next ?_; refine e_seq fun K1 hK1 => ?_; refine e_seq fun K1 hK1 => ?_; refine e_region ?_; 
     refine A_move ?_; refine A_eqlnil ?_; refine a_next ?_; refine a_false ?_; refine a_nextC ?_; refine e_seq fun K1 hK1 => ?_; refine e_region ?_; refine A_move ?_; 
     refine A_nil ?_; refine A_field ?_; refine A_load ?_)
  (with_reducible apply E_call); rfl; exact Try.en30; rfl; intro RR1 hRR1
  refine clone30 vo opn _ _ h.so.rd hl fun v' w2 hF2 hv hvo => ?_
  refine hRR1 _ _ (by first | assumption | exact trivial) (Nat.le_of_ble_eq_true rfl) ?_; clear hRR1 RR1
  (refine A_assign ?_; refine a_next ?_; refine a_ret1 ?_)
  exact hR v' w2 hF2 hv hvo
theorem over22 (x : It) (h : RunAt w br n C O done opn S) (hR : ∀ w', Fr w w' → RR (.returned (.bool (O x))) w') : Calls Try.prog 22 #[.pointer (some ⟨br, 0, none⟩), itV x] w RR := by
  obtain ⟨bg, vd, vo, F, h⟩ := h
  have hb := h.blk
  refine e_enter (n := ⟨15, []⟩) Try.mixed Try.func22 Try.p22 Try.x22 Try.fb22 Try.hx22 Try.ok22 rfl rfl (by simp) ?_; simp only [Try.x22, argEnv, Nat.zero_add, Nat.reduceAdd]
  (refine e_seq fun K1 hK1 => ?_; refine e_region ?_; refine A_box fun b1 w1 hF1 hN1 hB1 => ?_; have hz1 := hF1.size; obtain ⟨hn1, hl1⟩ := hN1; refine A_assign ?_; 
     refine a_next ?_; refine e_seq fun K1 hK1 => ?_; refine a_drawn fun w1 hF1 => ?_; have hz1 := hF1.size; refine A_move ?_; refine A_neqnil ?_; refine A_move ?_; 
     refine A_want ?_; refine A_move ?_; refine A_want ?_; refine A_nil ?_; refine A_want ?_; refine A_field ?_; refine A_want ?_; refine A_load ?_; refine A_want ?_; 
     refine A_loadW ?_; refine A_want ?_)
  (with_reducible apply E_call); rfl; exact Try.en41; rfl; intro RR1 hRR1
  refine over41 x _ _ (h.g.fr (by exact fr_)) fun w2 hF2 => ?_
  have hz2 := hF2.size
  refine hRR1 _ _ (by first | assumption | exact trivial) (Nat.le_of_ble_eq_true rfl) ?_; clear hRR1 RR1
  (refine A_pick_t ?_; refine A_assign ?_; refine a_next ?_; refine a_ret1 ?_)
  exact hR _ (by exact fr_)
end
end Go.Proofs.Ytjocklgihjbaiaa
end
section
/- Set. -/
namespace Go.Proofs.Ytjocklgihjbaiaa
open Go.RowKit
set_option maxRecDepth 10000 in
set_option maxHeartbeats 1000000 in
theorem set47_ok (r m : Int) (c : CallD) (n : Int) (b : Nat) (w : World) (RR : Ending → World → Prop) {R : Nat → List (Option CallD)} {F : Nat → Prop} {rs hs : Nat → Value} (h : CallRows w b n R F rs hs) (hg : goodB r m n = true)
    (hR : ∀ w' F' rs' hs', CallRows w' b n (setR R (r, m) c) F' rs' hs' → (∀ g, F' g → F g ∨ w.heap.size ≤ g) → Ch F w w' → RR (.returned (.bool true)) w') :
    Calls Try.prog 47 #[.pointer (some ⟨b, 0, none⟩), .agg #[.int .i64 r, .int .i64 m], .agg (callA c)] w RR := by
  obtain ⟨g1, g2, g3, g4⟩ := goodB_true hg
  have h7 := h.reps.2
  have hr7 : r.toNat < 7 := by omega
  have hn : w.cell? ⟨b, 0, none⟩ = some (.int .i64 n) := h.blk.cell rfl
  refine e_enter (n := ⟨84, []⟩) Try.mixed Try.func47 Try.p47 Try.x47 Try.fb47 Try.hx47 Try.ok47 rfl rfl (by simp) ?_; simp only [Try.x47, argEnv, Nat.zero_add, Nat.reduceAdd]
  (refine e_seq fun K1 hK1 => ?_; refine e_region ?_; refine A_box fun b1 w1 hF1 hN1 hB1 => ?_; have hz1 := hF1.size; obtain ⟨hn1, hl1⟩ := hN1; 
     refine A_box fun b1 w1 hF1 hN1 hB1 => ?_; have hz1 := hF1.size; obtain ⟨hn1, hl1⟩ := hN1; refine A_assign ?_; refine a_next ?_; refine e_seq fun K1 hK1 => ?_; 
     refine e_seq fun K1 hK1 => ?_; refine a_drawn fun w1 hF1 => ?_; have hz1 := hF1.size; refine A_move ?_; refine A_eqlnil ?_; refine A_move ?_; refine A_want ?_; 
     refine A_move ?_; refine A_want ?_; refine A_nil ?_; refine A_want ?_; refine A_field ?_; refine A_want ?_; refine A_loadW ?_; refine A_want ?_; refine A_load ?_; 
     refine A_want ?_)
  (with_reducible apply E_call); rfl; exact Try.en57; rfl; intro RR1 hRR1
  refine good57 _ _ _ _ _ fun w2 hF2 => ?_
  have hz2 := hF2.size
  refine hRR1 _ _ (by first | assumption | exact trivial) (Nat.le_of_ble_eq_true rfl) ?_; clear hRR1 RR1
  rw [hg]
  (refine A_want ?_; refine A_not ?_; refine A_pick_f ?_; refine a_next ?_; refine a_false ?_; refine a_nextC ?_; refine e_seq fun K1 hK1 => ?_; refine e_block ?_)
  rename_i K2 hK2 b4 w4 hF4 hB4 hz4 hn4 hl4 w5 hF5 hz5 K3 hK3 K4 hK4
  have hB4' : Blk w2 b4 27 #[.int .i64 r, .int .i64 m] := by exact blk_
  have hB5' : Blk w2 b1 33 (callA c) := by exact blk_
  have hFw : Fr w w2 := by exact fr_
  refine e_loop Try.mixed Try.p47 Try.lp47bbaa Try.hx47bbaal Try.ok47bbaal (fun _ : Nat => [(0, .pointer (some ⟨b, 0, none⟩)), (4, .pointer (some ⟨b4, 0, none⟩)), (5, .pointer (some ⟨b1, 0, none⟩))])
    (fun k w' => ∃ F' rs' hs', CallRows w' b n (upd R r.toNat (R r.toNat ++ List.replicate k none)) F' rs' hs' ∧ (∀ g, F' g → F g ∨ w.heap.size ≤ g) ∧ Ch F w w' ∧ Blk w' b4 27 #[.int .i64 r, .int .i64 m] ∧ Blk w' b1 33 (callA c) ∧
      ¬ F' b4 ∧ ¬ F' b1 ∧ (k = 0 ∨ (R r.toNat).length + k ≤ m.toNat)) (fun k => m.toNat - ((R r.toNat).length + k)) 0 (by exact sub_)
    ⟨F, rs, hs, by rw [List.replicate_zero, List.append_nil, upd_self]; exact h.fr hFw, fun g hg => .inl hg, hFw.ch F, hB4', hB5', (fun hf => by have := h.lt hf; omega), (fun hf => by have := h.lt hf; omega), .inl rfl⟩ ?_
  rintro k w3 ⟨F', rs', hs', h3, hF', hCh, hB43, hB53, hf4, hf5, hk⟩
  have hrow := h3.row _ hr7
  have hhas := h3.has _ hr7
  have hshort := h3.short _ hr7
  rw [upd_same] at hrow hhas hshort
  obtain ⟨L, hL⟩ : ∃ L, L = (R r.toNat ++ List.replicate k none).length := ⟨_, rfl⟩
  have hL' : L = (R r.toNat).length + k := by rw [hL]; simp
  have hrowS := hrow
  have hhasS := hhas
  unfold Sl at hrow hhas
  rw [← hL] at hrow hhas hshort
  obtain ⟨cs, hcs⟩ : ∃ cs, cs = cellsOf callL (R r.toNat ++ List.replicate k none) := ⟨_, rfl⟩
  obtain ⟨cs', hcs'⟩ : ∃ cs, cs = cellsOf hasL (R r.toNat ++ List.replicate k none) := ⟨_, rfl⟩
  rw [← hcs] at hrow
  rw [← hcs'] at hhas
  obtain ⟨p, cap, hv⟩ := hrow.value
  obtain ⟨p', cap', hv'⟩ := hhas.value
  have hcr := h3.blk.cell (rowsA_r n rs' hs' r.toNat hr7)
  have hch := h3.blk.cell (rowsA_h n rs' hs' r.toNat hr7)
  have hrb := h3.rb _ hr7
  have hhb := h3.hb _ hr7
  have hrh := h3.rh r.toNat r.toNat
  have hr4 : (rs' r.toNat).ownBlock ≠ some b4 := fun hg => hf4 ((h3.foot _).2 (.inr ⟨_, hr7, .inl hg⟩))
  have hh4 : (hs' r.toNat).ownBlock ≠ some b4 := fun hg => hf4 ((h3.foot _).2 (.inr ⟨_, hr7, .inr hg⟩))
  have hb4 : b4 ≠ b := fun e => hf4 ((h3.foot _).2 (.inl e))
  have hlr : ∀ g, (rs' r.toNat).ownBlock = some g → g < w3.heap.size := fun g hg => hrow.lt hg
  have hlh : ∀ g, (hs' r.toNat).ownBlock = some g → g < w3.heap.size := fun g hg => hhas.lt hg
  have hcx : w3.cell? ⟨b4, 0, none⟩ = some (.int .i64 r) := hB43.cell rfl
  have hcy : w3.cell? ⟨b4, 1, none⟩ = some (.int .i64 m) := hB43.cell rfl
  have hb3 := h3.blk.lt
  have hblk3 := h3.blk
  have fin : ∀ w' v' v'', (L : Int) < m → Blk w' b 99 (((rowsA n rs' hs').setIfInBounds (1 + r.toNat) v').setIfInBounds (8 + r.toNat) v'') → Row w' 33 14 v' (L + 1) (cs ++ Try.z33.toList) → Row w' 4 1 v'' (L + 1) (cs' ++ [.bool false]) →
      Ch (fun g => g = b ∨ (rs' r.toNat).ownBlock = some g ∨ (hs' r.toNat).ownBlock = some g) w3 w' → (∀ g, v'.ownBlock = some g → (rs' r.toNat).ownBlock = some g ∨ w3.heap.size ≤ g) →
      (∀ g, v''.ownBlock = some g → (hs' r.toNat).ownBlock = some g ∨ w3.heap.size ≤ g) → (∀ g, v'.ownBlock = some g → v''.ownBlock ≠ some g) →
      ∃ F' rs' hs', CallRows w' b n (upd R r.toNat (R r.toNat ++ List.replicate (k + 1) none)) F' rs' hs' ∧ (∀ g, F' g → F g ∨ w.heap.size ≤ g) ∧ Ch F w w' ∧ Blk w' b4 27 #[.int .i64 r, .int .i64 m] ∧ Blk w' b1 33 (callA c) ∧
        ¬ F' b4 ∧ ¬ F' b1 ∧ (k + 1 = 0 ∨ (R r.toNat).length + (k + 1) ≤ m.toNat) := by
    intro w' v' v'' hlt hblk hro hha hcc ho1 ho2 ho12
    rw [rowsA_upd1 n rs' hs' _ hr7, rowsA_upd2 n _ hs' _ hr7] at hblk
    have hz := hCh.size
    have e : (R r.toNat ++ List.replicate (k + 1) none).length = L + 1 := by simp [hL']; omega
    obtain ⟨F'', a1, a2, a3⟩ := h3.turn hr7 (l := R r.toNat ++ List.replicate (k + 1) none) (by rw [e]; omega) hblk
      (by unfold Sl; rw [e, List.replicate_succ', ← List.append_assoc, cellsOf_append, ← hcs]; exact hro) (by unfold Sl; rw [e, List.replicate_succ', ← List.append_assoc, cellsOf_append, ← hcs']; exact hha) hcc ho1 ho2 ho12
    rw [upd_upd] at a1
    exact ⟨F'', _, _, a1, fun g hg => (a2 g hg).elim (hF' g) (fun h => .inr (by omega)), hCh.more a3 (fun i hi hg => (hF' i hg).resolve_right (by omega)), hB43.ch a3 hf4, hB53.ch a3 hf5,
      fun hg => (a2 _ hg).elim hf4 (fun h => by have := hB43.lt; omega), fun hg => (a2 _ hg).elim hf5 (fun h => by have := hB53.lt; omega), .inr (by omega)⟩
  clear hcs hcs'
  simp only [Try.x47bbaal]
  rw [hv] at hrow hcr hrb hr4 hlr hrh fin
  rw [hv'] at hhas hch hhb hh4 hlh hrh fin
  have hrh' := fun g => hrh g hr7 hr7
  have tail : ∀ X w8 Y w9 w10 w11 p8 c8 p9 c9, (L : Int) < m → Fr w3 X → Ch (fun g => (Value.slice p L cap).ownBlock = some g) X w8 → Row w8 33 14 (.slice p8 (L + 1) c8) (L + 1) (cs ++ Try.z33.toList) →
      (∀ g, (Value.slice p8 (L + 1) c8).ownBlock = some g → (Value.slice p L cap).ownBlock = some g ∨ X.heap.size ≤ g) → Fr w8 Y → Ch (fun g => (Value.slice p' L cap').ownBlock = some g) Y w9 →
      Row w9 4 1 (.slice p9 (L + 1) c9) (L + 1) (cs' ++ [.bool false]) → (∀ g, (Value.slice p9 (L + 1) c9).ownBlock = some g → (Value.slice p' L cap').ownBlock = some g ∨ Y.heap.size ≤ g) → Upd b w9 w10 → Upd b w10 w11 →
      Blk w11 b 99 (((rowsA n rs' hs').setIfInBounds (1 + r.toNat) (.slice p8 (L + 1) c8)).setIfInBounds (8 + r.toNat) (.slice p9 (L + 1) c9)) →
      ∃ F' rs' hs', CallRows w11 b n (upd R r.toNat (R r.toNat ++ List.replicate (k + 1) none)) F' rs' hs' ∧ (∀ g, F' g → F g ∨ w.heap.size ≤ g) ∧ Ch F w w11 ∧ Blk w11 b4 27 #[.int .i64 r, .int .i64 m] ∧ Blk w11 b1 33 (callA c) ∧
        ¬ F' b4 ∧ ¬ F' b1 ∧ (k + 1 = 0 ∨ (R r.toNat).length + (k + 1) ≤ m.toNat) := by
    intro X w8 Y w9 w10 w11 p8 c8 p9 c9 hlt hFX hC8 hR8 hO8 hFY hC9 hR9 hO9 hU10 hU11 hB11
    have z1 := hFX.size
    have z2 := hC8.size
    have z3 := hFY.size
    have hl8 : ∀ g, (Value.slice p8 (L + 1) c8).ownBlock = some g → g < w8.heap.size := fun g hg => hR8.lt hg
    have n8 : ∀ g, (Value.slice p8 (L + 1) c8).ownBlock = some g → (Value.slice p' L cap').ownBlock ≠ some g := fun g hg hg' => (hO8 g hg).elim (fun h => hrh' g h hg') (fun h => by have := hlh g hg'; omega)
    have nb8 : (Value.slice p8 (L + 1) c8).ownBlock ≠ some b := fun hg => (hO8 b hg).elim hrb (fun h => by omega)
    have nb9 : (Value.slice p9 (L + 1) c9).ownBlock ≠ some b := fun hg => (hO9 b hg).elim hhb (fun h => by omega)
    refine fin w11 _ _ hlt hB11 (((((hR8.fr hFY).ch hC9 fun g hg => n8 g hg).ch hU10.ch fun g hg e => nb8 (e ▸ hg))).ch hU11.ch fun g hg e => nb8 (e ▸ hg)) ((hR9.ch hU10.ch fun g hg e => nb9 (e ▸ hg)).ch hU11.ch fun g hg e => nb9 (e ▸ hg))
      (((((hFX.ch _).trans (hC8.mono fun _ _ h => .inr (.inl h))).trans (hFY.ch _)).trans (hC9.mono fun _ _ h => .inr (.inr h))).trans ((hU10.ch.mono fun _ _ h => .inl h).trans (hU11.ch.mono fun _ _ h => .inl h)))
      (fun g hg => (hO8 g hg).imp id (fun h => by omega)) (fun g hg => (hO9 g hg).imp id (fun h => by omega)) (fun g hg hg' => ?_)
    rcases hO9 g hg' with h | h
    · exact n8 g hg h
    · have := hl8 g hg; omega
  by_cases hlt : (L : Int) < m
  · (refine e_seq fun K1 hK1 => ?_; refine e_seq fun K1 hK1 => ?_)
    ((with_reducible apply e_drawn); (focus (intro _ _ _ d1 _ h1; cases d1 <;> exact h1)); intro w1 hF1; have hz1 := hF1.size)
    (refine A_move ?_; refine A_field ?_; refine A_nil ?_; refine A_field ?_; refine A_field ?_; refine A_load ?_; refine A_idxA ?_; refine A_load ?_; refine A_lenS ?_; 
       refine A_load ?_; refine A_lss ?_; refine a_next ?_; refine a_true ?_; refine a_nextC ?_; refine e_block ?_; refine e_seq fun K1 hK1 => ?_; refine e_region ?_; 
       refine A_alloc fun b1 w1 hF1 hN1 hB1 => ?_; have hz1 := hF1.size; obtain ⟨hn1, hl1⟩ := hN1; refine a_next ?_)
    refine e_drawnR (chcRel (fun g => (Value.slice p L cap).ownBlock = some g ∨ (Value.slice p' L cap').ownBlock = some g) b (1 + r.toNat)) (by intro _ _ _ d1 _ h1; cases d1 <;> exact h1) fun w5 hF5 => ?_
    have hz5 := hF5.size
    have k1 : (chcRel (fun g => (Value.slice p L cap).ownBlock = some g ∨ (Value.slice p' L cap').ownBlock = some g) b (1 + r.toNat)).keeps .weak ⟨b4, 0, none⟩ := .inl ⟨hb4, fun h => h.elim hr4 hh4⟩
    have k2 : (chcRel (fun g => (Value.slice p L cap).ownBlock = some g ∨ (Value.slice p' L cap').ownBlock = some g) b (1 + r.toNat)).keeps .weak ⟨b, 8 + r.toNat, none⟩ := .inr ⟨rfl, by show 8 + r.toNat ≠ 1 + r.toNat; omega, rfl⟩
    (refine A_move ?_; refine A_field ?_; refine A_move ?_; refine A_field ?_; refine A_move ?_; refine A_field ?_; refine A_nil ?_; refine A_field ?_; refine A_move ?_; 
       refine A_field ?_; refine A_nil ?_; refine A_field ?_; refine A_nil ?_; refine A_field ?_; refine A_nil ?_; refine A_field ?_; refine A_load ?_; refine A_load ?_; 
       refine A_load ?_; refine A_idxA ?_; refine A_load ?_; refine A_loadW ?_; refine A_load ?_; refine A_idxA ?_; refine A_load ?_)
    apply E_fork
    · refine E_lit1 rfl rfl sty40 rfl (by decide) ?_; intro b6 w6 hF6 hN6 hB6; have hz6 := hF6.size; obtain ⟨hn6, hl6⟩ := hN6
      apply E_fork
      · have hFX : Fr w3 w6 := by exact fr_
        have hXA := hB6
        refine E_append (v := .slice p L cap) (m := L) (xs := cs) (news := Try.z33.toList) rfl rfl rfl sty40 (hrow.fr hFX) rfl (Blk.range hXA) (by decide) (by omega) (by omega) (fun _ hc => hc.chc (fun g hg => .inl hg) hrb) (by decide) ?_; intro v8 w8 hC8 hR8 hO8; obtain ⟨p8, c8, rfl⟩ := Row.value hR8; have hz8 := hC8.size; have hhas8 := Row.ch (hhas.fr hFX) hC8 (fun g hg h' => hrh' g h' hg); have hblk8 := Blk.ch (hblk3.fr hFX) hC8 hrb
        refine E_lit1 rfl rfl sty23 rfl (by decide) ?_; intro b7 w7 hF7 hN7 hB7; have hz7 := hF7.size; obtain ⟨hn7, hl7⟩ := hN7
        have hFY : Fr w8 w7 := hF7
        have hXB : Blk w7 b7 4 #[.bool false] := hB7
        refine E_append (v := .slice p' L cap') (m := L) (xs := cs') (news := [.bool false]) rfl rfl rfl sty23 (hhas8.fr hFY) rfl (Blk.range hXB) (by decide) (by omega) (by omega) (fun _ hc => hc.chc (fun g hg => .inr hg) hhb) (by decide) ?_; intro v9 w9 hC9 hR9 hO9; obtain ⟨p9, c9, rfl⟩ := Row.value hR9; have hz9 := hC9.size; have hblk9 := Blk.ch (hblk8.fr hFY) hC9 hhb
        refine A_idxA ?_
        refine E_store1 (o := 1 + r.toNat) rfl (fun _ h1 h2 => chc_store hblk9 h1 h2) rfl rfl hblk9 (by simp only [Try.SI]) rfl (by show 1 + r.toNat < 15; omega) ?_; intro w10 hU10 hB10
        refine A_idxA ?_
        refine E_store1 (o := 8 + r.toNat) rfl (fun _ _ _ => trivial) rfl rfl hB10 (by simp only [Try.SI]) rfl (by rw [Array.size_setIfInBounds]; show 8 + r.toNat < 15; omega) ?_; intro w11 hU11 hB11
        (refine e_norm_nil ?_; refine e_norm_block ?_)
        exact e_againN (k + 1) (by omega) (tail _ _ _ _ _ _ _ _ _ _ hlt hFX hC8 hR8 hO8 hFY hC9 hR9 hO9 hU10 hU11 hB11) rfl (by exact sub_)
      · refine E_lit1 rfl rfl sty23 rfl (by decide) ?_; intro b7 w7 hF7 hN7 hB7; have hz7 := hF7.size; obtain ⟨hn7, hl7⟩ := hN7
        have hFX : Fr w3 w7 := by exact fr_
        have hXA := hB6.fr hF7
        refine E_append (v := .slice p L cap) (m := L) (xs := cs) (news := Try.z33.toList) rfl rfl rfl sty40 (hrow.fr hFX) rfl (Blk.range hXA) (by decide) (by omega) (by omega) (fun _ hc => hc.chc (fun g hg => .inl hg) hrb) (by decide) ?_; intro v8 w8 hC8 hR8 hO8; obtain ⟨p8, c8, rfl⟩ := Row.value hR8; have hz8 := hC8.size; have hhas8 := Row.ch (hhas.fr hFX) hC8 (fun g hg h' => hrh' g h' hg); have hblk8 := Blk.ch (hblk3.fr hFX) hC8 hrb
        have hFY : Fr w8 w8 := Fr.refl _
        have hXB : Blk w8 b7 4 #[.bool false] := Blk.ch hB7 hC8 (fun h => by have := hlr _ h; have := hFX.size; omega)
        refine E_append (v := .slice p' L cap') (m := L) (xs := cs') (news := [.bool false]) rfl rfl rfl sty23 (hhas8.fr hFY) rfl (Blk.range hXB) (by decide) (by omega) (by omega) (fun _ hc => hc.chc (fun g hg => .inr hg) hhb) (by decide) ?_; intro v9 w9 hC9 hR9 hO9; obtain ⟨p9, c9, rfl⟩ := Row.value hR9; have hz9 := hC9.size; have hblk9 := Blk.ch (hblk8.fr hFY) hC9 hhb
        refine A_idxA ?_
        refine E_store1 (o := 1 + r.toNat) rfl (fun _ h1 h2 => chc_store hblk9 h1 h2) rfl rfl hblk9 (by simp only [Try.SI]) rfl (by show 1 + r.toNat < 15; omega) ?_; intro w10 hU10 hB10
        refine A_idxA ?_
        refine E_store1 (o := 8 + r.toNat) rfl (fun _ _ _ => trivial) rfl rfl hB10 (by simp only [Try.SI]) rfl (by rw [Array.size_setIfInBounds]; show 8 + r.toNat < 15; omega) ?_; intro w11 hU11 hB11
        (refine e_norm_nil ?_; refine e_norm_block ?_)
        exact e_againN (k + 1) (by omega) (tail _ _ _ _ _ _ _ _ _ _ hlt hFX hC8 hR8 hO8 hFY hC9 hR9 hO9 hU10 hU11 hB11) rfl (by exact sub_)
    · refine E_lit1 rfl rfl sty23 rfl (by decide) ?_; intro b7 w7 hF7 hN7 hB7; have hz7 := hF7.size; obtain ⟨hn7, hl7⟩ := hN7
      refine E_lit1 rfl rfl sty40 rfl (by decide) ?_; intro b6 w6 hF6 hN6 hB6; have hz6 := hF6.size; obtain ⟨hn6, hl6⟩ := hN6
      have hFX : Fr w3 w6 := by exact fr_
      have hXA := hB6
      refine E_append (v := .slice p L cap) (m := L) (xs := cs) (news := Try.z33.toList) rfl rfl rfl sty40 (hrow.fr hFX) rfl (Blk.range hXA) (by decide) (by omega) (by omega) (fun _ hc => hc.chc (fun g hg => .inl hg) hrb) (by decide) ?_; intro v8 w8 hC8 hR8 hO8; obtain ⟨p8, c8, rfl⟩ := Row.value hR8; have hz8 := hC8.size; have hhas8 := Row.ch (hhas.fr hFX) hC8 (fun g hg h' => hrh' g h' hg); have hblk8 := Blk.ch (hblk3.fr hFX) hC8 hrb
      have hFY : Fr w8 w8 := Fr.refl _
      have hXB : Blk w8 b7 4 #[.bool false] := Blk.ch (hB7.fr hF6) hC8 (fun h => by have := hlr _ h; omega)
      refine E_append (v := .slice p' L cap') (m := L) (xs := cs') (news := [.bool false]) rfl rfl rfl sty23 (hhas8.fr hFY) rfl (Blk.range hXB) (by decide) (by omega) (by omega) (fun _ hc => hc.chc (fun g hg => .inr hg) hhb) (by decide) ?_; intro v9 w9 hC9 hR9 hO9; obtain ⟨p9, c9, rfl⟩ := Row.value hR9; have hz9 := hC9.size; have hblk9 := Blk.ch (hblk8.fr hFY) hC9 hhb
      refine A_idxA ?_
      refine E_store1 (o := 1 + r.toNat) rfl (fun _ h1 h2 => chc_store hblk9 h1 h2) rfl rfl hblk9 (by simp only [Try.SI]) rfl (by show 1 + r.toNat < 15; omega) ?_; intro w10 hU10 hB10
      refine A_idxA ?_
      refine E_store1 (o := 8 + r.toNat) rfl (fun _ _ _ => trivial) rfl rfl hB10 (by simp only [Try.SI]) rfl (by rw [Array.size_setIfInBounds]; show 8 + r.toNat < 15; omega) ?_; intro w11 hU11 hB11
      (refine e_norm_nil ?_; refine e_norm_block ?_)
      exact e_againN (k + 1) (by omega) (tail _ _ _ _ _ _ _ _ _ _ hlt hFX hC8 hR8 hO8 hFY hC9 hR9 hO9 hU10 hU11 hB11) rfl (by exact sub_)
  · have hml : m = (L : Int) ∨ (L : Int) = (R r.toNat).length ∧ m ≤ L := by omega
    have hlm : (m - 1).toNat < L := by omega
    obtain ⟨ga, capa, cura, hve, hba, hfita, hputa⟩ := Sl.put hrowS callL_len (i := (m - 1).toNat) (by rw [← hL]; exact hlm) (some c)
    obtain ⟨gb, capb, curb, hve', hbb, hfitb, hputb⟩ := Sl.put hhasS hasL_len (i := (m - 1).toNat) (by rw [← hL]; exact hlm) (some c)
    rw [hv, ← hL] at hve
    rw [hv', ← hL] at hve'
    injection hve with e1 _ e2
    injection hve' with e3 _ e4
    subst e1 e2 e3 e4
    rw [Nat.mul_one] at hfitb hputb
    have hab : ga ≠ gb := fun e => hrh' ga rfl (by rw [e]; rfl)
    have hra : gb ≠ ga := Ne.symm hab
    (refine e_seq fun K1 hK1 => ?_; refine e_seq fun K1 hK1 => ?_)
    ((with_reducible apply e_drawn); (focus (intro _ _ _ d1 _ h1; cases d1 <;> exact h1)); intro w1 hF1; have hz1 := hF1.size)
    (refine A_move ?_; refine A_field ?_; refine A_nil ?_; refine A_field ?_; refine A_field ?_; refine A_load ?_; refine A_idxA ?_; refine A_load ?_; refine A_lenS ?_; 
       refine A_load ?_; refine A_lss ?_; refine a_next ?_; refine a_false ?_; refine e_exit_then ?_; refine e_exit_then ?_; refine e_exit_here ?_; refine a_norm_then ?_; 
       refine e_seq fun K1 hK1 => ?_)
    refine e_drawnR (chRel (fun g => g = ga)) (by intro _ _ _ d1 _ h1; cases d1 <;> exact h1) fun w5 hF5 => ?_
    have hz5 := hF5.size
    have hk1 : (chRel (fun g => g = ga)).keeps .weak ⟨b4, 1, none⟩ := fun e => hr4 (by rw [show b4 = ga from e]; rfl)
    (refine A_move ?_; refine A_field ?_; refine A_nil ?_; refine A_field ?_; refine A_field ?_; refine A_move ?_; refine A_field ?_; refine A_nil ?_; refine A_field ?_; 
       refine A_field ?_; refine A_load ?_; refine A_idxA ?_; refine A_load ?_; refine A_load ?_; refine A_sub ?_; refine A_load ?_; refine A_idxA ?_; refine A_load ?_; 
       refine A_load ?_; refine A_sub ?_; refine A_loadW ?_; refine A_idxS ?_)
    have hFX : Fr w3 w5 := by exact fr_
    refine E_store (o := (m - 1).toNat * 14) rfl (fun _ hU _ => hU.ch) rfl rfl (hba.fr hFX) (by simp only [Try.SI]; rfl) (by show (callA c).all _ = true; rw [← Array.all_toList]; rfl) hfita rfl ?_
    intro w6 hU6 hB6
    refine A_idxS ?_
    refine E_store (o := (m - 1).toNat) rfl (fun _ _ _ => trivial) rfl rfl ((hbb.fr hFX).upd hU6 hra) (by simp only [Try.SI]; rfl) (by show (#[Value.bool true] : Array Value).all _ = true; rw [← Array.all_toList]; rfl) hfitb rfl ?_
    intro w7 hU7 hB7
    (refine a_next ?_; refine e_seq fun K1 hK1 => ?_; refine e_region ?_; refine A_assign ?_; refine a_next ?_; refine a_ret1 ?_)
    have hS1 := (hputa w6 hB6).ch hU7.ch (fun g hg e => hab (by rw [← e]; rw [hv] at hg; injection hg))
    have hS2 := hputb w7 hB7
    have hlen : ((R r.toNat ++ List.replicate k none).set (m - 1).toNat (some c)).length ≤ 64 := by rw [List.length_set, ← hL]; exact hshort
    have hba' := hrb
    obtain ⟨F'', a1, a2, a3⟩ := h3.turn hr7 (v' := rs' r.toNat) (v'' := hs' r.toNat) hlen (by
        rw [upd_self, upd_self]
        exact ((hblk3.fr hFX).upd hU6 (fun e => hrb (by rw [e]; rfl))).upd hU7 (fun e => hhb (by rw [e]; rfl))) hS1 hS2
      (((hFX.ch _).trans (hU6.ch.mono fun g _ e => .inr (.inl (by rw [hv, e]; rfl)))).trans (hU7.ch.mono fun g _ e => .inr (.inr (by rw [hv', e]; rfl))))
      (fun g hg => .inl hg) (fun g hg => .inl hg) (fun g => by rw [hv, hv']; exact hrh' g)
    rw [upd_upd, upd_self, upd_self] at a1
    have hz := hCh.size
    refine hR w7 F'' rs' hs' ?_ (fun g hg => (a2 g hg).elim (hF' g) (fun h => .inr (by omega))) (hCh.more a3 (fun i hi hg => (hF' i hg).resolve_right (by omega)))
    have e : padTo (R r.toNat) m.toNat = R r.toNat ++ List.replicate k none := by
      unfold padTo
      congr 2
      omega
    unfold setR
    simp only
    rw [e, show m.toNat - 1 = (m - 1).toNat by omega]
    exact a1
set_option maxHeartbeats 400000 in
theorem set47_bad (r m : Int) (c : CallD) (n : Int) (b : Nat) (w : World) (RR : Ending → World → Prop) (hn : w.cell? ⟨b, 0, none⟩ = some (.int .i64 n)) (hg : goodB r m n = false)
    (hR : ∀ w', Fr w w' → RR (.returned (.bool false)) w') :
    Calls Try.prog 47 #[.pointer (some ⟨b, 0, none⟩), .agg #[.int .i64 r, .int .i64 m], .agg (callA c)] w RR := by
  refine e_enter (n := ⟨84, []⟩) Try.mixed Try.func47 Try.p47 Try.x47 Try.fb47 Try.hx47 Try.ok47 rfl rfl (by simp) ?_; simp only [Try.x47, argEnv, Nat.zero_add, Nat.reduceAdd]
  (refine e_seq fun K1 hK1 => ?_; refine e_region ?_; refine A_box fun b1 w1 hF1 hN1 hB1 => ?_; have hz1 := hF1.size; obtain ⟨hn1, hl1⟩ := hN1; 
     refine A_box fun b1 w1 hF1 hN1 hB1 => ?_; have hz1 := hF1.size; obtain ⟨hn1, hl1⟩ := hN1; refine A_assign ?_; refine a_next ?_; refine e_seq fun K1 hK1 => ?_; 
     refine e_seq fun K1 hK1 => ?_; refine a_drawn fun w1 hF1 => ?_; have hz1 := hF1.size; refine A_move ?_; refine A_eqlnil ?_; refine A_move ?_; refine A_want ?_; 
     refine A_move ?_; refine A_want ?_; refine A_nil ?_; refine A_want ?_; refine A_field ?_; refine A_want ?_; refine A_loadW ?_; refine A_want ?_; refine A_load ?_; 
     refine A_want ?_)
  (with_reducible apply E_call); rfl; exact Try.en57; rfl; intro RR1 hRR1
  refine good57 _ _ _ _ _ fun w2 hF2 => ?_
  have hz2 := hF2.size
  refine hRR1 _ _ (by first | assumption | exact trivial) (Nat.le_of_ble_eq_true rfl) ?_; clear hRR1 RR1
  rw [hg]
  (refine A_want ?_; refine A_not ?_; refine A_pick_f ?_; refine a_next ?_; refine a_true ?_; refine e_seq fun K1 hK1 => ?_; refine e_region ?_; refine A_assign ?_; 
     refine a_next ?_; refine e_ret_then ?_; refine a_ret1 ?_)
  exact hR _ (by exact fr_)
end Go.Proofs.Ytjocklgihjbaiaa
end
section
/- Graphs: Commit, before. -/
namespace Go.Proofs.Ytjocklgihjbaiaa
open Go.RowKit
theorem callA_dep (c : CallD) : (callA c).extract 6 (6 + 7) = depA c.dep := rfl
/-- Whether a call can be committed. -/
def CanCommit (C : It → Option CallD) (n : Int) (x : It) (c : CallD) : Prop := GoodDeps c.dep 7 ∧ C x = none ∧ goodB x.1 x.2 n = true
def putC (C : It → Option CallD) (x : It) (c : CallD) : It → Option CallD := fun y => if y = x then some c else C y
section
variable {b : Nat} {n : Int} {C : It → Option CallD} {O : It → Bool} {F : Nat → Prop} (x : It) (w : World) (RR : Ending → World → Prop)
set_option maxRecDepth 10000 in
set_option maxHeartbeats 1000000 in
theorem commit26 (c : CallD) (h : GraphAt w b n C O F) (h1 : CanCommit C n x c → ∀ w' F', GraphAt w' b n (putC C x c) O F' → (∀ g, F' g → F g ∨ w.heap.size ≤ g) → Ch F w w' → RR (.returned (.bool true)) w')
    (h0 : ¬ CanCommit C n x c → ∀ w', Fr w w' → RR (.returned (.bool false)) w') : Calls Try.prog 26 #[.pointer (some ⟨b, 0, none⟩), itV x, .agg (callA c)] w RR := by
  obtain ⟨bc, bd, R, D, Fc, Fd, rs, hs, rs', hs', h, rfl, rfl⟩ := h
  have hc : w.cell? ⟨b, 0, none⟩ = some (.pointer (some ⟨bc, 0, none⟩)) := h.blk.cell rfl
  have hsz := callO_size (atR R n x)
  have hone := callO_one (atR R n x)
  have hdep := callA_dep c
  by_cases hgd : GoodDeps c.dep 7
  · refine e_enter (n := ⟨34, []⟩) Try.mixed Try.func26 Try.p26 Try.x26 Try.fb26 Try.hx26 Try.ok26 rfl rfl (by simp) ?_; simp only [Try.x26, argEnv, Nat.zero_add, Nat.reduceAdd]
    (refine e_seq fun K1 hK1 => ?_; refine e_region ?_; refine A_box fun b1 w1 hF1 hN1 hB1 => ?_; have hz1 := hF1.size; obtain ⟨hn1, hl1⟩ := hN1; 
       refine A_box fun b1 w1 hF1 hN1 hB1 => ?_; have hz1 := hF1.size; obtain ⟨hn1, hl1⟩ := hN1; refine A_assign ?_; refine a_next ?_; refine e_seq fun K1 hK1 => ?_; 
       refine e_seq fun K1 hK1 => ?_; refine e_region ?_; refine A_move ?_; refine A_eqlnil ?_; refine A_move ?_; refine A_want ?_; refine A_field ?_; refine A_want ?_; 
       refine A_loadB ?_; refine A_want ?_)
    (with_reducible apply E_call); rfl; exact Try.en45; rfl; intro RR1 hRR1
    refine good45 _ _ _ _ fun w2 hF2 => ?_
    have hz2 := hF2.size
    refine hRR1 _ _ (by first | assumption | exact trivial) (Nat.le_of_ble_eq_true rfl) ?_; clear hRR1 RR1
    rw [decide_eq_true hgd]
    (refine A_want ?_; refine A_not ?_; refine A_pick_f ?_; refine a_next ?_; refine a_false ?_; refine a_nextC ?_; refine e_seq fun K1 hK1 => ?_; 
       refine e_seq fun K1 hK1 => ?_)
    rename_i b4 w4 hF4 hB4 hz4 hn4 hl4 K4 hK4 K5 hK5 K3 hK3
    have rest : ∀ w', Fr w w' → Blk w' b4 27 (itA x) → Blk w' b1 33 (callA c) → ∀ a, Agrees ⟨34, []⟩ a [(8, .bool (atR R n x).isSome), (0, .pointer (some ⟨b, 0, none⟩)), (4, .pointer (some ⟨b4, 0, none⟩)), (5, .pointer (some ⟨b1, 0, none⟩))] → K1 a w' := by
      intro w5 hF5 hB45 hB55
      have hz5 := hF5.size
      refine later_of hK1 ?_
      clear hF1 hF2 hF4
      cases hx : atR R n x with
      | some cd =>
        simp only [Option.isSome_some]
        (refine e_seq fun K1 hK1 => ?_; refine e_region ?_; refine A_move ?_; refine a_next ?_; refine a_true ?_; refine e_seq fun K1 hK1 => ?_; refine e_region ?_; 
           refine A_assign ?_; refine a_next ?_; refine e_ret_then ?_; refine a_ret1 ?_)
        exact h0 (fun hcc => by rw [hcc.2.1] at hx; cases hx) _ (by exact fr_)
      | none =>
        simp only [Option.isSome_none]
        (refine e_seq fun K1 hK1 => ?_; refine e_region ?_; refine A_move ?_; refine a_next ?_; refine a_false ?_; refine a_nextC ?_; refine e_seq fun K1 hK1 => ?_; 
           refine a_drawn fun w1 hF1 => ?_; have hz1 := hF1.size; refine A_move ?_; refine A_nil ?_; refine A_field ?_; refine A_load ?_; refine A_loadW ?_; refine A_loadW ?_)
        (with_reducible apply E_call); rfl; exact Try.en47; rfl; intro RR1 hRR1
        obtain ⟨r, m⟩ := x
        cases hg : goodB r m n with
        | false =>
          refine set47_bad r m c n bc _ _ (by apply Fr.c; rotate_left; exact h.calls.blk.cell rfl; exact fr_) hg fun w6 hF6 => ?_
          have hz6 := hF6.size
          refine hRR1 _ _ (by first | assumption | exact trivial) (Nat.le_of_ble_eq_true rfl) ?_; clear hRR1 RR1
          (refine A_assign ?_; refine a_next ?_; refine a_ret1 ?_)
          exact h0 (fun hcc => by have := hcc.2.2; rw [hg] at this; cases this) _ (by exact fr_)
        | true =>
          have hFX : Fr w w1 := by exact fr_
          refine set47_ok r m c n bc _ _ (h.calls.fr hFX) hg fun w6 F' rs2 hs2 h6 hF' hC6 => ?_
          refine hRR1 _ _ (by first | assumption | exact trivial) (Nat.le_of_ble_eq_true rfl) ?_; clear hRR1 RR1
          (refine A_assign ?_; refine a_next ?_; refine a_ret1 ?_)
          have hzX := hFX.size
          have hlt : ∀ g, F g → g < w.heap.size := fun g hg => GraphAt.lt ⟨bc, bd, R, D, Fc, Fd, rs, hs, rs', hs', h, rfl, rfl⟩ hg
          have hnb : ¬ F' b := fun hg => (hF' b hg).elim h.bc (fun h' => by have := hlt b ((h.foot b).2 (.inl rfl)); omega)
          have hnd : ∀ g, F' g → ¬ Fd g := fun g hg hd => (hF' g hg).elim (fun h' => h.cd g h' hd) (fun h' => by have := hlt g ((h.foot g).2 (.inr (.inr hd))); omega)
          refine h1 ⟨hgd, hx, hg⟩ _ (fun g => g = b ∨ F' g ∨ Fd g) ⟨bc, bd, _, D, F', Fd, rs2, hs2, rs', hs', ⟨(h.blk.fr hFX).ch hC6 h.bc, h6, (h.done.fr hFX).ch hC6 (fun g hd hc => h.cd g hc hd), fun _ => Iff.rfl, hnb, h.bd, hnd⟩, ?_, rfl⟩ ?_ ?_
          · funext y
            rw [atR_setR (x := (r, m)) hg]
            rfl
          · rintro g (rfl | hg | hg)
            · exact .inl ((h.foot _).2 (.inl rfl))
            · exact (hF' g hg).elim (fun h' => .inl ((h.foot _).2 (.inr (.inl h')))) (fun h' => .inr (by omega))
            · exact .inl ((h.foot _).2 (.inr (.inr hg)))
          · exact (hFX.ch F).trans (hC6.mono fun g _ hg => (h.foot _).2 (.inr (.inl hg)))
    clear hK1
    (refine a_drawn fun w1 hF1 => ?_; have hz1 := hF1.size; refine A_move ?_; refine A_nil ?_; refine A_field ?_; refine A_load ?_; refine A_loadW ?_)
    apply E_fork
    · (with_reducible apply E_call); rfl; exact Try.en46; rfl; intro RR1 hRR1
      refine at46 x n bc _ _ (h.calls.fr (by exact fr_)) fun w6 hF6 => ?_
      have hz6 := hF6.size
      refine hRR1 _ _ (by first | assumption | exact trivial) (Nat.le_of_ble_eq_true rfl) ?_; clear hRR1 RR1
      (refine A_move ?_; refine A_extract ?_; refine A_extract ?_; refine A_alloc fun b1 w1 hF1 hN1 hB1 => ?_; have hz1 := hF1.size; obtain ⟨hn1, hl1⟩ := hN1; 
         refine A_storeW fun w1 hU1 hB1 => ?_; refine A_assign ?_; refine e_norm_nil ?_)
      exact e_restN (rest _ (by exact fr_) (by exact blk_) (by exact blk_)) (by exact sub_)
    · (refine A_alloc fun b1 w1 hF1 hN1 hB1 => ?_; have hz1 := hF1.size; obtain ⟨hn1, hl1⟩ := hN1)
      (with_reducible apply E_call); rfl; exact Try.en46; rfl; intro RR1 hRR1
      refine at46 x n bc _ _ (h.calls.fr (by exact fr_)) fun w6 hF6 => ?_
      have hz6 := hF6.size
      refine hRR1 _ _ (by first | assumption | exact trivial) (Nat.le_of_ble_eq_true rfl) ?_; clear hRR1 RR1
      (refine A_move ?_; refine A_extract ?_; refine A_extract ?_; refine A_storeW fun w1 hU1 hB1 => ?_; refine A_assign ?_; refine e_norm_nil ?_)
      exact e_restN (rest _ (by exact fr_) (by exact blk_) (by exact blk_)) (by exact sub_)
  · refine e_enter (n := ⟨34, []⟩) Try.mixed Try.func26 Try.p26 Try.x26 Try.fb26 Try.hx26 Try.ok26 rfl rfl (by simp) ?_; simp only [Try.x26, argEnv, Nat.zero_add, Nat.reduceAdd]
    (refine e_seq fun K1 hK1 => ?_; refine e_region ?_; refine A_box fun b1 w1 hF1 hN1 hB1 => ?_; have hz1 := hF1.size; obtain ⟨hn1, hl1⟩ := hN1; 
       refine A_box fun b1 w1 hF1 hN1 hB1 => ?_; have hz1 := hF1.size; obtain ⟨hn1, hl1⟩ := hN1; refine A_assign ?_; refine a_next ?_; refine e_seq fun K1 hK1 => ?_; 
       refine e_seq fun K1 hK1 => ?_; refine e_region ?_; refine A_move ?_; refine A_eqlnil ?_; refine A_move ?_; refine A_want ?_; refine A_field ?_; refine A_want ?_; 
       refine A_loadB ?_; refine A_want ?_)
    (with_reducible apply E_call); rfl; exact Try.en45; rfl; intro RR1 hRR1
    refine good45 _ _ _ _ fun w2 hF2 => ?_
    have hz2 := hF2.size
    refine hRR1 _ _ (by first | assumption | exact trivial) (Nat.le_of_ble_eq_true rfl) ?_; clear hRR1 RR1
    rw [decide_eq_false hgd]
    (refine A_want ?_; refine A_not ?_; refine A_pick_f ?_; refine a_next ?_; refine a_true ?_; refine e_seq fun K1 hK1 => ?_; refine e_region ?_; refine A_assign ?_; 
       refine a_next ?_; refine e_ret_then ?_; refine a_ret1 ?_)
    exact h0 (fun hcc => hgd hcc.1) _ (by exact fr_)
end
end Go.Proofs.Ytjocklgihjbaiaa
end
section
/- Runs: Commit, finish, Missing. -/
namespace Go.Proofs.Ytjocklgihjbaiaa
open Go.RowKit
section
variable {w : World} {br : Nat} {n : Int} {C : It → Option CallD} {O : It → Bool} {done opn : List It} {S : Nat → Prop} (RR : Ending → World → Prop)
theorem Row.range' {w : World} {l : List It} {g c : Nat} (h : Sl w 27 2 itL (.slice (some ⟨g, 0, none⟩) l.length c) l) : w.rangeAt g 0 (cellsOf itL l) := fun j u hj => by
  rw [Nat.zero_add]
  exact Row.cell (g := g) (v := .slice (some ⟨g, 0, none⟩) l.length c) h rfl hj
/-- A slice of items, sorted. -/
theorem sort28 (v : Value) (l : List It) (w : World) (h : Sl w 27 2 itL v l) (hl : l.length ≤ 1000000) (h0 : l ≠ [])
    (hR : ∀ w', Sl w' 27 2 itL v (srtI l) → Ch (fun g => v.ownBlock = some g) w w' → RR (.returned (.tuple #[])) w') : Calls Try.prog 27 #[v, .func (.func 28) #[] #[]] w RR := by
  obtain ⟨g, c, rfl, hg⟩ := Row.form h (List.length_pos_iff.2 h0)
  have hD : Dat w g c l.length l.toArray := ⟨by simpa using h, by simp⟩
  refine sortFunc27 (cmpV28 g) (by rw [lt28]; exact swoI) (by omega) _ _ _ hD trivial fun w' d' hp hs hD' hC => ?_
  rw [lt28] at hs
  have e := srtI_of l.toArray d' hp (by simpa using hs)
  refine hR w' ?_ (hC.mono fun k _ e => by subst e; rfl)
  have := hD'.sl
  rw [e] at this
  exact this
theorem sort33 (v : Value) (l : List It) (w : World) (h : Sl w 27 2 itL v l) (hl : l.length ≤ 1000000) (h0 : l ≠ [])
    (hR : ∀ w', Sl w' 27 2 itL v (srtI l) → Ch (fun g => v.ownBlock = some g) w w' → RR (.returned (.tuple #[])) w') : Calls Try.prog 27 #[v, .func (.func 33) #[] #[]] w RR := by
  obtain ⟨g, c, rfl, hg⟩ := Row.form h (List.length_pos_iff.2 h0)
  have hD : Dat w g c l.length l.toArray := ⟨by simpa using h, by simp⟩
  refine sortFunc27 (cmpV33 g) (by rw [lt33]; exact swoI) (by omega) _ _ _ hD trivial fun w' d' hp hs hD' hC => ?_
  rw [lt33] at hs
  have e := srtI_of l.toArray d' hp (by simpa using hs)
  refine hR w' ?_ (hC.mono fun k _ e => by subst e; rfl)
  have := hD'.sl
  rw [e] at this
  exact this
set_option maxRecDepth 10000 in
set_option maxHeartbeats 4000000 in
theorem commit9 (x : It) (c : CallD) (h : RunAt w br n C O done opn S) (hl : opn.length ≤ 100000)
    (h1 : CanCommit C n x c → ∀ w' S', RunAt w' br n (putC C x c) O done (srtI (opn ++ [x])) S' → (∀ g, S' g → S g ∨ w.heap.size ≤ g) → Ch S w w' → RR (.returned (.bool true)) w')
    (h0 : ¬ CanCommit C n x c → ∀ w', Fr w w' → RR (.returned (.bool false)) w') : Calls Try.prog 9 #[.pointer (some ⟨br, 0, none⟩), itV x, .agg (callA c)] w RR := by
  obtain ⟨bg, vd, vo, F, h⟩ := h
  have hb := h.blk
  have hlb := hb.lt
  have hlF : ∀ g, F g → g < w.heap.size := fun g => h.g.lt
  refine e_enter (n := ⟨34, []⟩) Try.mixed Try.func9 Try.p9 Try.x9 Try.fb9 Try.hx9 Try.ok9 rfl rfl (by simp) ?_; simp only [Try.x9, argEnv, Nat.zero_add, Nat.reduceAdd]
  (refine e_seq fun K1 hK1 => ?_; refine e_region ?_; refine A_box fun b1 w1 hF1 hN1 hB1 => ?_; have hz1 := hF1.size; obtain ⟨hn1, hl1⟩ := hN1; 
     refine A_box fun b1 w1 hF1 hN1 hB1 => ?_; have hz1 := hF1.size; obtain ⟨hn1, hl1⟩ := hN1; refine A_assign ?_; refine a_next ?_; refine e_seq fun K1 hK1 => ?_; 
     refine e_seq fun K1 hK1 => ?_)
  rename_i b4 w4 hF4 hB4 hz4 hn4 hl4 K2 hK2
  ((with_reducible apply e_drawn); (focus (intro _ _ _ d1 _ h1; cases d1 <;> exact h1)); intro w1 hF1; have hz1 := hF1.size)
  (refine A_move ?_; refine A_eqlnil ?_; refine A_move ?_; refine A_want ?_; refine A_move ?_; refine A_want ?_; refine A_nil ?_; refine A_want ?_; refine A_field ?_; 
     refine A_want ?_; refine A_load ?_; refine A_want ?_; refine A_loadW ?_; refine A_want ?_; refine A_loadW ?_; refine A_want ?_)
  (with_reducible apply E_call); rfl; exact Try.en26; rfl; intro RR1 hRR1
  have hB41 : Blk w1 b4 27 (itA x) := by exact blk_
  have hFX : Fr w w1 := by exact fr_
  clear hF1 hF4
  refine commit26 x _ _ c (h.g.fr hFX) (fun hcc w2 F' hG2 hF' hC2 => ?_) (fun hcc w2 hF2 => ?_)
  · have hz2 := hC2.size
    have hm2 : RunM w1 br bg vd vo n C O F done opn S := h.fr hFX
    have hb2 := hm2.blk.ch hC2 h.fbr
    have hB42 : Blk w2 b4 27 (itA x) := hB41.ch hC2 (fun hf => by have := hlF _ hf; omega)
    have hso2 := hm2.so.ch hC2 (fun k hk => h.fvo hk)
    have hsd2 := hm2.sd.ch hC2 (fun k hk => h.fvd hk)
    have hlvd : ∀ k, vd.ownBlock = some k → k < w.heap.size := fun k hk => h.sd.lt hk
    have hlvo : ∀ k, vo.ownBlock = some k → k < w.heap.size := fun k hk => h.so.lt hk
    have hzX := hFX.size
    refine hRR1 _ _ (by first | assumption | exact trivial) (Nat.le_of_ble_eq_true rfl) ?_; clear hRR1 RR1
    (refine A_want ?_; refine A_not ?_; refine A_pick_f ?_; refine a_next ?_; refine a_false ?_; refine a_nextC ?_; refine e_seq fun K1 hK1 => ?_)
    ((with_reducible apply e_drawn); (focus (intro _ _ _ d1 _ h1; cases d1 <;> exact h1)); intro w1 hF1; have hz1 := hF1.size)
    (refine A_move ?_; refine A_move ?_; refine A_nil ?_; refine A_field ?_; refine A_load ?_; refine A_loadW ?_)
    refine E_lit1 rfl rfl sty39 rfl (by decide) ?_
    intro b7 w7 hF7 hN7 hB7
    have hz7 := hF7.size
    obtain ⟨hn7, hl7⟩ := hN7
    have hF27 : Fr w2 w7 := by exact fr_
    have hz27 := hF27.size
    refine E_append (v := vo) (m := opn.length) (xs := cellsOf itL opn) (news := itL x) rfl rfl rfl sty39 (Row.fr hso2 hF27) rfl (Blk.range (cs := itA x) hB7) (itL_one x) (by omega) (by omega) (fun _ _ => trivial) (by decide) ?_
    intro vo' w8 hC8 hR8 hO8
    have hz8 := hC8.size
    obtain ⟨pm, cm, rfl⟩ := Row.value hR8
    have hB8 := (hb2.fr hF27).ch hC8 (fun e => Row.ne_ty hso2 hb2 (by decide) e)
    have hsl8 : Sl w8 27 2 itL (.slice pm (opn.length + 1) cm) (opn ++ [x]) := by
      unfold Sl
      rw [cellsOf_append, List.length_append]
      simpa [cellsOf] using hR8
    clear hF1
    (refine A_nil ?_; refine A_field ?_)
    refine E_store1 (o := 2) rfl (fun _ _ _ => trivial) rfl rfl hB8 (by simp only [Try.SI]) rfl (by simp) ?_
    intro w9 hU9 hB9
    have hz9 := hU9.size
    simp only [List.setIfInBounds_toArray, List.set_cons_zero, List.set_cons_succ] at hB9
    have hne9 : ∀ k, (Value.slice pm (opn.length + 1) cm).ownBlock = some k → k ≠ br := fun k hk e => Row.ne_ty hR8 hB8 (by decide) (e ▸ hk)
    have hsl9 := hsl8.ch hU9.ch (fun k hk e => hne9 k hk e)
    (refine a_next ?_; refine e_seq fun K1 hK1 => ?_; refine e_region ?_; refine A_move ?_; refine A_nil ?_; refine A_field ?_; refine A_load ?_)
    (with_reducible apply E_call); rfl; exact Try.en27; rfl; intro RR1 hRR1
    refine sort28 _ _ (opn ++ [x]) w9 hsl9 (by simp; omega) (by simp) fun w10 hsl10 hC10 => ?_
    have hz10 := hC10.size
    refine hRR1 _ _ (by first | assumption | exact trivial) (Nat.le_of_ble_eq_true rfl) ?_; clear hRR1 RR1
    (refine a_next ?_; refine e_seq fun K1 hK1 => ?_; refine e_region ?_; refine A_assign ?_; refine a_next ?_; refine a_ret1 ?_)
    have hCh : Ch (fun g => F g ∨ g = br ∨ vo.ownBlock = some g) w w10 := ((((((hFX.ch _).trans_ch hC2 fun i e => .inl (.inl e)).trans_fr hF27).trans_ch hC8 fun i e => .inl (.inr (.inr e))).trans_upd hU9 (.inl (.inr (.inl rfl)))).trans_ch hC10 fun i e => by
      rcases hO8 i e with e | e
      · exact .inl (.inr (.inr e))
      · exact .inr (by omega))
    have hvdS : ∀ k, vd.ownBlock = some k → ¬ (F k ∨ k = br ∨ vo.ownBlock = some k) := by
      rintro k hk (e | e | e)
      · exact h.fvd hk e
      · exact Row.ne_ty h.sd hb (by decide) (e ▸ hk)
      · exact h.ne k hk e
    have hlF2 : ∀ g, F' g → g < w2.heap.size := fun g => hG2.lt
    have hnF' : ∀ k, vo.ownBlock = some k → ¬ F' k := fun k hk hf => by
      rcases hF' k hf with e | e
      · exact h.fvo hk e
      · have := hlvo k hk; omega
    have hnF10 : ∀ k, (Value.slice pm (opn.length + 1) cm).ownBlock = some k → ¬ F' k := fun k hk hf => by
      rcases hO8 k hk with e | e
      · exact hnF' k e hf
      · have := hlF2 k hf; omega
    have hbrF' : ¬ F' br := fun hf => (hF' br hf).elim h.fbr fun e => by omega
    have hG10 : GraphAt w10 bg n (putC C x c) O F' := ((((hG2.fr hF27).ch hC8 fun k hf e => hnF' k e hf).ch hU9.ch fun k hf e => hbrF' (e ▸ hf))).ch hC10 fun k hf e => hnF10 k e hf
    have hB10 := hB9.ch hC10 (fun e => hne9 br e rfl)
    refine h1 hcc w10 (fun g => g = br ∨ F' g ∨ vd.ownBlock = some g ∨ (Value.slice pm (opn.length + 1) cm).ownBlock = some g) ⟨bg, vd, _, F', hB10, hG10, h.sd.ch hCh hvdS, hsl10, fun k hk e => ?_, fun k => Iff.rfl⟩ ?_ (hCh.mono fun k _ e => ?_)
    · rcases hO8 k e with e | e
      · exact h.ne k hk e
      · have := hlvd k hk; omega
    · rintro g (e | e | e | e)
      · exact .inl ((h.foot g).2 (.inl e))
      · rcases hF' g e with e | e
        · exact .inl ((h.foot g).2 (.inr (.inl e)))
        · exact .inr (by omega)
      · exact .inl ((h.foot g).2 (.inr (.inr (.inl e))))
      · rcases hO8 g e with e | e
        · exact .inl ((h.foot g).2 (.inr (.inr (.inr e))))
        · exact .inr (by omega)
    · rcases e with e | e | e
      · exact (h.foot k).2 (.inr (.inl e))
      · exact (h.foot k).2 (.inl e)
      · exact (h.foot k).2 (.inr (.inr (.inr e)))
  · refine hRR1 _ _ (by first | assumption | exact trivial) (Nat.le_of_ble_eq_true rfl) ?_; clear hRR1 RR1
    (refine A_want ?_; refine A_not ?_; refine A_pick_f ?_; refine a_next ?_; refine a_true ?_; refine e_seq fun K1 hK1 => ?_; refine e_region ?_; refine A_assign ?_; 
       refine a_next ?_; refine e_ret_then ?_; refine a_ret1 ?_)
    exact h0 hcc _ (hFX.trans hF2)
theorem cells_one (l : List It) : ∀ u ∈ cellsOf itL l, u.oneCell' = true := by
  intro u hu
  unfold cellsOf at hu
  obtain ⟨x, _, hx⟩ := List.mem_flatMap.1 hu
  exact itL_one x u hx
set_option maxRecDepth 10000 in
set_option maxHeartbeats 4000000 in
theorem finish35 (v : Value) (part : List It) (h : RunAt w br n C O done opn S) (hp : Sl w 27 2 itL v part) (hv : ∀ k, v.ownBlock = some k → ¬ S k) (hp0 : part ≠ []) (hl : done.length + part.length ≤ 100000)
    (hR : ∀ w' S', RunAt w' br n C (doneO O n part) (done ++ part) (opn.filter fun y => !doneO O n part y) S' → (∀ g, S' g → S g ∨ w.heap.size ≤ g) → Ch S w w' → RR (.returned (.tuple #[])) w') :
    Calls Try.prog 35 #[.pointer (some ⟨br, 0, none⟩), v] w RR := by
  obtain ⟨bg, vd, vo, F, h⟩ := h
  have hb := h.blk
  have hlb := hb.lt
  obtain ⟨gp, cp, hve, hgp⟩ := Row.form hp (List.length_pos_iff.2 hp0)
  subst hve
  have hvS : ¬ S gp := hv gp rfl
  have hvF : ¬ F gp := fun e => hvS ((h.foot gp).2 (.inr (.inl e)))
  have hvd : vd.ownBlock ≠ some gp := fun e => hvS ((h.foot gp).2 (.inr (.inr (.inl e))))
  refine e_enter (n := ⟨32, []⟩) Try.mixed Try.func35 Try.p35 Try.x35 Try.fb35 Try.hx35 Try.ok35 rfl rfl (by simp) ?_; simp only [Try.x35, argEnv, Nat.zero_add, Nat.reduceAdd]
  (refine e_seq fun K1 hK1 => ?_; refine e_region ?_; refine A_move ?_; refine A_nil ?_; refine A_field ?_; refine A_load ?_; refine A_move ?_)
  (with_reducible apply E_call); rfl; exact Try.en53; rfl; intro RR1 hRR1
  refine done53 _ _ _ part h.g hp (fun g hg => by have := own_sl hg; subst this; exact hvF) fun w2 F' hG2 hF' hC2 => ?_
  have hz2 := hC2.size
  have hb2 := hb.ch hC2 h.fbr
  have hso2 := h.so.ch hC2 (fun k hk => h.fvo hk)
  have hsd2 := h.sd.ch hC2 (fun k hk => h.fvd hk)
  have hp2 := hp.ch hC2 (fun k hk => by have := own_sl hk; subst this; exact hvF)
  have hlvd : ∀ k, vd.ownBlock = some k → k < w.heap.size := fun k hk => h.sd.lt hk
  have hlvo : ∀ k, vo.ownBlock = some k → k < w.heap.size := fun k hk => h.so.lt hk
  have hlF2 : ∀ g, F' g → g < w2.heap.size := fun g => hG2.lt
  refine hRR1 _ _ (by first | assumption | exact trivial) (Nat.le_of_ble_eq_true rfl) ?_; clear hRR1 RR1
  (refine a_next ?_; refine e_seq fun K1 hK1 => ?_; refine e_region ?_; refine A_move ?_; refine A_move ?_; refine A_nil ?_; refine A_field ?_; refine A_load ?_; 
     refine A_move ?_)
  refine E_append (v := vd) (m := done.length) (xs := cellsOf itL done) (news := cellsOf itL part) rfl rfl rfl sty39 hsd2 (cellsOf_length itL_len part) (Row.range' hp2) (cells_one part) (by omega) (by omega) (fun _ _ => trivial) (by decide) ?_
  intro vd' w8 hC8 hR8 hO8
  have hz8 := hC8.size
  obtain ⟨pm, cm, rfl⟩ := Row.value hR8
  have hB8 := hb2.ch hC8 (fun e => Row.ne_ty hsd2 hb2 (by decide) e)
  have hsl8 : Sl w8 27 2 itL (.slice pm (done.length + part.length) cm) (done ++ part) := by
    unfold Sl
    rw [cellsOf_append, List.length_append]
    exact hR8
  (refine A_nil ?_; refine A_field ?_)
  refine E_store1 (o := 1) rfl (fun _ _ _ => trivial) rfl rfl hB8 (by simp only [Try.SI]) rfl (by simp) ?_
  intro w9 hU9 hB9
  have hz9 := hU9.size
  simp only [List.setIfInBounds_toArray, List.set_cons_zero, List.set_cons_succ] at hB9
  have hne9 : ∀ k, (Value.slice pm (done.length + part.length) cm).ownBlock = some k → k ≠ br := fun k hk e => Row.ne_ty hR8 hB8 (by decide) (e ▸ hk)
  have hsl9 := hsl8.ch hU9.ch (fun k hk e => hne9 k hk e)
  have hbrF' : ¬ F' br := fun hf => (hF' br hf).elim h.fbr fun e => by omega
  have hnFd : ∀ k, vd.ownBlock = some k → ¬ F' k := fun k hk hf => by
    rcases hF' k hf with e | e
    · exact h.fvd hk e
    · have := hlvd k hk; omega
  have hnFo : ∀ k, vo.ownBlock = some k → ¬ F' k := fun k hk hf => by
    rcases hF' k hf with e | e
    · exact h.fvo hk e
    · have := hlvo k hk; omega
  have hG9 : GraphAt w9 bg n C (doneO O n part) F' := (hG2.ch hC8 fun k hf e => hnFd k e hf).ch hU9.ch fun k hf e => hbrF' (e ▸ hf)
  have hso9 : Sl w9 27 2 itL vo opn := (hso2.ch hC8 (fun k hk e => h.ne k e hk)).ch hU9.ch (fun k hk e => Row.ne_ty h.so hb (by decide) (e ▸ hk))
  refine a_next ?_
  ((with_reducible apply e_drawn); (focus (intro _ _ _ d1 _ h1; cases d1 <;> exact h1)); intro w1 hF1; have hz1 := hF1.size)
  (refine A_move ?_; refine A_move ?_; refine A_nil ?_; refine A_field ?_; refine A_move ?_; refine A_nil ?_; refine A_field ?_; refine A_load ?_; refine A_load ?_; 
     refine A_makeFunc ?_)
  (with_reducible apply E_call); rfl; exact Try.en54; rfl; intro RR1 hRR1
  have hFd : Fr w9 w1 := hF1
  clear hF1
  refine deleteFunc54 _ _ _ _ (hG9.fr hFd) (hso9.fr hFd) fun vo' w11 hC11 hso11 hO11 => ?_
  have hz11 := hC11.size
  obtain ⟨po, co, hvo'⟩ := hso11.value
  subst hvo'
  have hB11 := (hB9.fr hFd).ch hC11 (fun e => Row.ne_ty h.so hb (by decide) e)
  refine hRR1 _ _ (by first | assumption | exact trivial) (Nat.le_of_ble_eq_true rfl) ?_; clear hRR1 RR1
  (refine A_nil ?_; refine A_field ?_)
  refine E_store1 (o := 2) rfl (fun _ _ _ => trivial) rfl rfl hB11 (by simp only [Try.SI]) rfl (by simp) ?_
  intro w12 hU12 hB12
  simp only [List.setIfInBounds_toArray, List.set_cons_zero, List.set_cons_succ] at hB12
  (refine e_norm_nil ?_; refine a_end0 ?_)
  have hCh : Ch (fun g => F g ∨ g = br ∨ vd.ownBlock = some g ∨ vo.ownBlock = some g) w w12 := (((((hC2.mono fun _ _ e => .inl e).trans_ch hC8 fun i e => .inl (.inr (.inr (.inl e)))).trans_upd hU9 (.inl (.inr (.inl rfl)))).trans_fr hFd).trans_ch hC11 fun i e => .inl (.inr (.inr (.inr e)))).trans_upd hU12 (.inl (.inr (.inl rfl)))
  have hnFd' : ∀ k, (Value.slice pm (done.length + part.length) cm).ownBlock = some k → ¬ F' k := fun k hk hf => by
    rcases hO8 k hk with e | e
    · exact hnFd k e hf
    · have := hlF2 k hf; omega
  have hdo : ∀ k, (Value.slice pm (done.length + part.length) cm).ownBlock = some k → vo.ownBlock ≠ some k := fun k hk e => by
    rcases hO8 k hk with e' | e'
    · exact h.ne k e' e
    · have := hlvo k e; omega
  have hG12 : GraphAt w12 bg n C (doneO O n part) F' := ((hG9.fr hFd).ch hC11 fun k hf e => hnFo k e hf).ch hU12.ch fun k hf e => hbrF' (e ▸ hf)
  have hsd12 := ((hsl9.fr hFd).ch hC11 (fun k hk e => hdo k hk e)).ch hU12.ch (fun k hk e => hne9 k hk e)
  have hso12 := hso11.ch hU12.ch (fun k hk e => Row.ne_ty h.so hb (by decide) (e ▸ hO11 k hk))
  refine hR w12 (fun g => g = br ∨ F' g ∨ (Value.slice pm (done.length + part.length) cm).ownBlock = some g ∨ (Value.slice po (opn.filter fun y => !doneO O n part y).length co).ownBlock = some g) ⟨bg, _, _, F', hB12, hG12, hsd12, hso12, fun k hk e => hdo k hk (hO11 k e), fun k => Iff.rfl⟩ ?_ (hCh.mono fun k _ e => ?_)
  · rintro g (e | e | e | e)
    · exact .inl ((h.foot g).2 (.inl e))
    · rcases hF' g e with e | e
      · exact .inl ((h.foot g).2 (.inr (.inl e)))
      · exact .inr e
    · rcases hO8 g e with e | e
      · exact .inl ((h.foot g).2 (.inr (.inr (.inl e))))
      · exact .inr (by omega)
    · exact .inl ((h.foot g).2 (.inr (.inr (.inr (hO11 g e)))))
  · rcases e with e | e | e | e
    · exact (h.foot k).2 (.inr (.inl e))
    · exact (h.foot k).2 (.inl e)
    · exact (h.foot k).2 (.inr (.inr (.inl e)))
    · exact (h.foot k).2 (.inr (.inr (.inr e)))
end
end Go.Proofs.Ytjocklgihjbaiaa
end
section
/- The plain law of runs: what was done is closed, ordered, and in the end all that can be. -/
namespace Go.Proofs.Ytjocklgihjbaiaa
open Go.RowKit PT
/-- For what an item waits at all. -/
def W0 (C : It → Option CallD) (x : It) : List It := waitsL C (fun _ => false) x
theorem mem_waits (C : It → Option CallD) (O : It → Bool) (x y : It) : y ∈ waitsL C O x ↔ y ∈ W0 C x ∧ O y = false := by
  unfold W0 waitsL waitsB
  rw [List.mem_filter, List.mem_filter]
  simp only [Bool.and_eq_true, decide_eq_true_eq, Bool.not_eq_true', and_true]
  constructor
  · rintro ⟨h1, h2, h3⟩; exact ⟨⟨h1, h2⟩, h3⟩
  · rintro ⟨⟨h1, h2⟩, h3⟩; exact ⟨h1, h2, h3⟩
theorem mem_W0 (C : It → Option CallD) (x y : It) : y ∈ W0 C x ↔ y ≠ x ∧ 0 ≤ y.1 ∧ y.1 < 7 ∧ 1 ≤ y.2 ∧ y.2 ≤ depOf (C x) y.1.toNat := by
  unfold W0 waitsL waitsB
  rw [List.mem_filter, mem_itemsOf]
  simp only [Bool.and_eq_true, decide_eq_true_eq, Bool.not_false, and_true]
  constructor
  · rintro ⟨h1, h2⟩; exact ⟨h2, h1⟩
  · rintro ⟨h1, h2⟩; exact ⟨h2, h1⟩
theorem path_sub {C : It → Option CallD} {O : It → Bool} {x y : It} (h : Path (waitsL C O) x y) : Path (W0 C) x y := by
  induction h with
  | refl => exact .refl _
  | step h _ ih => exact .step ((mem_waits _ _ _ _).1 h).1 ih
/-- All that it waits for is committed. -/
def Can (C : It → Option CallD) (x : It) : Prop := ∀ y, Path (W0 C) x y → okC C y = true
structure RInv (C : It → Option CallD) (O : It → Bool) (done opn : List It) : Prop where
  o : ∀ y, O y = true ↔ y ∈ done
  nd : done.Nodup
  ok : ∀ y ∈ done, okC C y = true
  cl : ∀ y ∈ done, ∀ v ∈ W0 C y, v ∈ done
  pw : done.Pairwise fun a b => Path (W0 C) a b → Path (W0 C) b a ∧ beforeB C a b = true
  op : ∀ y, y ∈ opn ↔ okC C y = true ∧ y ∉ done
  so : opn.Pairwise fun a b => lessB a b = true
section
variable {C : It → Option CallD} {O : It → Bool} {done opn : List It}
theorem RInv.nil : RInv (fun _ => none) (fun _ => false) [] [] := ⟨by simp, by simp, by simp, by simp, by simp, by simp [okC], by simp⟩
theorem RInv.of (h : RInv C O done opn) {y : It} : O y = false ↔ y ∉ done := by rw [← h.o]; simp
theorem RInv.keep (h : RInv C O done opn) {x y : It} (hx : x ∈ done) (p : Path (W0 C) x y) : y ∈ done := Path.keep (Q := (· ∈ done)) (fun u v hu hv => h.cl u hu v hv) p hx
theorem RInv.can (h : RInv C O done opn) {x : It} (hx : x ∈ done) : Can C x := fun y p => h.ok y (h.keep hx p)
/-- A way to what isn't done goes by nothing that is done. -/
theorem RInv.path (h : RInv C O done opn) {x y : It} (p : Path (W0 C) x y) (hy : y ∉ done) : Path (waitsL C O) x y := by
  induction p with
  | refl => exact .refl _
  | step hv q ih =>
    refine .step ((mem_waits _ _ _ _).2 ⟨hv, ?_⟩) (ih hy)
    rw [h.of]
    exact fun hd => hy (h.keep hd q)
theorem less_nodup {l : List It} (h : l.Pairwise fun a b => lessB a b = true) : l.Nodup := h.imp fun {a b} hab e => by
  subst e
  rw [swoI.irrefl] at hab; cases hab
theorem RInv.on (h : RInv C O done opn) : opn.Nodup := less_nodup h.so
/-! ### Commit -/
theorem okC_put {C : It → Option CallD} {x : It} {c : CallD} (y : It) : okC (putC C x c) y = true ↔ y = x ∨ okC C y = true := by
  unfold okC putC
  by_cases h : y = x
  · simp [h]
  · simp [h]
theorem putC_ne {C : It → Option CallD} {x y : It} {c : CallD} (h : y ≠ x) : putC C x c y = C y := by unfold putC; rw [if_neg h]
theorem W0_put {C : It → Option CallD} {x y : It} {c : CallD} (h : y ≠ x) : W0 (putC C x c) y = W0 C y := by
  unfold W0 waitsL
  rw [putC_ne h]
theorem path_put {C : It → Option CallD} {done : List It} {x : It} {c : CallD} (hx : x ∉ done) (cl : ∀ y ∈ done, ∀ v ∈ W0 C y, v ∈ done) {a b : It} (ha : a ∈ done) : Path (W0 (putC C x c)) a b ↔ Path (W0 C) a b := by
  constructor
  · intro p
    induction p with
    | refl => exact .refl _
    | step h q ih =>
      rename_i u v z
      have hu : u ≠ x := fun e => hx (e ▸ ha)
      rw [W0_put hu] at h
      exact .step h (ih (cl _ ha _ h))
  · intro p
    induction p with
    | refl => exact .refl _
    | step h q ih =>
      rename_i u v z
      have hu : u ≠ x := fun e => hx (e ▸ ha)
      exact .step (by rw [W0_put hu]; exact h) (ih (cl _ ha _ h))
theorem RInv.commit (h : RInv C O done opn) {x : It} {c : CallD} (hc : C x = none) : RInv (putC C x c) O done (srtI (opn ++ [x])) := by
  have hox : okC C x = false := by unfold okC; rw [hc]; rfl
  have hxd : x ∉ done := fun hd => by rw [h.ok x hd] at hox; cases hox
  have hxo : x ∉ opn := fun ho => by rw [((h.op x).1 ho).1] at hox; cases hox
  refine ⟨h.o, h.nd, fun y hy => (okC_put y).2 (.inr (h.ok y hy)), fun y hy v hv => ?_, ?_, fun y => ?_, srtI_sorted _ ?_⟩
  · have hne : y ≠ x := fun e => hxd (e ▸ hy)
    rw [W0_put hne] at hv
    exact h.cl y hy v hv
  · refine h.pw.imp_of_mem fun {a b} ha hb hab p => ?_
    rw [path_put hxd h.cl ha] at p
    rw [path_put hxd h.cl hb]
    have hna : a ≠ x := fun e => hxd (e ▸ ha)
    have hnb : b ≠ x := fun e => hxd (e ▸ hb)
    obtain ⟨h1, h2⟩ := hab p
    refine ⟨h1, ?_⟩
    unfold beforeB at h2 ⊢
    rw [putC_ne hna, putC_ne hnb]
    exact h2
  · rw [(srtI_perm _).mem_iff, List.mem_append, List.mem_singleton, h.op, okC_put]
    constructor
    · rintro (⟨a, b⟩ | rfl)
      · exact ⟨.inr a, b⟩
      · exact ⟨.inl rfl, hxd⟩
    · rintro ⟨rfl | a, b⟩
      · exact .inr rfl
      · exact .inl ⟨a, b⟩
  · rw [List.nodup_append]
    exact ⟨h.on, by simp, fun a ha b hb e => hxo (by simp at hb; subst hb; exact e ▸ ha)⟩
/-! ### What Order answers -/
theorem path_end {C : It → Option CallD} {O : It → Bool} {x y : It} (p : Path (waitsL C O) x y) : y = x ∨ O y = false := by
  refine Path.keep (Q := fun y => y = x ∨ O y = false) ?_ p (.inl rfl)
  intro u v _ hv
  exact .inr ((mem_waits _ _ _ _).1 hv).2
theorem no_out (C : It → Option CallD) (O : It → Bool) : ∀ y, okC C y = false → waitsL C O y = [] := fun _ h => waitsL_none h
structure OrdF (C : It → Option CallD) (O : It → Bool) (done : List It) (x : It) (q missing : List It) : Prop where
  nd : q.Nodup
  ok : ∀ v ∈ q, okC C v = true ∧ v ∉ done
  cl : ∀ u ∈ q, ∀ v ∈ W0 C u, v ∈ done ∨ v ∈ q
  pw : q.Pairwise fun a b => Path (W0 C) a b → Path (W0 C) b a ∧ beforeB C a b = true
  can : okC C x = true → Can C x → x ∈ done ∨ x ∈ q
  mn : missing.Nodup
  mi : ∀ y, y ∈ missing ↔ (okC C x = true ∧ x ∉ done ∧ okC C y = false ∧ Path (W0 C) x y)
theorem RInv.ordered (h : RInv C O done opn) {x : It} {parts : List (List It)} {missing : List It} (ho : Ordered C O x parts missing) : OrdF C O done x parts.flatten missing := by
  rcases ho with ⟨h0, rfl, rfl⟩ | ⟨hc, hO, s, k, hk, hI, hF, hm⟩
  · have hx : okC C x = true → x ∈ done := fun hx => by
      rcases h0 with h0 | h0
      · unfold okC at hx; rw [h0] at hx; cases hx
      · exact (h.o x).1 h0
    exact ⟨by simp, by simp, by simp, by simp, fun hx' _ => .inl (hx hx'), by simp, fun y => by simp only [List.not_mem_nil, false_iff]; exact fun ⟨a, b, _⟩ => b (hx a)⟩
  · have hxd : x ∉ done := h.of.1 hO
    obtain ⟨r1, r2⟩ := over_reach hI hF (no_out C O)
    obtain ⟨r3, r4⟩ := over_order (before := fun a b => beforeB C a b = true) hI hF (no_out C O) (srtC_sorted C)
    have hmis : ∀ y, y ∈ s.missing ↔ (okC C x = true ∧ x ∉ done ∧ okC C y = false ∧ Path (W0 C) x y) := fun y => by
      rw [r2]
      constructor
      · rintro ⟨a, b⟩; exact ⟨hc, hxd, a, path_sub b⟩
      · rintro ⟨_, _, a, b⟩
        exact ⟨a, h.path b fun hd => by rw [h.ok y hd] at a; cases a⟩
    rcases hm with ⟨hne, rfl, rfl⟩ | ⟨he, rfl, rfl⟩
    · refine ⟨by simp, by simp, by simp, by simp, fun _ hcan => ?_, hI.mn, hmis⟩
      obtain ⟨y, hy⟩ := List.exists_mem_of_ne_nil _ hne
      obtain ⟨_, _, a, b⟩ := (hmis y).1 hy
      rw [hcan y b] at a; cases a
    · have hq : ∀ v ∈ s.parts.flatten, okC C v = true ∧ v ∉ done := fun v hv => by
        obtain ⟨a, b⟩ := (r1 v).1 hv
        refine ⟨a, h.of.1 ?_⟩
        rcases path_end b with rfl | e
        · exact hO
        · exact e
      refine ⟨r3, hq, fun u hu v hv => ?_, ?_, fun _ _ => .inr ((r1 x).2 ⟨hc, .refl _⟩), by simp, fun y => ?_⟩
      · by_cases hvd : v ∈ done
        · exact .inl hvd
        · right
          obtain ⟨a, b⟩ := (r1 u).1 hu
          have hpv : Path (waitsL C O) x v := b.snoc ((mem_waits _ _ _ _).2 ⟨hv, h.of.2 hvd⟩)
          refine (r1 v).2 ⟨?_, hpv⟩
          cases hok : okC C v with
          | true => rfl
          | false =>
            have := (r2 v).2 ⟨hok, hpv⟩
            rw [he] at this; cases this
      · refine r4.imp_of_mem fun {a b} ha hb hab p => ?_
        obtain ⟨h1, h2⟩ := hab (h.path p (hq b hb).2)
        exact ⟨path_sub h1, h2⟩
      · rw [← hmis, he]
/-! ### Going -/
theorem doneO_append (O : It → Bool) (n : Int) (p q : List It) : doneO (doneO O n p) n q = doneO O n (p ++ q) := by
  funext y
  unfold doneO
  by_cases h1 : y ∈ p <;> by_cases h2 : y ∈ q <;> cases O y <;> cases goodB y.1 y.2 n <;> simp [h1, h2]
theorem doneO_nil (O : It → Bool) (n : Int) : doneO O n [] = O := by
  funext y
  simp [doneO]
/-- What a run does when it goes: list, and what is done then. -/
noncomputable def goA (C : It → Option CallD) (n : Int) : List It → (It → Bool) → List It × (It → Bool)
  | [], O => ([], O)
  | x :: xs, O => ((orderP C O x).1.flatten ++ (goA C n xs (doneO O n (orderP C O x).1.flatten)).1, (goA C n xs (doneO O n (orderP C O x).1.flatten)).2)
theorem RInv.finish (h : RInv C O done opn) {n : Int} (hg : ∀ y, okC C y = true → goodB y.1 y.2 n = true) {x : It} {q missing : List It} (hq : OrdF C O done x q missing) : RInv C (doneO O n q) (done ++ q) (opn.filter fun y => !doneO O n q y) := by
  have ho : ∀ y, doneO O n q y = true ↔ y ∈ done ++ q := fun y => by
    unfold doneO
    simp only [Bool.or_eq_true, Bool.and_eq_true, decide_eq_true_eq, List.mem_append, h.o]
    constructor
    · rintro (a | ⟨a, _⟩)
      · exact .inl a
      · exact .inr a
    · rintro (a | a)
      · exact .inl a
      · exact .inr ⟨a, hg y (hq.ok y a).1⟩
  refine ⟨ho, ?_, ?_, ?_, ?_, fun y => ?_, h.so.filter _⟩
  · rw [List.nodup_append]
    exact ⟨h.nd, hq.nd, fun a ha b hb e => (hq.ok b hb).2 (e ▸ ha)⟩
  · intro y hy
    rcases List.mem_append.1 hy with hy | hy
    · exact h.ok y hy
    · exact (hq.ok y hy).1
  · intro y hy v hv
    rw [List.mem_append]
    rcases List.mem_append.1 hy with hy | hy
    · exact .inl (h.cl y hy v hv)
    · exact hq.cl y hy v hv
  · rw [List.pairwise_append]
    exact ⟨h.pw, hq.pw, fun a ha b hb p => absurd (h.keep ha p) (hq.ok b hb).2⟩
  · rw [List.mem_filter, h.op]
    simp only [Bool.not_eq_true']
    rw [show (doneO O n q y = false) ↔ y ∉ done ++ q by rw [← ho]; simp, List.mem_append]
    constructor
    · rintro ⟨⟨a, _⟩, b⟩; exact ⟨a, b⟩
    · rintro ⟨a, b⟩; exact ⟨⟨a, fun e => b (.inl e)⟩, b⟩
theorem RInv.go {n : Int} (hex : ∀ O x, ∃ p m, Ordered C O x p m) (hg : ∀ y, okC C y = true → goodB y.1 y.2 n = true) : ∀ (l : List It) {O : It → Bool} {done opn : List It}, RInv C O done opn →
    RInv C (goA C n l O).2 (done ++ (goA C n l O).1) (opn.filter fun y => !(goA C n l O).2 y) ∧ (∀ x ∈ l, okC C x = true → Can C x → x ∈ done ++ (goA C n l O).1)
  | [], O, done, opn, h => by
    refine ⟨?_, by simp⟩
    have : (opn.filter fun y => !(goA C n [] O).2 y) = opn := by
      rw [List.filter_eq_self]
      intro y hy
      have := ((h.op y).1 hy).2
      rw [← h.of] at this
      simpa [goA] using this
    rw [this]
    simpa [goA] using h
  | x :: xs, O, done, opn, h => by
    obtain ⟨p, m, ho⟩ := hex O x
    have he := ho.eq
    have hf := h.ordered ho
    obtain ⟨h1, h2⟩ := RInv.go hex hg xs (h.finish hg hf)
    have e1 : (goA C n (x :: xs) O).1 = p.flatten ++ (goA C n xs (doneO O n p.flatten)).1 := by rw [goA, he]
    have e2 : (goA C n (x :: xs) O).2 = (goA C n xs (doneO O n p.flatten)).2 := by rw [goA, he]
    rw [e1, e2, ← List.append_assoc]
    refine ⟨?_, fun y hy hok hc => ?_⟩
    · have e3 : ((opn.filter fun y => !doneO O n p.flatten y).filter fun y => !(goA C n xs (doneO O n p.flatten)).2 y) = opn.filter fun y => !(goA C n xs (doneO O n p.flatten)).2 y := by
        rw [List.filter_filter]
        refine List.filter_congr fun y hy => ?_
        cases hy2 : (goA C n xs (doneO O n p.flatten)).2 y with
        | true => simp
        | false =>
          simp only [Bool.not_false, Bool.true_and, Bool.not_eq_true']
          have a := h1.of.1 hy2
          have b : y ∉ done ++ p.flatten := fun e => a (List.mem_append_left _ e)
          exact (h.finish hg hf).of.2 b
      rw [e3] at h1
      exact h1
    · rcases List.mem_cons.1 hy with rfl | hy
      · refine List.mem_append_left _ ?_
        rw [List.mem_append]
        exact hf.can hok hc
      · exact h2 y hy hok hc
/-- Behind it what is done is all that can be. -/
theorem RInv.gone {n : Int} (hex : ∀ O x, ∃ p m, Ordered C O x p m) (hg : ∀ y, okC C y = true → goodB y.1 y.2 n = true) (h : RInv C O done opn) (y : It) : y ∈ done ++ (goA C n opn O).1 ↔ (okC C y = true ∧ Can C y) := by
  obtain ⟨h1, h2⟩ := RInv.go hex hg opn h
  refine ⟨fun hy => ⟨h1.ok y hy, h1.can hy⟩, fun ⟨a, b⟩ => ?_⟩
  by_cases hd : y ∈ done
  · exact List.mem_append_left _ hd
  · exact h2 y ((h.op y).2 ⟨a, hd⟩) a b
end
end Go.Proofs.Ytjocklgihjbaiaa
end
section
/- Sorting of nothing at all: a nil slice. -/
namespace Go.Proofs.Ytjocklgihjbaiaa
open Go.RowKit
section
variable (cv : Value) (w : World) (RR : Ending → World → Prop) (hR : ∀ w', Fr w w' → RR (.returned (.tuple #[])) w')
include hR
set_option maxRecDepth 10000 in
set_option maxHeartbeats 2000000 in
theorem insertion58_nil : Calls Try.prog 58 #[.slice none 0 0, .int .i64 (0 : Nat), .int .i64 (0 : Nat), cv] w RR := by
  refine e_enter (n := ⟨53, []⟩) Try.mixed Try.func58 Try.p58 Try.x58 Try.fb58 Try.hx58 Try.ok58 rfl rfl (by simp) ?_; simp only [Try.x58, argEnv, Nat.zero_add, Nat.reduceAdd]
  (refine e_seq fun K1 hK1 => ?_; refine e_region ?_; refine A_move ?_; refine A_addN1 ?_; refine A_assign ?_; refine a_next ?_; refine e_block ?_)
  refine e_loop Try.mixed Try.p58 Try.lp58ba Try.hx58bal Try.ok58bal (fun _ : Unit => [(2, .int .i64 (0 : Nat)), (8, .int .i64 (1 : Nat))]) (fun _ W => Fr w W) (fun _ => 0) () (by exact sub_) (by exact fr_) ?_
  rintro _ w2 hF2
  simp only [Try.x58bal]
  (refine e_seq fun K1 hK1 => ?_; refine e_seq fun K1 hK1 => ?_; refine e_region ?_; refine A_move ?_; refine A_move ?_; refine A_lss ?_; refine a_next ?_; 
     refine a_false ?_; refine e_exit_then ?_; refine e_exit_then ?_; refine e_exit_here ?_; refine a_end0 ?_)
  exact hR _ (by exact fr_)
set_option maxRecDepth 10000 in
set_option maxHeartbeats 2000000 in
theorem pdqsort48_nil (lim : Nat) : Calls Try.prog 48 #[.slice none 0 0, .int .i64 (0 : Nat), .int .i64 (0 : Nat), .int .i64 lim, cv] w RR := by
  refine e_enter (n := ⟨148, []⟩) Try.mixed Try.func48 Try.p48 Try.x48 Try.fb48 Try.hx48 Try.ok48 rfl rfl (by simp) ?_; simp only [Try.x48, argEnv, Nat.zero_add, Nat.reduceAdd]
  (refine e_seq fun K1 hK1 => ?_; refine e_region ?_; refine A_assign ?_; refine a_next ?_; refine e_seq fun K1 hK1 => ?_; refine e_region ?_; refine A_assign ?_; 
     refine a_next ?_; refine e_block ?_)
  refine e_loop Try.mixed Try.p48 Try.lp48bba Try.hx48bbal Try.ok48bbal (fun _ : Unit => [(0, .slice none 0 0), (1, .int .i64 (0 : Nat)), (2, .int .i64 (0 : Nat)), (3, .int .i64 lim), (4, cv), (10, .bool true), (11, .bool true)]) (fun _ W => Fr w W) (fun _ => 0) () (by exact sub_) (by exact fr_) ?_
  rintro _ w2 hF2
  simp only [Try.x48bbal]
  (refine e_block ?_; refine e_seq fun K1 hK1 => ?_; refine e_region ?_; refine A_move ?_; refine A_move ?_; refine A_subN ?_; refine A_assign ?_; refine a_next ?_; 
     refine e_seq fun K1 hK1 => ?_; refine e_seq fun K1 hK1 => ?_; refine e_region ?_; refine A_move ?_; refine A_leq ?_; refine a_next ?_; refine a_true ?_; 
     refine e_seq fun K1 hK1 => ?_; refine e_region ?_; refine A_move ?_; refine A_move ?_; refine A_move ?_; refine A_move ?_)
  (with_reducible apply E_call); rfl; exact Try.en58; rfl; intro RR1 hRR1
  refine insertion58_nil _ _ _ fun w3 hF3 => ?_
  refine hRR1 _ _ (by first | assumption | exact trivial) (Nat.le_of_ble_eq_true rfl) ?_; clear hRR1 RR1
  (refine a_next ?_; refine e_ret_then ?_; refine e_ret_block ?_; refine e_ret_then ?_; refine e_ret_block ?_; refine a_ret0 ?_)
  exact hR _ (by exact fr_)
set_option maxRecDepth 10000 in
set_option maxHeartbeats 2000000 in
theorem sortFunc27_nil : Calls Try.prog 27 #[.slice none 0 0, cv] w RR := by
  refine e_enter (n := ⟨14, []⟩) Try.mixed Try.func27 Try.p27 Try.x27 Try.fb27 Try.hx27 Try.ok27 rfl rfl (by simp) ?_; simp only [Try.x27, argEnv, Nat.zero_add, Nat.reduceAdd]
  (refine e_seq fun K1 hK1 => ?_; refine e_region ?_; refine A_move ?_; refine A_lenS ?_; refine A_assign ?_; refine a_next ?_; refine e_region ?_; refine A_move ?_; 
     refine A_move ?_; refine A_move ?_)
  refine E_conv (j := ((0 : Nat) : Int)) rfl (by rw [und3]; rfl) und83 (by rw [IntKind.wrap_u64]; omega) (Nat.le_of_ble_eq_true rfl) ?_
  (with_reducible apply E_call); rfl; exact Try.en49; rfl; intro RR1 hRR1
  refine bitsLen49 0 (by omega) _ _ ?_
  refine hRR1 _ _ (by first | assumption | exact trivial) (Nat.le_of_ble_eq_true rfl) ?_; clear hRR1 RR1
  refine A_move ?_
  (with_reducible apply E_call); rfl; exact Try.en48; rfl; intro RR1 hRR1
  refine pdqsort48_nil (lim := Sort.bitsLen 0) _ _ _ fun w3 hF3 => ?_
  refine hRR1 _ _ (by first | assumption | exact trivial) (Nat.le_of_ble_eq_true rfl) ?_; clear hRR1 RR1
  (refine e_norm_nil ?_; refine a_end0 ?_)
  exact hR _ (by exact fr_)
end
end Go.Proofs.Ytjocklgihjbaiaa
end
section
/- Runs: Missing. -/
namespace Go.Proofs.Ytjocklgihjbaiaa
open Go.RowKit PT
section
variable {C : It → Option CallD} {O : It → Bool} {n : Int}
theorem univ_len : (itemsOf fun _ => 64).length ≤ 448 := by
  have h2 := upTo_length (fun _ => 64) (fun _ _ => Int.le_refl _) 7 (Nat.le_refl _)
  unfold itemsOf
  omega
theorem path_univ (hdep : ∀ y i, i < 7 → depOf (C y) i ≤ 64) {x y : It} (p : Path (W0 C) x y) : y = x ∨ y ∈ itemsOf fun _ => 64 := by
  refine Path.keep (Q := fun y => y = x ∨ y ∈ itemsOf fun _ => 64) ?_ p (.inl rfl)
  intro u v _ hv
  right
  have hv' := (mem_W0 _ _ _).1 hv
  rw [mem_itemsOf]
  have := hdep u v.1.toNat (by omega)
  omega
theorem miss_univ (hdep : ∀ y i, i < 7 → depOf (C y) i ≤ 64) {x : It} {p : List (List It)} {m : List It} (h : Ordered C O x p m) : ∀ y ∈ m, y ∈ itemsOf fun _ => 64 := by
  rcases h with ⟨_, _, rfl⟩ | ⟨hc, _, s, k, _, hI, _, ⟨_, _, rfl⟩ | ⟨_, _, rfl⟩⟩
  · intro y hy; cases hy
  · intro y hy
    obtain ⟨h1, h2⟩ := hI.mi y hy
    refine (path_univ hdep (path_sub h2)).resolve_left fun e => ?_
    subst e
    unfold okC at h1
    rw [hc] at h1; cases h1
  · intro y hy; cases hy
theorem ordered_ex (hdep : ∀ y i, i < 7 → depOf (C y) i ≤ 64) (hg : ∀ y, okC C y = true → goodB y.1 y.2 n = true) (hn : n ≤ 7) (O : It → Bool) (x : It) : ∃ p m, Ordered C O x p m := by
  cases hc : (C x).isSome with
  | false => exact ⟨[], [], .inl ⟨.inl (by simpa using hc), rfl, rfl⟩⟩
  | true =>
    cases hO : O x with
    | true => exact ⟨[], [], .inl ⟨.inr hO, rfl, rfl⟩⟩
    | false =>
      have hlen : ∀ s : WSt, PT.Inv (okC C) (waitsL C O) (srtC C) x s → s.V.length ≤ 448 := fun s hI =>
        Nat.le_trans (PT.nodup_le s.V (itemsOf fun _ => 64) hI.nd fun y hy => good_univ hn (hg y (hI.oks y hy).1)) univ_len
      have key : ∀ (m : Nat) (s : WSt) (k : Nat), s.left 500 448 = m → s = PT.iterS (okC C) (waitsL C O) (srtC C) k (PT.St.init (waitsL C O) x) → PT.Inv (okC C) (waitsL C O) (srtC C) x s →
          ∃ (s : WSt) (k : Nat), s = PT.iterS (okC C) (waitsL C O) (srtC C) k (PT.St.init (waitsL C O) x) ∧ PT.Inv (okC C) (waitsL C O) (srtC C) x s ∧ s.FR = [] := by
        intro m
        induction m using Nat.strongRecOn with
        | _ m ih =>
          intro s k hm hs hI
          by_cases hF : s.FR = []
          · exact ⟨s, k, hs, hI, hF⟩
          · have hI' := PT.inv_step (srtC_perm C) hI
            refine ih _ ?_ _ (k + 1) rfl ?_ hI'
            · rw [← hm]
              exact PT.left_step (fun y => by have := waitsL_len (C := C) (O := O) (hdep y); omega) hI' (hlen _ hI') hF
            · rw [PT.iterS_add, ← hs]; rfl
      obtain ⟨s, k, hs, hI, hF⟩ := key _ _ 0 rfl rfl (PT.inv_init hc)
      by_cases hm : s.missing = []
      · exact ⟨s.parts, [], .inr ⟨hc, hO, s, k, hs, hI, hF, .inr ⟨hm, rfl, rfl⟩⟩⟩
      · exact ⟨[], s.missing, .inr ⟨hc, hO, s, k, hs, hI, hF, .inl ⟨hm, rfl, rfl⟩⟩⟩
end
section
variable {w : World} {br : Nat} {n : Int} {C : It → Option CallD} {O : It → Bool} {done opn : List It} {S : Nat → Prop} (RR : Ending → World → Prop)
/-- What is gathered. -/
structure Gath (w W : World) (v : Value) (out : List It) : Prop where
  fr : Fr w W
  sl : Sl W 27 2 itL v out
  own : ∀ g, v.ownBlock = some g → w.heap.size ≤ g
  nd : out.Nodup
  un : ∀ y ∈ out, y ∈ itemsOf fun _ => 64
  nil : out = [] → v = .slice none 0 0
theorem Gath.len {w W : World} {v : Value} {out : List It} (h : Gath w W v out) : out.length ≤ 448 := Nat.le_trans (PT.nodup_le _ _ h.nd h.un) univ_len
theorem Gath.more {w W W' : World} {v : Value} {out : List It} (h : Gath w W v out) (hF : Fr W W') : Gath w W' v out := ⟨h.fr.trans hF, h.sl.fr hF, h.own, h.nd, h.un, h.nil⟩
set_option maxRecDepth 10000 in
set_option maxHeartbeats 4000000 in
theorem missing13 (h : RunAt w br n C O done opn S) (hl : opn.length ≤ 1000) (hdep : ∀ y i, i < 7 → depOf (C y) i ≤ 64)
    (hR : ∀ v' w' out, Fr w w' → out.Nodup → (∀ y, y ∈ out ↔ ∃ x ∈ opn, y ∈ (orderP C O x).2) → Sl w' 27 2 itL v' (srtI out) → (∀ g, v'.ownBlock = some g → w.heap.size ≤ g) → RR (.returned v') w') :
    Calls Try.prog 13 #[.pointer (some ⟨br, 0, none⟩)] w RR := by
  obtain ⟨bg, vd, vo, F, h⟩ := h
  have hb := h.blk
  obtain ⟨po, co, rfl⟩ := h.so.value
  refine e_enter (n := ⟨49, []⟩) Try.mixed Try.func13 Try.p13 Try.x13 Try.fb13 Try.hx13 Try.ok13 rfl rfl (by simp) ?_; simp only [Try.x13, argEnv, Nat.zero_add, Nat.reduceAdd]
  (refine e_seq fun K1 hK1 => ?_; refine e_region ?_; refine A_assign ?_; refine a_next ?_; refine e_seq fun K1 hK1 => ?_; refine e_seq fun K1 hK1 => ?_; refine e_region ?_; 
     refine A_move ?_; refine A_eqlnil ?_; refine a_next ?_; refine a_false ?_; refine a_nextC ?_; refine e_seq fun K1 hK1 => ?_; refine e_region ?_; refine A_assign ?_; 
     refine a_next ?_; refine e_seq fun K1 hK1 => ?_; refine e_seq fun K1 hK1 => ?_; refine e_region ?_; refine A_move ?_; refine A_nil ?_; refine A_field ?_; refine A_load ?_; 
     refine A_lenS ?_; refine A_move ?_; refine a_next ?_; refine e_block ?_)
  refine e_loop Try.mixed Try.p13 Try.lp13bbbaba Try.hx13bbbabal Try.ok13bbbabal (fun q : Nat × Value × List It => [(0, .pointer (some ⟨br, 0, none⟩)), (3, q.2.1), (15, .slice po opn.length co), (16, .int .i64 opn.length), (17, .int .i64 q.1)])
    (fun q W => q.1 ≤ opn.length ∧ Gath w W q.2.1 q.2.2 ∧ ∀ y, y ∈ q.2.2 ↔ ∃ x ∈ opn.take q.1, y ∈ (orderP C O x).2) (fun q => opn.length - q.1) (0, .slice none 0 0, []) (by exact sub_)
    ⟨Nat.zero_le _, ⟨by exact fr_, Sl.nil, fun g hg => (by cases hg), by simp, by simp, fun _ => rfl⟩, by simp⟩ ?_
  rintro ⟨i, v3, out⟩ w2 ⟨hi, hga, hmem⟩
  simp only at hi hga hmem
  have hz2 := hga.fr.size
  simp only [Try.x13bbbabal]
  by_cases hlt : i < opn.length
  · obtain ⟨x, hx⟩ : ∃ x, opn[i]? = some x := ⟨_, List.getElem?_eq_getElem hlt⟩
    obtain ⟨g2, c2, e2, _, hr⟩ := (h.so.fr hga.fr).at_ itL_len hx
    injection e2 with e2 _ e3
    subst e2 e3
    have hra : w2.rangeAt g2 (i * 2) (itA x).toList := hr
    have hb2 := hb.fr hga.fr
    (refine e_seq fun K1 hK1 => ?_; refine e_region ?_; refine A_lss ?_; refine a_next ?_; refine e_seq fun K1 hK1 => ?_; refine a_true ?_; refine a_nextC ?_; 
       refine e_seq fun K1 hK1 => ?_; refine e_block ?_; refine e_seq fun K1 hK1 => ?_; refine e_region ?_; refine A_idxS ?_; refine A_loads ?_; 
       refine A_alloc fun b1 w1 hF1 hN1 hB1 => ?_; have hz1 := hF1.size; obtain ⟨hn1, hl1⟩ := hN1; refine A_storeW fun w1 hU1 hB1 => ?_; refine a_next ?_; 
       refine e_seq fun K1 hK1 => ?_)
    have ⟨b5, hb5⟩ : ∃ b5, b5 = b1 := ⟨_, rfl⟩
    subst hb5
    have hB5 : Blk w1 b5 27 (itA x) := by exact blk_
    have hFc : Fr w2 w1 := by exact fr_
    clear hF1 hB1
    ((with_reducible apply e_drawn); (focus (intro _ _ _ d1 _ h1; cases d1 <;> exact h1)); intro w1 hF1; have hz1 := hF1.size)
    have hB52 := hB5.fr hF1
    have hFa : Fr w2 w1 := hFc.trans hF1
    have hb3 := hb2.fr hFa
    have hza := hFa.size
    clear hF1 hFc
    (refine A_move ?_; refine A_nil ?_; refine A_field ?_; refine A_load ?_; refine A_loadW ?_)
    (with_reducible apply E_call); rfl; exact Try.en31; rfl; intro RR1 hRR1
    refine order31 x _ _ (h.g.fr (hga.fr.trans hFa)) hdep fun w4 vp vm parts missing hF4 ho hP hM hMo => ?_
    have hz4 := hF4.size
    refine hRR1 _ _ (by first | assumption | exact trivial) (Nat.le_of_ble_eq_true rfl) ?_; clear hRR1 RR1
    have he := ho.eq
    have hu := miss_univ hdep ho
    have hmm : (orderP C O x).2 = missing := by rw [he]
    obtain ⟨pm, cm, rfl⟩ := hM.value
    have hga4 := hga.more (hFa.trans hF4)
    have hb4 := hb3.fr hF4
    (refine A_move ?_; refine A_extract ?_; refine A_extract ?_; refine A_assign ?_; refine A_assign ?_; refine a_next ?_; refine e_seq fun K1 hK1 => ?_; refine e_region ?_; 
       refine A_move ?_; refine A_lenS ?_; refine A_move ?_; refine a_next ?_; refine e_block ?_)
    refine e_loop Try.mixed Try.p13 Try.lp13bbbabalbbaabbba Try.hx13bbbabalbbaabbbal Try.ok13bbbabalbbaabbbal (fun q : Nat × Value × List It => [(0, .pointer (some ⟨br, 0, none⟩)), (3, q.2.1), (15, .slice (some ⟨g2, 0, none⟩) opn.length co), (16, .int .i64 opn.length), (17, .int .i64 i), (30, .slice pm missing.length cm), (31, .int .i64 missing.length), (32, .int .i64 q.1)])
      (fun q W => q.1 ≤ missing.length ∧ Gath w W q.2.1 q.2.2 ∧ Sl W 27 2 itL (.slice pm missing.length cm) missing ∧ (∀ g, (Value.slice pm missing.length cm).ownBlock = some g → q.2.1.ownBlock ≠ some g) ∧
        ∀ y, y ∈ q.2.2 ↔ (∃ x ∈ opn.take i, y ∈ (orderP C O x).2) ∨ y ∈ missing.take q.1) (fun q => missing.length - q.1) (0, v3, out) (by exact sub_)
      ⟨Nat.zero_le _, hga4.more (by exact fr_), hM.fr (by exact fr_), fun g hg e => by have := hMo g hg; have := hga.sl.lt e; omega, by simpa using hmem⟩ ?_
    clear hga hmem hga4 hM hra hr hb2 hb3 hb4 hFa hF4 hP
    rintro ⟨j, v3, out⟩ w5 ⟨hj, hga, hM, hsep, hmem⟩
    simp only at hj hga hmem hsep
    have hz5 := hga.fr.size
    have hml := hM.len_le
    simp only [Try.x13bbbabalbbaabbbal]
    by_cases hlj : j < missing.length
    · obtain ⟨y, hy⟩ : ∃ y, missing[j]? = some y := ⟨_, List.getElem?_eq_getElem hlj⟩
      obtain ⟨g6, c6, e6, hg6, hr6⟩ := hM.at_ itL_len hy
      injection e6 with e6 _ e7
      subst e6 e7
      have hra : w5.rangeAt g6 (j * 2) (itA y).toList := hr6
      (refine e_seq fun K1 hK1 => ?_; refine e_region ?_; refine A_lss ?_; refine a_next ?_; refine e_seq fun K1 hK1 => ?_; refine a_true ?_; refine a_nextC ?_; 
         refine e_seq fun K1 hK1 => ?_; refine e_block ?_; refine e_seq fun K1 hK1 => ?_; refine e_region ?_; refine A_idxS ?_; refine A_loads ?_; 
         refine A_alloc fun b1 w1 hF1 hN1 hB1 => ?_; have hz1 := hF1.size; obtain ⟨hn1, hl1⟩ := hN1; refine A_storeW fun w1 hU1 hB1 => ?_; refine a_next ?_; 
         refine e_seq fun K1 hK1 => ?_; refine e_region ?_; refine A_move ?_; refine A_loadW ?_)
      have ⟨b9, hb9⟩ : ∃ b9, b9 = b1 := ⟨_, rfl⟩
      subst hb9
      have hB91 : Blk w1 b9 27 (itA y) := by exact blk_
      have hFa : Fr w5 w1 := by exact fr_
      (with_reducible apply E_call); rfl; exact Try.en32; rfl; intro RR1 hRR1
      refine contains32 y v3 out _ _ ((hga.more hFa).sl.rd) fun w6 hF6 => ?_
      have hz6 := hF6.size
      obtain ⟨bm, hbm⟩ : ∃ bm : Bool, decide (y ∈ out) = bm := ⟨_, rfl⟩
      rw [hbm]
      refine hRR1 _ _ (by first | assumption | exact trivial) (Nat.le_of_ble_eq_true rfl) ?_; clear hRR1 RR1
      have hB96 := hB91.fr hF6
      have hga6 := hga.more (hFa.trans hF6)
      have hM6 := (hM.fr hFa).fr hF6
      have hzA := hFa.size
      clear hF1 hB1 hB91
      have htk : missing.take (j + 1) = missing.take j ++ [y] := by rw [List.take_add_one, hy]; rfl
      obtain ⟨p3, c3, hv3⟩ := hga.sl.value
      cases bm with
      | true =>
        have hmy : y ∈ out := of_decide_eq_true hbm
        (refine A_not ?_; refine a_next ?_; refine a_false ?_; refine e_norm_skip ?_; refine e_norm_block ?_; refine a_norm_then ?_; refine e_region ?_; refine A_add ?_; 
           refine A_move ?_; refine e_norm_nil ?_)
        refine e_againN (j + 1, v3, out) (by show missing.length - (j + 1) < missing.length - j; omega) ⟨hlj, hga6, hM6, hsep, fun z => ?_⟩ rfl (by exact sub_)
        show z ∈ out ↔ _
        rw [hmem, htk, List.mem_append, List.mem_singleton, ← or_assoc, ← hmem]
        constructor
        · exact .inl
        · rintro (a | rfl)
          · exact a
          · exact hmy
      | false =>
        have hmy : y ∉ out := of_decide_eq_false hbm
        (refine A_not ?_; refine a_next ?_; refine a_true ?_; refine e_region ?_; refine A_move ?_; refine A_loadW ?_)
        refine E_lit1 rfl rfl sty39 rfl (by decide) ?_
        intro b7 w7 hF7 hN7 hB7
        have hz7 := hF7.size
        obtain ⟨hn7, hl7⟩ := hN7
        have hol := hga6.len
        have hga7 := hga6.more hF7
        refine E_append (v := v3) (m := out.length) (xs := cellsOf itL out) (news := itL y) rfl rfl rfl sty39 hga7.sl rfl (Blk.range (cs := itA y) hB7) (itL_one y) (by omega) (by omega) (fun _ _ => trivial) (by decide) ?_
        intro vm' w8 hC8 hR8 hO8
        have hz8 := hC8.size
        (refine A_assign ?_; refine e_norm_nil ?_; refine e_norm_block ?_; refine a_norm_then ?_; refine e_region ?_; refine A_add ?_; refine A_move ?_; refine e_norm_nil ?_)
        refine e_againN (j + 1, vm', out ++ [y]) (by show missing.length - (j + 1) < missing.length - j; omega) ⟨hlj, ⟨hga7.fr.more hC8 hga7.own, ?_, ?_, ?_, ?_, ?_⟩, (hM6.fr hF7).ch hC8 (fun k hk e => hsep k hk e), ?_, fun z => ?_⟩ rfl (by exact sub_)
        · show Sl w8 27 2 itL vm' (out ++ [y])
          unfold Sl
          rw [cellsOf_append, List.length_append]
          simpa [cellsOf] using hR8
        · intro k hk
          rcases hO8 k hk with e | e
          · exact hga.own k e
          · omega
        · show (out ++ [y]).Nodup
          rw [List.nodup_append]
          exact ⟨hga.nd, by simp, fun a ha b hb e => hmy (by simp at hb; subst hb; exact e ▸ ha)⟩
        · intro z hz
          rcases List.mem_append.1 hz with hz | hz
          · exact hga.un z hz
          · simp only [List.mem_singleton] at hz
            subst hz
            exact hu z (List.mem_of_getElem? hy)
        · intro e
          simp at e
        · intro k hk e
          rcases hO8 k e with e | e
          · exact hsep k hk e
          · have := own_sl hk
            omega
        · show z ∈ out ++ [y] ↔ _
          rw [List.mem_append, hmem, htk, List.mem_append, List.mem_singleton, or_assoc]
    · (refine e_seq fun K1 hK1 => ?_; refine e_region ?_; refine A_lss ?_; refine a_next ?_; refine e_seq fun K1 hK1 => ?_; refine a_false ?_; refine e_exit_then ?_; 
       refine e_exit_then ?_; refine e_exit_here ?_; refine e_norm_block ?_; refine a_norm_then ?_; refine e_region ?_; refine A_add ?_; refine A_move ?_; refine e_norm_nil ?_)
      have hjm : j = missing.length := by omega
      refine e_againN (i + 1, v3, out) (by show opn.length - (i + 1) < opn.length - i; omega) ⟨hlt, hga.more (by exact fr_), fun z => ?_⟩ rfl (by exact sub_)
      show z ∈ out ↔ _
      rw [hmem, hjm, List.take_length, List.take_add_one, hx]
      constructor
      · rintro (⟨a, ha, hb⟩ | hb)
        · exact ⟨a, List.mem_append_left _ ha, hb⟩
        · exact ⟨x, List.mem_append_right _ (by simp), by rw [hmm]; exact hb⟩
      · rintro ⟨a, ha, hb⟩
        rcases List.mem_append.1 ha with ha | ha
        · exact .inl ⟨a, ha, hb⟩
        · simp at ha
          subst ha
          rw [hmm] at hb
          exact .inr hb
  · have hie : i = opn.length := by omega
    subst hie
    rw [List.take_length] at hmem
    have hol := hga.len
    (refine e_seq fun K1 hK1 => ?_; refine e_region ?_; refine A_lss ?_; refine a_next ?_; refine e_seq fun K1 hK1 => ?_; refine a_false ?_; refine e_exit_then ?_; 
       refine e_exit_then ?_; refine e_exit_here ?_; refine a_norm_then ?_; refine e_seq fun K1 hK1 => ?_; refine e_region ?_; refine A_move ?_)
    (with_reducible apply E_call); rfl; exact Try.en27; rfl; intro RR1 hRR1
    by_cases hn : out = []
    · subst hn
      have := hga.nil rfl
      subst this
      refine sortFunc27_nil _ _ _ fun w9 hF9 => ?_
      refine hRR1 _ _ (by first | assumption | exact trivial) (Nat.le_of_ble_eq_true rfl) ?_; clear hRR1 RR1
      (refine a_next ?_; refine e_seq fun K1 hK1 => ?_; refine e_region ?_; refine A_move ?_; refine A_assign ?_; refine a_next ?_; refine a_ret1 ?_)
      refine hR _ _ [] (hga.fr.trans (by exact fr_)) (by simp) hmem ?_ (fun g hg => (by cases hg))
      rw [show srtI [] = [] from by unfold srtI; simp]
      exact Sl.nil
    · refine sort33 _ v3 out _ hga.sl (by omega) hn fun w9 hs9 hC9 => ?_
      have hz9 := hC9.size
      refine hRR1 _ _ (by first | assumption | exact trivial) (Nat.le_of_ble_eq_true rfl) ?_; clear hRR1 RR1
      (refine a_next ?_; refine e_seq fun K1 hK1 => ?_; refine e_region ?_; refine A_move ?_; refine A_assign ?_; refine a_next ?_; refine a_ret1 ?_)
      exact hR _ _ out ((hga.fr.more hC9 hga.own).trans (by exact fr_)) hga.nd hmem (hs9.fr (by exact fr_)) hga.own
end
end Go.Proofs.Ytjocklgihjbaiaa
end
section
/- Runs: Go: what it does, then tells. -/
namespace Go.Proofs.Ytjocklgihjbaiaa
open Go.RowKit PT
def goEnc (C : It → Option CallD) (x : It) : Array Value := #[itV x, .agg (callO (C x))]
/-- What befalls the world ahead of the first thing that is told. -/
def WentTo (br : Nat) (n : Int) (C : It → Option CallD) (O : It → Bool) (done opn : List It) (S : Nat → Prop) (W1 V : World) : Prop :=
  ∃ S', RunAt V br n C (goA C n opn O).2 (done ++ (goA C n opn O).1) (opn.filter fun y => !(goA C n opn O).2 y) S' ∧ (∀ g, S' g → S g ∨ W1.heap.size ≤ g) ∧ Ch S W1 V
theorem filter_done (O : It → Bool) (n : Int) (p : List It) (l : List It) : ((l.filter fun y => !O y).filter fun y => !doneO O n p y) = l.filter fun y => !doneO O n p y := by
  rw [List.filter_filter]
  refine List.filter_congr fun y _ => ?_
  unfold doneO
  cases O y <;> simp
theorem RunAt.isBlk {w : World} {br : Nat} {n : Int} {C : It → Option CallD} {O : It → Bool} {done opn : List It} {S : Nat → Prop} (h : RunAt w br n C O done opn S) {k : Nat} (hk : S k) : ∃ t cs, Blk w k t cs := by
  obtain ⟨bg, vd, vo, F, h⟩ := h
  rcases (h.foot k).1 hk with rfl | e | e | e
  · exact ⟨_, _, h.blk⟩
  · obtain ⟨t, cs, hb, _⟩ := h.g.ty2 e
    exact ⟨t, cs, hb⟩
  · obtain ⟨cs, hb⟩ := slt h.sd e
    exact ⟨_, _, hb⟩
  · obtain ⟨cs, hb⟩ := slt h.so e
    exact ⟨_, _, hb⟩
/-- In the midst of what a run does: l is done by now; vl: the slice of that; v20: the slice of those that were open. -/
structure GoM (W1 W : World) (br : Nat) (n : Int) (C : It → Option CallD) (done opn : List It) (S S' : Nat → Prop) (v20 vl : Value) (l : List It) (Ot : It → Bool) : Prop where
  run : RunAt W br n C Ot (done ++ l) (opn.filter fun y => !Ot y) S'
  sub : ∀ g, S' g → S g ∨ W1.heap.size ≤ g
  nl : ∀ k, vl.ownBlock = some k → ¬ S' k
  ns : ∀ k, v20.ownBlock = some k → ¬ S' k
  ch : Ch S W1 W
  sl : Sl W 27 2 itL vl l
  ol : ∀ k, vl.ownBlock = some k → W1.heap.size ≤ k
  sn : Sl W 27 2 itL v20 opn
  os : ∀ k, v20.ownBlock = some k → W1.heap.size ≤ k ∧ vl.ownBlock ≠ some k
theorem GoM.more {W1 W W' : World} {br : Nat} {n : Int} {C : It → Option CallD} {done opn : List It} {S S' : Nat → Prop} {v20 vl : Value} {l : List It} {Ot : It → Bool} (h : GoM W1 W br n C done opn S S' v20 vl l Ot) (hF : Fr W W') : GoM W1 W' br n C done opn S S' v20 vl l Ot :=
  ⟨h.run.fr hF, h.sub, h.nl, h.ns, h.ch.trans_fr hF, h.sl.fr hF, h.ol, h.sn.fr hF, h.os⟩
section
variable {w : World} {br b : Nat} {n : Int} {C : It → Option CallD} {O : It → Bool} {done opn : List It} {S T : Nat → Prop}
theorem go17 (RR : Ending → World → Prop) (v : Value) (w : World) (hv : v.cells = #[v]) (hR : ∀ b w', Fr w w' → NewB w w' b → Blk w' b 36 #[v] → RR (.returned (.func (.func 34) #[] #[.pointer (some ⟨b, 0, none⟩)])) w') : Calls Try.prog 17 #[v] w RR := by
  refine e_enter (n := ⟨4, []⟩) Try.mixed Try.func17 Try.p17 Try.x17 Try.fb17 Try.hx17 Try.ok17 rfl rfl (by simp) ?_; simp only [Try.x17, argEnv, Nat.zero_add, Nat.reduceAdd]
  refine e_seq ?_
  intro K1 hK1
  refine e_region ?_
  refine E_box rfl rfl hv (Nat.le_of_ble_eq_true rfl) fun b1 w1 hF1 hN1 hB1 => ?_
  (refine A_assign ?_; refine a_next ?_; refine e_seq fun K1 hK1 => ?_; refine e_region ?_; refine A_makeFunc ?_; refine A_assign ?_; refine a_next ?_; refine a_ret1 ?_)
  exact hR b1 w1 hF1 hN1 hB1
set_option maxRecDepth 10000 in
set_option maxHeartbeats 8000000 in
theorem go34 (h : RunAt w br n C O done opn S) (hI : RInv C O done opn) (hb : Blk w b 36 #[.pointer (some ⟨br, 0, none⟩)]) (hbS : ¬ S b) (hT : ∀ k, T k → k < w.heap.size ∧ ¬ S k ∧ k ≠ b)
    (hdep : ∀ y i, i < 7 → depOf (C y) i ≤ 64) : Iter2 Try.prog 34 #[.pointer (some ⟨b, 0, none⟩)] (goEnc C) (goA C n opn O).1 (WentTo br n C O done opn S) T w := by
  intro ly J Jx W1 hF1' hJ hJx hY h0 hTT
  have hgood : ∀ y, okC C y = true → goodB y.1 y.2 n = true := fun y hy => h.good (by intro e; unfold okC at hy; rw [e] at hy; cases hy)
  have hn7 : n ≤ 7 := by
    obtain ⟨bg, vd, vo, F, h⟩ := h
    exact h.g.reps.2
  have hex := ordered_ex hdep hgood hn7
  have hcount : ∀ (O' : It → Bool) (d o : List It), RInv C O' d o → d.length + o.length ≤ 448 := fun O' d o hi => by
    have := PT.nodup_le (d ++ o) (itemsOf fun _ => 64) (by
      rw [List.nodup_append]
      exact ⟨hi.nd, hi.on, fun a ha c hc e => ((hi.op c).1 hc).2 (e ▸ ha)⟩) (fun y hy => by
      rcases List.mem_append.1 hy with hy | hy
      · exact good_univ hn7 (hgood y (hi.ok y hy))
      · exact good_univ hn7 (hgood y ((hi.op y).1 hy).1))
    rw [List.length_append] at this
    exact Nat.le_trans this univ_len
  have hc0 := hcount _ _ _ hI
  obtain ⟨bg, vd, vo, F, hm⟩ := h
  have hbW := hb.fr hF1'
  have hmW := hm.fr hF1'
  have hzW := hF1'.size
  have hlb := hb.lt
  have hrb := hmW.blk
  refine e_enter (n := ⟨70, []⟩) Try.mixed Try.func34 Try.p34 Try.x34 Try.fb34 Try.hx34 Try.ok34 rfl rfl (by simp) ?_; simp only [Try.x34, argEnv, Nat.zero_add, Nat.reduceAdd]
  (refine e_seq fun K1 hK1 => ?_; refine e_seq fun K1 hK1 => ?_; refine e_region ?_; refine A_load ?_; refine A_eqlnil ?_; refine a_next ?_; refine a_false ?_; 
     refine a_nextC ?_; refine e_seq fun K1 hK1 => ?_; refine e_region ?_; refine A_assign ?_; refine a_next ?_; refine e_seq fun K1 hK1 => ?_; refine e_seq fun K1 hK1 => ?_; 
     refine e_region ?_; refine A_load ?_; refine A_nil ?_; refine A_field ?_; refine A_load ?_)
  (with_reducible apply E_call); rfl; exact Try.en30; rfl; intro RR1 hRR1
  refine clone30 vo opn _ _ (hmW.so.rd.fr (by exact fr_)) (by omega) fun v20 w2 hF2 hv20 hvo20 => ?_
  have hz2 := hF2.size
  refine hRR1 _ _ (by first | assumption | exact trivial) (Nat.le_of_ble_eq_true rfl) ?_; clear hRR1 RR1
  obtain ⟨p20, c20, rfl⟩ := hv20.value
  have hopn : opn.filter (fun y => !O y) = opn := by
    rw [List.filter_eq_self]
    intro y hy
    have := ((hI.op y).1 hy).2
    rw [← hI.of] at this
    simp [this]
  have hF12 : Fr W1 w2 := by exact fr_
  have hM0 : GoM W1 w2 br n C done opn S S (.slice p20 opn.length c20) (.slice none 0 0) [] O := by
    refine ⟨?_, fun _ e => .inl e, fun k e => (by cases e), fun k e hs => ?_, hF12.ch _, Sl.nil, fun k e => (by cases e), hv20, fun k e => ⟨by have := hvo20 k e; omega, fun e' => by cases e'⟩⟩
    · rw [hopn, List.append_nil]
      exact ⟨bg, vd, vo, F, hmW.fr hF12⟩
    · have := hvo20 k e
      have := hmW.lt hs
      omega
  (refine A_lenS ?_; refine A_move ?_; refine a_next ?_; refine e_block ?_)
  refine e_loop Try.mixed Try.p34 Try.lp34bbaba Try.hx34bbabal Try.ok34bbabal (fun q : Nat × Value × List It × (It → Bool) => [(0, .func (.yield ly) #[] #[]), (1, .pointer (some ⟨b, 0, none⟩)), (3, q.2.1), (20, .slice p20 opn.length c20), (21, .int .i64 opn.length), (22, .int .i64 q.1)])
    (fun q W => q.1 ≤ opn.length ∧ (∃ S', GoM W1 W br n C done opn S S' (.slice p20 opn.length c20) q.2.1 q.2.2.1 q.2.2.2) ∧ RInv C q.2.2.2 (done ++ q.2.2.1) (opn.filter fun y => !q.2.2.2 y) ∧
      q.2.2.1 ++ (goA C n (opn.drop q.1) q.2.2.2).1 = (goA C n opn O).1 ∧ (goA C n (opn.drop q.1) q.2.2.2).2 = (goA C n opn O).2) (fun q => opn.length - q.1) (0, .slice none 0 0, [], O) (by exact sub_)
    ⟨Nat.zero_le _, ⟨S, hM0.more (by exact fr_)⟩, by rw [hopn, List.append_nil]; exact hI, by simp, by simp⟩ ?_
  clear hM0 hF12 hv20 hF2 hrb hm hmW
  rintro ⟨i, vl, l, Ot⟩ w3 ⟨hi, ⟨S', hM⟩, hIt, heq1, heq2⟩
  simp only at hi hM hIt heq1 heq2
  have hbw : ∀ W, Ch S W1 W → Blk W b 36 #[.pointer (some ⟨br, 0, none⟩)] := fun W hc => hbW.ch hc hbS
  have hcl := hcount _ _ _ hIt
  have hz3 := hM.ch.size
  simp only [Try.x34bbabal]
  by_cases hlt : i < opn.length
  · obtain ⟨x, hx⟩ : ∃ x, opn[i]? = some x := ⟨_, List.getElem?_eq_getElem hlt⟩
    obtain ⟨g2, c2, e2, _, hr⟩ := hM.sn.at_ itL_len hx
    injection e2 with e2 _ e3
    subst e2 e3
    have hra : w3.rangeAt g2 (i * 2) (itA x).toList := hr
    have hdrop : opn.drop i = x :: opn.drop (i + 1) := by
      rw [List.drop_eq_getElem_cons hlt]
      congr 1
      have := List.getElem?_eq_getElem hlt
      rw [this] at hx
      injection hx
    (refine e_seq fun K1 hK1 => ?_; refine e_region ?_; refine A_lss ?_; refine a_next ?_; refine e_seq fun K1 hK1 => ?_; refine a_true ?_; refine a_nextC ?_; 
       refine e_seq fun K1 hK1 => ?_; refine e_block ?_; refine e_seq fun K1 hK1 => ?_; refine e_region ?_; refine A_idxS ?_; refine A_loads ?_; 
       refine A_alloc fun b1 w1 hF1 hN1 hB1 => ?_; have hz1 := hF1.size; obtain ⟨hn1, hl1⟩ := hN1; refine A_storeW fun w1 hU1 hB1 => ?_; refine a_next ?_; 
       refine e_seq fun K1 hK1 => ?_)
    have ⟨b5, hb5⟩ : ∃ b5, b5 = b1 := ⟨_, rfl⟩
    subst hb5
    have hB5 : Blk w1 b5 27 (itA x) := by exact blk_
    have hFc : Fr w3 w1 := by exact fr_
    clear hF1 hB1
    ((with_reducible apply e_drawn); (focus (intro _ _ _ d1 _ h1; cases d1 <;> exact h1)); intro w1 hF1; have hz1 := hF1.size)
    have hB52 := hB5.fr hF1
    have hFa : Fr w3 w1 := hFc.trans hF1
    have hM4 := hM.more hFa
    have hb4 := hbw w1 hM4.ch
    have hza := hFa.size
    clear hF1 hFc
    obtain ⟨bg', vd', vo', F', hm4⟩ := hM4.run
    have hrb4 := hm4.blk
    (refine A_load ?_; refine A_nil ?_; refine A_field ?_; refine A_load ?_; refine A_loadW ?_)
    (with_reducible apply E_call); rfl; exact Try.en31; rfl; intro RR1 hRR1
    refine order31 x _ _ hm4.g hdep fun w4 vp vm parts missing hF4 ho hP hMi hMo => ?_
    have hz4 := hF4.size
    refine hRR1 _ _ (by first | assumption | exact trivial) (Nat.le_of_ble_eq_true rfl) ?_; clear hRR1 RR1
    have he := ho.eq
    obtain ⟨GP, rfl, hvp, hvpo, hGP⟩ := hP
    have hf := hIt.ordered ho
    have hIn := hIt.finish hgood hf
    have hpne : ∀ g ∈ GP, g.2 ≠ [] := by
      intro g hg
      rcases ho with ⟨_, e, _⟩ | ⟨_, _, s, _, _, hIs, _, ⟨_, e, _⟩ | ⟨_, e, _⟩⟩
      · have := congrArg List.length e
        simp at this
        subst this; cases hg
      · have := congrArg List.length e
        simp at this
        subst this; cases hg
      · exact hIs.pl g.2 (e ▸ List.mem_map_of_mem hg)
    have hcn := hcount _ _ _ hIn
    obtain ⟨pv, cv, rfl⟩ := hvp.value
    have hM5 := hM4.more hF4
    have hlS' : ∀ k, S' k → k < w1.heap.size := fun k hk => hm4.lt hk
    (refine A_move ?_; refine A_extract ?_; refine A_extract ?_; refine A_assign ?_; refine A_assign ?_; refine a_next ?_; refine e_seq fun K1 hK1 => ?_; refine e_region ?_; 
       refine A_move ?_; refine A_lenS ?_; refine A_move ?_; refine a_next ?_; refine e_block ?_)
    refine e_loop Try.mixed Try.p34 Try.lp34bbabalbbaabbba Try.hx34bbabalbbaabbbal Try.ok34bbabalbbaabbbal (fun q : Nat × Value × List It × (It → Bool) => [(0, .func (.yield ly) #[] #[]), (1, .pointer (some ⟨b, 0, none⟩)), (3, q.2.1), (20, .slice (some ⟨g2, 0, none⟩) opn.length c20), (21, .int .i64 opn.length), (22, .int .i64 i), (35, .slice pv (GP.map (·.1)).length cv), (36, .int .i64 (GP.map (·.1)).length), (37, .int .i64 q.1)])
      (fun q W => q.1 ≤ GP.length ∧ q.2.2.1 = l ++ ((GP.take q.1).map (·.2)).flatten ∧ q.2.2.2 = doneO Ot n ((GP.take q.1).map (·.2)).flatten ∧ Sl W 39 1 slL (.slice pv (GP.map (·.1)).length cv) (GP.map (·.1)) ∧
        ∃ S', GoM W1 W br n C done opn S S' (.slice (some ⟨g2, 0, none⟩) opn.length c20) q.2.1 q.2.2.1 q.2.2.2 ∧ (∀ k, (Value.slice pv (GP.map (·.1)).length cv).ownBlock = some k → ¬ S' k) ∧
          ∀ g ∈ GP, Sl W 27 2 itL g.1 g.2 ∧ ∀ k, g.1.ownBlock = some k → ¬ S' k ∧ q.2.1.ownBlock ≠ some k) (fun q => GP.length - q.1) (0, vl, l, Ot) (by exact sub_)
      ⟨Nat.zero_le _, by simp, by simp [doneO_nil], hvp.fr (by exact fr_), S', hM5.more (by exact fr_), fun k hk hs => by have := hvpo k hk; have := hlS' k hs; omega, fun g hg => ⟨(hGP g hg).1.fr (by exact fr_), fun k hk => ⟨fun hs => by have := (hGP g hg).2 k hk; have := hlS' k hs; omega, fun e => by have := (hGP g hg).2 k hk; have := hM4.sl.lt e; omega⟩⟩⟩ ?_
    clear hM hM4 hM5 hm4 hrb4 hb4 hra hr hFa hF4 hvp hB5 hB52
    rintro ⟨j, vl2, l2, O2⟩ w5 ⟨hj, hl2, hO2, hvp, S2, hM, hvS, hGP⟩
    simp only at hj hl2 hO2 hM hGP
    have hz5 := hM.ch.size
    have hlen1 : (GP.map (·.1)).length = GP.length := by simp
    have hml := hvp.len_le
    simp only [Try.x34bbabalbbaabbbal]
    by_cases hlj : j < GP.length
    · obtain ⟨g, hg⟩ : ∃ g, GP[j]? = some g := ⟨_, List.getElem?_eq_getElem hlj⟩
      have hgm : g ∈ GP := List.mem_of_getElem? hg
      obtain ⟨hgs, hgo⟩ := hGP g hgm
      have hgne := hpne g hgm
      have hget : (GP.map (·.1))[j]? = some g.1 := by rw [List.getElem?_map, hg]; rfl
      obtain ⟨g6, c6, e6, hg6, hr6⟩ := hvp.at_ slL_len hget
      injection e6 with e6 _ e7
      subst e6 e7
      have hcell : w5.cell? ⟨g6, j, none⟩ = some g.1 := by
        have := hr6 0 g.1 rfl
        simpa using this
      have htk : GP.take (j + 1) = GP.take j ++ [g] := by rw [List.take_add_one, hg]; rfl
      have hfl : ((GP.take (j + 1)).map (·.2)).flatten = ((GP.take j).map (·.2)).flatten ++ g.2 := by rw [htk]; simp
      have hsub : (((GP.take j).map (·.2)).flatten ++ g.2).length ≤ ((GP.map (·.2)).flatten).length := by
        rw [← hfl]
        have : (GP.map (·.2)) = (GP.take (j + 1)).map (·.2) ++ (GP.drop (j + 1)).map (·.2) := by rw [← List.map_append, List.take_append_drop]
        rw [this, List.flatten_append, List.length_append]
        omega
      obtain ⟨gp, cp, hve, hgp⟩ := Row.form hgs (List.length_pos_iff.2 hgne)
      rw [hve] at hgs hgo hcell
      have hb5 := hbw w5 hM.ch
      (refine e_seq fun K1 hK1 => ?_; refine e_region ?_; refine A_lss ?_; refine a_next ?_; refine e_seq fun K1 hK1 => ?_; refine a_true ?_; refine a_nextC ?_; 
         refine e_seq fun K1 hK1 => ?_; refine e_block ?_; refine e_seq fun K1 hK1 => ?_; refine e_region ?_; refine A_idxS ?_; refine A_load ?_; refine A_assign ?_; 
         refine a_next ?_; refine e_seq fun K1 hK1 => ?_; refine e_region ?_; refine A_load ?_; refine A_move ?_)
      (with_reducible apply E_call); rfl; exact Try.en35; rfl; intro RR1 hRR1
      have hFa : Fr w5 w5 := Fr.refl _
      have hMa := hM.more hFa
      have hza := hFa.size
      have hlS2 : ∀ k, S2 k → k < w5.heap.size := fun k hk => hMa.run.lt hk
      refine finish35 _ _ g.2 hMa.run (hgs.fr hFa) (fun k hk => (hgo k hk).1) hgne ?_ fun w6 S3 hR6 hS3 hC6 => ?_
      · rw [hl2]
        simp only [List.length_append] at hcn hsub ⊢
        omega
      have hz6 := hC6.size
      have hgs6 := (hgs.fr hFa).ch hC6 (fun k hk => (hgo k hk).1)
      have hsl6 := hMa.sl.ch hC6 hMa.nl
      refine hRR1 _ _ (by first | assumption | exact trivial) (Nat.le_of_ble_eq_true rfl) ?_; clear hRR1 RR1
      obtain ⟨p2, c2, hv2⟩ := hsl6.value
      have hl2b : l2.length + g.2.length ≤ 448 := by
        rw [hl2]
        simp only [List.length_append] at hcn hsub ⊢
        omega
      (refine a_next ?_; refine e_region ?_; refine A_move ?_; refine A_move ?_)
      refine E_append (v := vl2) (m := l2.length) (xs := cellsOf itL l2) (news := cellsOf itL g.2) rfl rfl rfl sty39 hsl6 (cellsOf_length itL_len g.2) (Row.range' hgs6) (cells_one g.2) (by omega) (by omega) (fun _ _ => trivial) (by decide) ?_
      intro vl3 w8 hC8 hR8 hO8
      have hz8 := hC8.size
      obtain ⟨p3, c3, rfl⟩ := Row.value hR8
      have hsl8 : Sl w8 27 2 itL (.slice p3 (l2.length + g.2.length) c3) (l2 ++ g.2) := by
        unfold Sl
        rw [cellsOf_append, List.length_append]
        exact hR8
      have hlS3 : ∀ k, S3 k → k < w6.heap.size := fun k hk => hR6.lt hk
      have hnl3 : ∀ k, vl2.ownBlock = some k → ¬ S3 k := fun k hk hs => by
        rcases hS3 k hs with e | e
        · exact hMa.nl k hk e
        · have := hMa.sl.lt hk; omega
      have hM8 : GoM W1 w8 br n C done opn S S3 (.slice (some ⟨g2, 0, none⟩) opn.length c20) (.slice p3 (l2.length + g.2.length) c3) (l2 ++ g.2) (doneO O2 n g.2) := by
        refine ⟨?_, ?_, ?_, ?_, ?_, hsl8, ?_, ?_, ?_⟩
        · have := hR6.ch hC8 (fun k hk e => hnl3 k e hk)
          rw [filter_done, List.append_assoc] at this
          exact this
        · intro k hk
          rcases hS3 k hk with e | e
          · exact hMa.sub k e
          · exact .inr (by omega)
        · intro k hk hs
          rcases hO8 k hk with e | e
          · exact hnl3 k e hs
          · have := hlS3 k hs; omega
        · intro k hk hs
          rcases hS3 k hs with e | e
          · exact hMa.ns k hk e
          · have := hMa.sn.lt hk; omega
        · exact (hMa.ch.trans_ch hC6 fun i e => (hMa.sub i e)).trans_ch hC8 fun i e => .inr (hMa.ol i e)
        · intro k hk
          rcases hO8 k hk with e | e
          · exact hMa.ol k e
          · omega
        · exact (hMa.sn.ch hC6 hMa.ns).ch hC8 fun k hk e => (hMa.os k hk).2 e
        · intro k hk
          refine ⟨(hMa.os k hk).1, fun e => ?_⟩
          rcases hO8 k e with e | e
          · exact (hMa.os k hk).2 e
          · have := hMa.sn.lt hk; omega
      have hvp8 : Sl w8 39 1 slL (.slice (some ⟨g6, 0, none⟩) (GP.map (·.1)).length cv) (GP.map (·.1)) := ((hvp.fr hFa).ch hC6 hvS).ch hC8 (fun k hk e => Row.ne_row hvp (hM.sl) (by decide) k hk e)
      (refine A_assign ?_; refine e_norm_nil ?_; refine e_norm_block ?_; refine a_norm_then ?_; refine e_region ?_; refine A_add ?_; refine A_move ?_; refine e_norm_nil ?_)
      refine e_againN (j + 1, _, l2 ++ g.2, doneO O2 n g.2) (by show GP.length - (j + 1) < GP.length - j; omega)
        ⟨hlj, by show _ = l ++ _; rw [hl2, hfl, List.append_assoc], by show _ = doneO Ot n _; rw [hO2, doneO_append, hfl], hvp8.fr (by exact fr_), S3, hM8.more (by exact fr_), fun k hk hs => ?_, fun g' hg' => ⟨?_, fun k hk => ?_⟩⟩ rfl (by exact sub_)
      · rcases hS3 k hs with e | e
        · exact hvS k hk e
        · have := hvp.lt hk; omega
      · obtain ⟨a1, a2⟩ := hGP g' hg'
        exact (((a1.fr hFa).ch hC6 fun k hk => (a2 k hk).1).ch hC8 fun k hk e => (a2 k hk).2 e).fr (by exact fr_)
      · obtain ⟨a1, a2⟩ := hGP g' hg'
        refine ⟨fun hs => ?_, fun e => ?_⟩
        · rcases hS3 k hs with e | e
          · exact (a2 k hk).1 e
          · have := a1.lt hk; omega
        · rcases hO8 k e with e | e
          · exact (a2 k hk).2 e
          · have := a1.lt hk; omega
    · have hjg : j = GP.length := by omega
      subst hjg
      rw [List.take_length] at hl2 hO2
      subst hl2 hO2
      have e3 : ((opn.filter fun y => !Ot y).filter fun y => !doneO Ot n (GP.map (·.2)).flatten y) = opn.filter fun y => !doneO Ot n (GP.map (·.2)).flatten y := filter_done _ _ _ _
      rw [e3, List.append_assoc] at hIn
      (refine e_seq fun K1 hK1 => ?_; refine e_region ?_; refine A_lss ?_; refine a_next ?_; refine e_seq fun K1 hK1 => ?_; refine a_false ?_; refine e_exit_then ?_; 
         refine e_exit_then ?_; refine e_exit_here ?_; refine e_norm_block ?_; refine a_norm_then ?_; refine e_region ?_; refine A_add ?_; refine A_move ?_; refine e_norm_nil ?_)
      refine e_againN (i + 1, vl2, l ++ (GP.map (·.2)).flatten, doneO Ot n (GP.map (·.2)).flatten) (by show opn.length - (i + 1) < opn.length - i; omega) ⟨hlt, ⟨S2, hM.more (by exact fr_)⟩, hIn, ?_, ?_⟩ rfl (by exact sub_)
      · show (l ++ (GP.map (·.2)).flatten) ++ _ = _
        rw [← heq1, hdrop, goA, he, List.append_assoc]
      · show (goA C n (opn.drop (i + 1)) _).2 = _
        rw [← heq2, hdrop, goA, he]
  · have hio : i = opn.length := by omega
    subst hio
    rw [List.drop_length] at heq1 heq2
    simp only [goA, List.append_nil] at heq1 heq2
    have hV : WentTo br n C O done opn S W1 w3 := ⟨S', by rw [← heq1, ← heq2]; exact hM.run, hM.sub, hM.ch⟩
    have hJ0 := h0 w3 hV
    obtain ⟨pl, cl, rfl⟩ := hM.sl.value
    have hTV : ∀ k t cs, Blk w3 k t cs → (S' k ∨ W1.heap.size ≤ k ∨ k = b) → ¬ (T k ∨ Odd w3 k) := by
      rintro k t cs hk hk2 (hk3 | hk3)
      · obtain ⟨a1, a2, a3⟩ := hT k hk3
        rcases hk2 with e | e | e
        · rcases hM.sub k e with e | e
          · exact a2 e
          · omega
        · omega
        · exact a3 e
      · exact hk3.blk hk rfl
    have hlen := hM.sl.len_le
    have keepG : ∀ k W, J w3 (l.take k) W → Blk W b 36 #[.pointer (some ⟨br, 0, none⟩)] ∧ Sl W 27 2 itL (.slice pl l.length cl) l ∧ ∃ bg F, (∃ vd vo, Blk W br 62 #[.pointer (some ⟨bg, 0, none⟩), vd, vo]) ∧ GraphAt W bg n C Ot F := by
      intro k W hj
      have hc := hTT _ _ _ hj
      refine ⟨(hbw w3 hM.ch).ch hc (hTV _ _ _ (hbw w3 hM.ch) (.inr (.inr rfl))), hM.sl.ch hc fun g hg => ?_, ?_⟩
      · obtain ⟨cs, hb'⟩ := slt hM.sl hg
        exact hTV _ _ _ hb' (.inr (.inl (hM.ol g hg)))
      · have hr := hM.run.ch hc fun g hg => by
          obtain ⟨t, cs, hb'⟩ := hM.run.isBlk hg
          exact hTV _ _ _ hb' (.inl hg)
        obtain ⟨bg, vd, vo, F, hr⟩ := hr
        exact ⟨bg, F, ⟨vd, vo, hr.blk⟩, hr.g⟩
    (refine e_seq fun K1 hK1 => ?_; refine e_region ?_; refine A_lss ?_; refine a_next ?_; refine e_seq fun K1 hK1 => ?_; refine a_false ?_; refine e_exit_then ?_; 
       refine e_exit_then ?_; refine e_exit_here ?_; refine a_norm_then ?_; refine e_seq fun K1 hK1 => ?_; refine e_region ?_; refine A_move ?_; refine A_lenS ?_; 
       refine A_move ?_; refine a_next ?_; refine e_block ?_)
    refine e_loop Try.mixed Try.p34 Try.lp34bbbba Try.hx34bbbbal Try.ok34bbbbal (fun k : Nat => [(0, .func (.yield ly) #[] #[]), (1, .pointer (some ⟨b, 0, none⟩)), (49, .slice pl l.length cl), (50, .int .i64 l.length), (51, .int .i64 k)])
      (fun k W => k ≤ l.length ∧ J w3 (l.take k) W) (fun k => l.length - k) 0 (by exact sub_) ⟨Nat.zero_le _, hJ _ _ _ _ (by simpa using hJ0) (by exact fr_)⟩ ?_
    rintro k w5 ⟨hk, hj⟩
    obtain ⟨hb5, hsl5, bg', F', ⟨vd', vo', hrb5⟩, hG5⟩ := keepG k w5 hj
    simp only [Try.x34bbbbal]
    by_cases hlk : k < l.length
    · obtain ⟨x, hx⟩ : ∃ x, l[k]? = some x := ⟨_, List.getElem?_eq_getElem hlk⟩
      obtain ⟨g2, c2, e2, _, hr⟩ := hsl5.at_ itL_len hx
      injection e2 with e2 _ e3
      subst e2 e3
      have hra : w5.rangeAt g2 (k * 2) (itA x).toList := hr
      have hsz := callO_size (C x)
      have hone := callO_one (C x)
      have htk : l.take (k + 1) = l.take k ++ [x] := by rw [List.take_add_one, hx]; rfl
      have hpre : l.take k ++ [x] <+: (goA C n opn O).1 := by rw [← heq1, ← htk]; exact List.take_prefix _ _
      (refine e_seq fun K1 hK1 => ?_; refine e_region ?_; refine A_lss ?_; refine a_next ?_; refine e_seq fun K1 hK1 => ?_; refine a_true ?_; refine a_nextC ?_; 
         refine e_seq fun K1 hK1 => ?_; refine e_block ?_; refine e_seq fun K1 hK1 => ?_; refine e_region ?_; refine A_idxS ?_; refine A_loads ?_; 
         refine A_alloc fun b1 w1 hF1 hN1 hB1 => ?_; have hz1 := hF1.size; obtain ⟨hn1, hl1⟩ := hN1; refine A_storeW fun w1 hU1 hB1 => ?_; refine a_next ?_; 
         refine e_seq fun K1 hK1 => ?_)
      have ⟨b11, hb11⟩ : ∃ b11, b11 = b1 := ⟨_, rfl⟩
      subst hb11
      have hB11 : Blk w1 b11 27 (itA x) := by exact blk_
      have hFc : Fr w5 w1 := by exact fr_
      have hzc := hFc.size
      have hl11 := hB11.lt
      clear hF1 hB1 hU1
      have rest : ∀ b12 W', Fr w1 W' → Blk W' b11 27 (itA x) → Blk W' b12 33 (callO (C x)) → ∀ a, Agrees ⟨70, []⟩ a [(0, .func (.yield ly) #[] #[]), (1, .pointer (some ⟨b, 0, none⟩)), (11, .pointer (some ⟨b11, 0, none⟩)), (12, .pointer (some ⟨b12, 0, none⟩)), (49, .slice (some ⟨g2, 0, none⟩) l.length cl), (50, .int .i64 l.length), (51, .int .i64 k)] → K1 a W' := by
        intro b12 W' hF' hB1' hB2'
        refine later_of hK1 ?_
        have hj' : J w3 (l.take k) W' := hJ _ _ _ _ hj (hFc.trans hF')
        (refine e_seq fun K1 hK1 => ?_; refine e_region ?_; refine A_move ?_; refine A_loadW ?_; refine A_loadW ?_)
        refine E_yield rfl rfl (hY w3 _ _ _ hj' hpre) (by decide) ?_
        rintro ex w7 (⟨rfl, hJ7⟩ | ⟨rfl, hJ7⟩)
        · refine ⟨_, rfl, ?_⟩
          rw [← htk] at hJ7
          (refine A_not ?_; refine a_next ?_; refine a_false ?_; refine e_norm_skip ?_; refine e_norm_block ?_; refine a_norm_then ?_; refine e_region ?_; refine A_add ?_; 
             refine A_move ?_; refine e_norm_nil ?_)
          exact e_againN (k + 1) (by omega) ⟨hlk, hJ7⟩ rfl (by exact sub_)
        · refine ⟨_, rfl, ?_⟩
          (refine A_not ?_; refine a_next ?_; refine a_true ?_; refine e_ret_block ?_; refine e_ret_then ?_; refine e_ret_then ?_; refine e_ret_block ?_; refine a_ret0 ?_)
          exact ⟨⟨_, rfl⟩, w3, hV, .inr ⟨_, hpre, hJ7⟩⟩
      clear hK1
      ((with_reducible apply e_drawn); (focus (intro _ _ _ d1 _ h1; cases d1 <;> exact h1)); intro w1 hF1; have hz1 := hF1.size)
      have hFd : Fr w5 w1 := hFc.trans hF1
      have hb5d := hb5.fr hFd
      have hrb5d := hrb5.fr hFd
      have hG5d := hG5.fr hFd
      have hB11d := hB11.fr hF1
      have hFe := hF1
      clear hF1 hFd
      (refine A_load ?_; refine A_nil ?_; refine A_field ?_; refine A_load ?_; refine A_loadW ?_)
      apply E_fork
      · (with_reducible apply E_call); rfl; exact Try.en36; rfl; intro RR1 hRR1
        refine call36 x _ _ (hG5d.fr (by exact fr_)) fun w6 hF6 => ?_
        have hz6 := hF6.size
        refine hRR1 _ _ (by first | assumption | exact trivial) (Nat.le_of_ble_eq_true rfl) ?_; clear hRR1 RR1
        have hB116 := hB11d.fr hF6
        have hFg := hFe.trans hF6
        have hzg := hFg.size
        clear hB11d hF6 hFe
        (refine A_move ?_; refine A_extract ?_; refine A_extract ?_; refine A_alloc fun b1 w1 hF1 hN1 hB1 => ?_; have hz1 := hF1.size; obtain ⟨hn1, hl1⟩ := hN1; 
           refine A_storeW fun w1 hU1 hB1 => ?_; refine A_assign ?_; refine e_norm_nil ?_)
        have hB12 : Blk w1 b1 33 (callO (C x)) := by exact blk_
        have hB113 : Blk w1 b11 27 (itA x) := by exact blk_
        exact e_restN (rest b1 w1 (by exact fr_) hB113 hB12) (by exact sub_)
      · (refine A_alloc fun b1 w1 hF1 hN1 hB1 => ?_; have hz1 := hF1.size; obtain ⟨hn1, hl1⟩ := hN1)
        have ⟨b12, hb12⟩ : ∃ b12, b12 = b1 := ⟨_, rfl⟩
        subst hb12
        have hB12z := hB1
        have hFi := hF1
        clear hF1 hB1
        (with_reducible apply E_call); rfl; exact Try.en36; rfl; intro RR1 hRR1
        refine call36 x _ _ (hG5d.fr hFi) fun w6 hF6 => ?_
        have hz6 := hF6.size
        refine hRR1 _ _ (by first | assumption | exact trivial) (Nat.le_of_ble_eq_true rfl) ?_; clear hRR1 RR1
        have hB116 := (hB11d.fr hFi).fr hF6
        have hB126 := hB12z.fr hF6
        have hFg := (hFe.trans hFi).trans hF6
        have hzg := hFg.size
        clear hB11d hF6 hFe hFi hB12z
        (refine A_move ?_; refine A_extract ?_; refine A_extract ?_; refine A_storeW fun w1 hU1 hB1 => ?_; refine A_assign ?_; refine e_norm_nil ?_)
        have hB12 : Blk w1 b12 33 (callO (C x)) := by exact blk_
        have hB113 : Blk w1 b11 27 (itA x) := by exact blk_
        exact e_restN (rest b12 w1 (by exact fr_) hB113 hB12) (by exact sub_)
    · (refine e_seq fun K1 hK1 => ?_; refine e_region ?_; refine A_lss ?_; refine a_next ?_; refine e_seq fun K1 hK1 => ?_; refine a_false ?_; refine e_exit_then ?_; 
       refine e_exit_then ?_; refine e_exit_here ?_; refine a_end0 ?_)
      rw [show k = l.length by omega, List.take_length] at hj
      exact ⟨⟨_, rfl⟩, w3, hV, .inl (by rw [← heq1]; exact hJ _ _ _ _ hj (by exact fr_))⟩
end
end Go.Proofs.Ytjocklgihjbaiaa
end
section
/- Laws: pass; a run that is gone over to its end. -/
namespace Go.Proofs.Ytjocklgihjbaiaa
open Go.RowKit PT
section
variable {w : World} {br : Nat} {n : Int} {C : It → Option CallD} {O : It → Bool} {done opn : List It} {S : Nat → Prop} (RR : Ending → World → Prop)
set_option maxRecDepth 10000 in
theorem pass10 (h : RunAt w br n C O done opn S) (hI : RInv C O done opn) (hdep : ∀ y i, i < 7 → depOf (C y) i ≤ 64)
    (hR : ∀ w' S', RunAt w' br n C (goA C n opn O).2 (done ++ (goA C n opn O).1) (opn.filter fun y => !(goA C n opn O).2 y) S' → (∀ g, S' g → S g ∨ w.heap.size ≤ g) → Ch S w w' → RR (.returned (.tuple #[])) w') :
    Calls Try.prog 10 #[.pointer (some ⟨br, 0, none⟩)] w RR := by
  refine e_enterM (n := ⟨6, []⟩) Try.mixed Try.func10 Try.p10 Try.x10 Try.fb10 Try.hx10 Try.ok10 rfl rfl (by simp) ?_; simp only [Try.x10, argEnv, Nat.zero_add, Nat.reduceAdd]
  (refine e_seq fun K1 hK1 => ?_; refine e_region ?_; refine A_move ?_)
  (with_reducible apply E_call); rfl; exact Try.en17; rfl; intro RR1 hRR1
  refine go17 _ (.pointer (some ⟨br, 0, none⟩)) _ rfl fun b w2 hF2 hN2 hB2 => ?_
  have hz2 := hF2.size
  obtain ⟨hn2, hl2⟩ := hN2
  refine hRR1 _ _ (by first | assumption | exact trivial) (Nat.le_of_ble_eq_true rfl) ?_; clear hRR1 RR1
  (refine a_next ?_; refine e_block ?_)
  have h2 := h.fr hF2
  have hlS : ∀ k, S k → k < w.heap.size := fun k hk => h.lt hk
  refine e_range2 (α := It) Try.rf10ba rfl Try.en34 (T := fun _ => False) (go34 h2 hI hB2 (fun hs => by have := hlS b hs; omega) (fun k hk => hk.elim) hdep) (fun _ => rfl) (by simp)
    (fun V pre W => (∃ W1, Fr w2 W1 ∧ WentTo br n C O done opn S W1 V) ∧ Ch (fun k => False ∨ (Odd V k ∧ w2.heap.size ≤ k)) V W) (fun _ _ _ _ => False) (fun V pre y e1 W => e1 = [] ∧ (∃ W1, Fr w2 W1 ∧ WentTo br n C O done opn S W1 V) ∧ Ch (fun k => False ∨ (Odd V k ∧ w2.heap.size ≤ k)) V W)
    (fun V pre W h => chNew_odd h.2) (fun V pre W W' h hF => ⟨h.1, h.2.trans_fr hF⟩) (fun _ _ _ _ _ h _ => h) (fun V pre W W' r hr ho h hU => ⟨h.1, chNew_upd h.2 hr ho hU⟩) (fun _ _ _ _ _ _ _ _ h _ => h)
    (fun V pre y e1 W W' r hr ho h hU => ⟨h.1, h.2.1, chNew_upd h.2.2 hr ho hU⟩) (fun W1 V hF hV => ⟨⟨⟨W1, hF, hV⟩, Ch.refl _ _⟩, fun k hk1 hk2 => ?_⟩) ?_ ?_ ?_ (fun _ _ _ _ _ _ _ _ _ _ h => h.elim)
  · obtain ⟨S', _, _, hc⟩ := hV
    exact hc.block k hk2 (fun hs => by have := hlS k hs; omega)
  · intro V l Dd pre y W hl hD hlW hDW hol hoD hi hpre a ha m
    refine wpIn_enter Try.mixed Try.q10ba Try.x10ba_0 Try.hx10ba_0 Try.ok10ba_0 Try.cm10ba_0 Try.pl10ba_0 l letsOut_then ((show wpC Try.prog ⟨6, []⟩ Try.x10ba_0 _ _ W from ?_) a ha)
    simp only [Try.x10ba_0]
    refine e_norm_skip ?_
    exact fun _ hact => ⟨(Fr.refl W).same hlW hDW, [], hact.sub (Env.sub_nil _), rfl, hi.1, hi.2⟩
  · intro V l Dd pre y e1 W hl hD hlW hDW hol hoD hA' hpre a ha m
    obtain ⟨rfl, h1, h2⟩ := hA'
    refine wpIn_enter Try.mixed Try.q10ba Try.x10ba_1 Try.hx10ba_1 Try.ok10ba_1 Try.cm10ba_1 Try.pl10ba_1 l letsOut_round ((show wpC Try.prog ⟨6, []⟩ Try.x10ba_1 _ _ W from ?_) a ha)
    simp only [Try.x10ba_1]
    (refine e_block ?_; refine e_exit_here ?_)
    exact fun _ _ => ⟨(Fr.refl W).same hlW hDW, h1, h2⟩
  · intro W1' V D W hFV hV hD hIW hdef
    obtain ⟨⟨W1, hF1, S', hr, hS', hc⟩, hcV⟩ := hIW
    refine e_norm_block ?_
    refine e_end0M [D] rfl rfl (by simpa using hdef) (by simp) fun w' hc' => ?_
    have hz1 := hF1.size
    have hzc := hc.size
    have hnS : ∀ g, S' g → ¬ (False ∨ (Odd V g ∧ w2.heap.size ≤ g)) := by
      rintro g hg (e | ⟨e, _⟩)
      · exact e
      · obtain ⟨t, cs, hb⟩ := hr.isBlk hg
        exact e.blk hb rfl
    have hrW := hr.ch hcV hnS
    refine hR w' S' (hrW.ch hc' fun g hg hk => ?_) (fun g hg => (hS' g hg).imp id fun e => by omega) ?_
    · obtain ⟨t, cs, hb⟩ := hrW.isBlk hg
      have := List.mem_singleton.1 hk
      subst this
      unfold Blk at hb
      rw [hdef] at hb
      cases hb
    · exact ((((hF2.trans hF1).ch S).trans_ch hc fun i e => .inl e).trans_ch hcV fun i e => .inr (e.elim False.elim fun e => by omega)).trans_ch hc' fun i hk => .inr (by have := List.mem_singleton.1 hk; omega)
end
end Go.Proofs.Ytjocklgihjbaiaa
end
section
/- Laws: alive. -/
namespace Go.Proofs.Ytjocklgihjbaiaa
open Go.RowKit PT
def call4 : CallD := ⟨0, ⟨#[]⟩, ⟨#[]⟩, 0, 0, 0, fun _ => 0, 4⟩
def call0 : CallD := ⟨0, ⟨#[]⟩, ⟨#[]⟩, 0, 0, 0, fun _ => 0, 0⟩
theorem build33_4 : Try.prog.built 33 [(2, .int .i64 4)] = some (callA call4) := by kernel_rfl
theorem goodDeps0 (n : Int) : GoodDeps (fun _ => 0) n := fun _ _ => ⟨Int.le_refl 0, by show (0 : Int) ≤ 64; decide, .inr rfl⟩
theorem can4 : CanCommit (fun _ => none) 3 (1, 1) call4 := ⟨goodDeps0 7, rfl, by decide⟩
abbrev C4 : It → Option CallD := putC (fun _ => none) (1, 1) call4
theorem C4_ok (y : It) : okC C4 y = true ↔ y = (1, 1) := by rw [okC_put]; simp [okC]
theorem C4_dep (y : It) (i : Nat) : depOf (C4 y) i ≤ 64 := by
  unfold C4 putC
  split
  · exact (by decide : (0 : Int) ≤ 64)
  · exact (by decide : (0 : Int) ≤ 64)
theorem C4_inv : RInv C4 (fun _ => false) [] [((1, 1) : It)] := by
  have := RInv.nil.commit (x := (1, 1)) (c := call4) rfl
  have e : srtI ([] ++ [((1, 1) : It)]) = [(1, 1)] := by unfold srtI; simp
  rwa [e] at this
theorem C4_good (y : It) (h : okC C4 y = true) : goodB y.1 y.2 3 = true := by
  rw [(C4_ok y).1 h]; decide
theorem C4_go : (goA C4 3 [((1, 1) : It)] (fun _ => false)).1 = [(1, 1)] := by
  have hex := ordered_ex (fun y i _ => C4_dep y i) C4_good (by decide : (3 : Int) ≤ 7)
  have h1 := C4_inv.gone hex C4_good
  obtain ⟨h2, _⟩ := RInv.go hex C4_good [((1, 1) : It)] C4_inv
  simp only [List.nil_append] at h1 h2
  have hnd := h2.nd
  have hcan : Can C4 (1, 1) := by
    intro y p
    have hW : W0 C4 (1, 1) = [] := by
      rw [List.eq_nil_iff_forall_not_mem]
      intro v hv
      have := ((mem_W0 _ _ _).1 hv)
      have hd : depOf (C4 (1, 1)) v.1.toNat = 0 := by rfl
      omega
    have : y = (1, 1) := by
      cases p with
      | refl => rfl
      | step h _ => rw [hW] at h; cases h
    rw [C4_ok]; exact this
  have hm : ∀ y, y ∈ (goA C4 3 [((1, 1) : It)] (fun _ => false)).1 ↔ y = (1, 1) := fun y => by
    rw [h1, C4_ok]
    constructor
    · exact And.left
    · rintro rfl; exact ⟨rfl, hcan⟩
  generalize (goA C4 3 [((1, 1) : It)] (fun _ => false)).1 = l at hm hnd
  match l, hm, hnd with
  | [], hm, _ => exact absurd ((hm (1, 1)).2 rfl) (by simp)
  | [a], hm, _ => rw [(hm a).1 (by simp)]
  | a :: b :: l, hm, hnd =>
    have ha := (hm a).1 (by simp)
    have hb := (hm b).1 (by simp)
    simp [ha, hb] at hnd
theorem lk4 : loadKind Try.prog 4 = some none := by kernel_rfl
set_option maxRecDepth 10000 in
set_option maxHeartbeats 4000000 in
theorem alive6 (w : World) (RR : Ending → World → Prop) (hR : ∀ w', Fr w w' → RR (.returned (.bool true)) w') : Calls Try.prog 6 #[] w RR := by
  refine e_enterM (n := ⟨35, []⟩) Try.mixed Try.func6 Try.p6 Try.x6 Try.fb6 Try.hx6 Try.ok6 rfl rfl (by simp) ?_; simp only [Try.x6, argEnv, Nat.zero_add, Nat.reduceAdd]
  (refine e_seq fun K1 hK1 => ?_; refine e_region ?_; refine A_alloc fun b1 w1 hF1 hN1 hB1 => ?_; have hz1 := hF1.size; obtain ⟨hn1, hl1⟩ := hN1; refine a_next ?_; 
     refine e_seq fun K1 hK1 => ?_; refine e_region ?_)
  have ⟨b0, hb0⟩ : ∃ b0, b0 = b1 := ⟨_, rfl⟩
  subst hb0
  have hB0 : Blk w1 b0 4 #[.bool false] := hB1
  (with_reducible apply E_call); rfl; exact Try.en8; rfl; intro RR1 hRR1
  refine new8 _ _ 3 fun br w2 S hF2 hrun hS => ?_
  have hrun : RunAt w2 br 3 (fun _ => none) (fun _ => false) [] [] S := hrun
  have hz2 := hF2.size
  have hF02 : Fr w w2 := hF1.trans hF2
  have hB02 := hB0.fr hF2
  have hl0 := hB02.lt
  have hS0 : ¬ S b0 := fun hs => by have := hS b0 hs; omega
  have hSlt : ∀ k, S k → k < w2.heap.size := fun k hk => hrun.lt hk
  have hSge : ∀ k, S k → w.heap.size ≤ k := fun k hk => by have := hS k hk; omega
  refine hRR1 _ _ (by first | assumption | exact trivial) (Nat.le_of_ble_eq_true rfl) ?_; clear hRR1 RR1
  clear hF1 hB1 hB0 hF2
  have hbd := build27 1 1
  have hbd2 := build33_4
  (refine A_alloc fun ba wa hFa hNa hBa => ?_; have hza := hFa.size; obtain ⟨hna, hla⟩ := hNa)
  (refine A_storeC fun wc hUc hBc => ?_; have hzc := hUc.size)
  have hF2c : Fr w2 wc := hFa.upd hUc hna
  have hB0c := hB02.fr hF2c
  clear hFa hUc hBa
  (refine a_next ?_; refine e_seq fun K1 hK1 => ?_; refine e_region ?_; refine A_build ?_)
  (refine A_alloc fun bd wd hFd hNd hBd => ?_; have hzd := hFd.size; obtain ⟨hnd, hld⟩ := hNd)
  (refine A_storeW fun we hUe hBe => ?_; have hze := hUe.size)
  have hF2e : Fr w2 we := (hF2c.trans hFd).upd hUe (by omega)
  have hBce : Blk we ba 36 #[.pointer (some ⟨br, 0, none⟩)] := (hBc.fr hFd).upd hUe (by omega)
  have hze' := hF2e.size
  clear hFd hUe hBd hBc hF2c hB0c
  have hrune := hrun.fr hF2e
  (refine a_next ?_; refine e_seq fun K1 hK1 => ?_; refine e_seq fun K1 hK1 => ?_; refine e_region ?_; refine A_load ?_; refine A_loadW ?_; refine A_build ?_)
  (with_reducible apply E_call); rfl; exact Try.en9; rfl; intro RR1 hRR1
  refine commit9 _ (1, 1) call4 hrune (by simp) (fun _ w3 S3 hrun3 hS3 hC3 => ?_) (fun hn => absurd can4 hn)
  have hz3 := hC3.size
  have hrun3 : RunAt w3 br 3 C4 (fun _ => false) [] [(1, 1)] S3 := by
    have e : srtI ([] ++ [((1, 1) : It)]) = [(1, 1)] := by unfold srtI; simp
    rw [e] at hrun3; exact hrun3
  refine hRR1 _ _ (by first | assumption | exact trivial) (Nat.le_of_ble_eq_true rfl) ?_; clear hRR1 RR1
  have hBc3 := hBce.ch hC3 (fun hs => by have := hSlt _ hs; omega)
  have hBe3 := hBe.ch hC3 (fun hs => by have := hSlt _ hs; omega)
  have hB03 : Blk w3 b0 4 #[.bool false] := (hB02.fr hF2e).ch hC3 hS0
  have hF03 : Fr w w3 := (hF02.trans hF2e).more hC3 hSge
  clear hBce hBe hF2e hC3 hB02 hF02
  (refine A_not ?_; refine A_move ?_; refine A_want ?_; refine A_load ?_; refine A_want ?_)
  (with_reducible apply E_call); rfl; exact Try.en14; rfl; intro RR1 hRR1
  refine open14 _ _ hrun3 (by simp) fun v4 w4 hF4 hv4 _ => ?_
  have hz4 := hF4.size
  obtain ⟨p4, c4, rfl⟩ := hv4.value
  refine hRR1 _ _ (by first | assumption | exact trivial) (Nat.le_of_ble_eq_true rfl) ?_; clear hRR1 RR1
  (refine A_want ?_; refine A_lenS ?_; refine A_want ?_; refine A_neq ?_; refine A_pick_f ?_; refine a_next ?_; refine a_false ?_; refine a_nextC ?_; 
     refine e_seq fun K1 hK1 => ?_; refine e_seq fun K1 hK1 => ?_; refine e_region ?_; refine A_load ?_)
  have hBc4 := hBc3.fr hF4
  skip
  (with_reducible apply E_call); rfl; exact Try.en17; rfl; intro RR1 hRR1
  refine go17 _ (.pointer (some ⟨br, 0, none⟩)) _ rfl fun b w5 hF5 hN5 hB5 => ?_
  have hz5 := hF5.size
  obtain ⟨hn5, hl5⟩ := hN5
  refine hRR1 _ _ (by first | assumption | exact trivial) (Nat.le_of_ble_eq_true rfl) ?_; clear hRR1 RR1
  (refine a_next ?_; refine e_block ?_)
  have hF35 := hF4.trans hF5
  have hrun5 := hrun3.fr hF35
  have hlS3 : ∀ k, S3 k → k < w3.heap.size := fun k hk => hrun3.lt hk
  have hgS3 : ∀ k, S3 k → w.heap.size ≤ k := fun k hk => by
    rcases hS3 k hk with e | e
    · exact hSge k e
    · omega
  have hn0 : ¬ S3 b0 := fun hs => by
    rcases hS3 b0 hs with e | e
    · exact hS0 e
    · omega
  have hna' : ¬ S3 ba := fun hs => by
    rcases hS3 ba hs with e | e
    · have := hSlt ba e; omega
    · omega
  have hnd' : ¬ S3 bd := fun hs => by
    rcases hS3 bd hs with e | e
    · have := hSlt bd e; omega
    · omega
  have hF05 : Fr w w5 := hF03.trans hF35
  have hB05 := hB03.fr hF35
  have hBa5 := hBc3.fr hF35
  have hBd5 := hBe3.fr hF35
  have hzz := hF05.size
  have keep : ∀ V W, (∃ W1, Fr w5 W1 ∧ WentTo br 3 C4 (fun _ => false) [] [(1, 1)] S3 W1 V) ∧ Ch (fun k => False ∨ (Odd V k ∧ w5.heap.size ≤ k)) V W → Fr w W ∧ Blk W b0 4 #[.bool false] ∧ Blk W ba 36 #[.pointer (some ⟨br, 0, none⟩)] ∧ Blk W bd 27 (itA (1, 1)) ∧
      ∃ O' done' opn' S', RunAt W br 3 C4 O' done' opn' S' ∧ O' (1, 1) = true := by
    rintro V W ⟨⟨W1, hF1, S', hr, hS', hc⟩, hcV⟩
    have kk : ∀ {k t cs}, Blk w5 k t cs → ¬ S3 k → Blk W k t cs := fun hb hn => by
      have h1 := (hb.fr hF1).ch hc hn
      exact h1.ch hcV (fun e => e.elim False.elim fun e => e.1.blk h1 rfl)
    refine ⟨((hF05.trans hF1).more hc hgS3).more hcV (fun k e => by rcases e with e | ⟨_, e⟩; exact e.elim; omega), kk hB05 hn0, kk hBa5 hna', kk hBd5 hnd', _, _, _, S', hr.ch hcV fun g hg e => ?_, ?_⟩
    · obtain ⟨t, cs, hb⟩ := hr.isBlk hg
      rcases e with e | ⟨e, _⟩
      · exact e
      · exact e.blk hb rfl
    · have h2 := (RInv.go (ordered_ex (fun y i _ => C4_dep y i) C4_good (by decide : (3 : Int) ≤ 7)) C4_good [((1, 1) : It)] C4_inv).1
      rw [h2.o, C4_go]; simp
  refine e_range2 (α := It) Try.rf6bbbbaba rfl Try.en34 (T := fun _ => False) (go34 hrun5 C4_inv hB5 (fun hs => by have := hlS3 b hs; omega) (fun k hk => hk.elim) (fun y i _ => C4_dep y i)) (fun _ => rfl) (by simp)
    (fun V pre W => pre = [] ∧ (∃ W1, Fr w5 W1 ∧ WentTo br 3 C4 (fun _ => false) [] [(1, 1)] S3 W1 V) ∧ Ch (fun k => False ∨ (Odd V k ∧ w5.heap.size ≤ k)) V W)
    (fun V c pre W => c = .ret ∧ Fr w W ∧ Blk W b0 4 #[.bool true])
    (fun V pre y e1 W => (pre = [] ∧ (∃ W1, Fr w5 W1 ∧ WentTo br 3 C4 (fun _ => false) [] [(1, 1)] S3 W1 V) ∧ Ch (fun k => False ∨ (Odd V k ∧ w5.heap.size ≤ k)) V W) ∧
      ∃ b3 b4, e1 = [(0, .pointer (some ⟨b0, 0, none⟩)), (1, .pointer (some ⟨ba, 0, none⟩)), (2, .pointer (some ⟨bd, 0, none⟩)), (3, .pointer (some ⟨b3, 0, none⟩)), (4, .pointer (some ⟨b4, 0, none⟩))] ∧ Blk W b3 27 (itA y) ∧ Blk W b4 33 (callO (C4 y)))
    (fun V pre W h => chNew_odd h.2.2) (fun V pre W W' h hF => ⟨h.1, h.2.1, h.2.2.trans_fr hF⟩) (fun _ _ _ _ _ h hF => ⟨h.1, h.2.1.trans hF, h.2.2.fr hF⟩) (fun V pre W W' r hr ho h hU => ⟨h.1, h.2.1, chNew_upd h.2.2 hr ho hU⟩)
    (fun _ _ _ _ _ r hr ho h hU => ⟨h.1, h.2.1.upd hU (by omega), h.2.2.odd ho hU⟩)
    (fun V pre y e1 W W' r hr ho h hU => ⟨⟨h.1.1, h.1.2.1, chNew_upd h.1.2.2 hr ho hU⟩, by obtain ⟨b3, b4, h1, h2, h3⟩ := h.2; exact ⟨b3, b4, h1, h2.odd ho hU, h3.odd ho hU⟩⟩) (fun W1 V hF hV => ⟨⟨rfl, ⟨W1, hF, hV⟩, Ch.refl _ _⟩, fun k hk1 hk2 => ?_⟩) ?_ ?_ ?_ ?_
  · obtain ⟨S', _, _, hc⟩ := hV
    exact hc.block k hk2 (fun hs => by have := hlS3 k hs; omega)
  · intro V l Dd pre y W hl hD hlW hDW hol hoD hi hpre a ha m
    refine wpIn_enter Try.mixed Try.q6bbbbaba Try.x6bbbbaba_0 Try.hx6bbbbaba_0 Try.ok6bbbbaba_0 Try.cm6bbbbaba_0 Try.pl6bbbbaba_0 l letsOut_then ((show wpC Try.prog ⟨35, []⟩ Try.x6bbbbaba_0 _ _ W from ?_) a ha)
    simp only [Try.x6bbbbaba_0]
    rw [show ∀ e, putEnv (#[20, 21].zip (goEnc C4 y)).toList e = (21, .agg (callO (C4 y))) :: (20, itV y) :: e from fun _ => by simp [putEnv, goEnc]]
    have hsz := callO_size (C4 y)
    have hone := callO_one (C4 y)
    clear hB05 hBa5 hBd5 hBc3 hBe3 hB03 hBc4
    (refine e_seq fun K1 hK1 => ?_; refine e_region ?_)
    (refine A_alloc fun bp wp hFp hNp hBp => ?_; have hzp := hFp.size; obtain ⟨hnp, hlp⟩ := hNp)
    (refine A_storeW fun wq hUq hBq => ?_; have hzq := hUq.size)
    have hFq : Fr W wq := hFp.upd hUq hnp
    have hzq' := hFq.size
    clear hFp hUq hBp
    (refine a_next ?_; refine e_region ?_)
    (refine A_alloc fun bu wu hFu hNu hBu => ?_; have hzu := hFu.size; obtain ⟨hnu, hlu⟩ := hNu)
    (refine A_storeW fun ws hUs hBs => ?_; have hzs := hUs.size)
    have hFs : Fr W ws := (hFq.trans hFu).upd hUs (by omega)
    have hBq2 : Blk ws bp 27 (itA y) := (hBq.fr hFu).upd hUs (by omega)
    clear hFq hFu hUs hBu hBq
    refine e_norm_nil ?_
    exact fun _ hact => ⟨hFs.same hlW hDW, _, hact.sub (by exact sub_), ⟨hi.1, hi.2.1, hi.2.2.trans_fr hFs⟩, bp, bu, rfl, hBq2, hBs⟩
  · intro V l Dd pre y e1 W hl hD hlW hDW hol hoD hA' hpre a ha m
    obtain ⟨⟨rfl, hiV, hiC⟩, b3, b4, rfl, hB3, hB4⟩ := hA'
    rw [C4_go] at hpre
    have hy : y = (1, 1) := by
      have := List.IsPrefix.eq_of_length hpre (by simp)
      simpa using this
    subst hy
    obtain ⟨k1, k2, k3, k4, O', done', opn', S', k5, k6⟩ := keep V W ⟨hiV, hiC⟩
    have hs1 : (callO (C4 (1, 1)))[13]? = some (.int .i64 4) := callO_seq (C4 (1, 1))
    refine wpIn_enter Try.mixed Try.q6bbbbaba Try.x6bbbbaba_1 Try.hx6bbbbaba_1 Try.ok6bbbbaba_1 Try.cm6bbbbaba_1 Try.pl6bbbbaba_1 l letsOut_round ((show wpC Try.prog ⟨35, []⟩ Try.x6bbbbaba_1 _ _ W from ?_) a ha)
    simp only [Try.x6bbbbaba_1]
    clear hB05 hBa5 hBd5 hBc3 hBe3 hB03 hBc4
    have hlb0 := k2.lt
    (refine e_block ?_; refine e_seq fun K1 hK1 => ?_; refine e_region ?_; refine A_loadW ?_; refine A_loadW ?_; refine A_eqK keyIt ?_; refine A_move ?_; refine A_want ?_; 
       refine A_field ?_; refine A_want ?_; refine A_load ?_; refine A_want ?_; refine A_eql ?_; refine A_pick_t ?_; refine A_move ?_; refine A_want ?_; refine A_load ?_; 
       refine A_want ?_; refine A_loadW ?_; refine A_want ?_)
    (with_reducible apply E_call); rfl; exact Try.en22; rfl; intro RR1 hRR1
    refine over22 _ _ (1, 1) k5 fun w7 hF7 => ?_
    have hz7 := hF7.size
    rw [k6]
    refine hRR1 _ _ (by first | assumption | exact trivial) (Nat.le_of_ble_eq_true rfl) ?_; clear hRR1 RR1
    have k27 := k2.fr hF7
    have hF07 := k1.trans hF7
    clear hB3 hB4 k3 k4
    (refine A_pick_t ?_; refine A_storeC fun w1 hU1 hB1 => ?_; have hz1 := hU1.size; refine a_next ?_; refine e_ret_block ?_)
    have hFW : Fr W w7 := by exact fr_
    exact fun _ _ => ⟨((hFW.ch (fun k => k = b0)).trans_upd hU1 (.inl rfl)).same hlW hDW (fun e => hol.blk k2 e.symm) (fun e => hoD.blk k2 e.symm), rfl, hF07.upd hU1 (by omega), hB1⟩
  · rintro W1' V D W hFV hV hD ⟨h, _⟩ hdef
    rw [C4_go] at h; cases h
  · rintro W1' V D c pre W hFV hV hD hpre ⟨rfl, h1, h2⟩ hdef a ha
    refine wp_ret ?_
    have hfin : wpC Try.prog ⟨35, [mark D]⟩ .ret (endM Try.prog Try.f6 RR) [(0, .pointer (some ⟨b0, 0, none⟩))] W :=
      e_retCM [D] rfl rfl h2 lk4 rfl (by simpa using hdef) (by simp) fun w' hc => hR w' (h1.more hc fun k hk => by have := List.mem_singleton.1 hk; omega)
    exact hfin a (ha.sub (by exact sub_))
end Go.Proofs.Ytjocklgihjbaiaa
end
section
/- Laws: great; steps in memory. -/
namespace Go.Proofs.Ytjocklgihjbaiaa
open Go.RowKit PT
structure StepD where
  item : It
  call : CallD
  goes : Bool
def stepA (s : StepD) : Array Value := #[.int .i64 s.item.1, .int .i64 s.item.2, .int .i64 s.call.kind, .string s.call.key, .string s.call.val, .int .i64 s.call.ver, .int .i64 s.call.ses, .int .i64 s.call.num,
  .int .i64 (s.call.dep 0), .int .i64 (s.call.dep 1), .int .i64 (s.call.dep 2), .int .i64 (s.call.dep 3), .int .i64 (s.call.dep 4), .int .i64 (s.call.dep 5), .int .i64 (s.call.dep 6), .int .i64 s.call.seq, .bool s.goes]
def stepL (s : StepD) : List Value := (stepA s).toList
theorem stepL_len (s : StepD) : (stepL s).length = 17 := rfl
theorem stepA_one (s : StepD) : (stepA s).toList.all (·.oneCell') = true := rfl
theorem stepA_size (s : StepD) : (stepA s).size = 17 := rfl
theorem stepA_item (s : StepD) : (stepA s).extract 0 (0 + 2) = itA s.item := rfl
theorem stepA_call (s : StepD) : (stepA s).extract 2 (2 + 14) = callA s.call := rfl
theorem stepA_dep (s : StepD) : (stepA s).extract 8 (8 + 7) = depA s.call.dep := rfl
/-- Is it more than is played? -/
def greatB (n : Int) (l : Nat) : Bool := if n = 3 ∨ n = 5 ∨ n = 7 then decide (25 < l) else true
theorem great7 (n : Int) (v : Value) (steps : List StepD) (w : World) (RR : Ending → World → Prop) (h : Rd w stepL v steps) (hR : RR (.returned (.bool (greatB n steps.length))) w) : Calls Try.prog 7 #[.int .i64 n, v] w RR := by
  obtain ⟨p, c, rfl, hlen, hp⟩ := h
  have fin : ∀ b, b = greatB n steps.length → RR (.returned (.bool b)) w := fun b hb => hb ▸ hR
  refine e_enter (n := ⟨20, []⟩) Try.mixed Try.func7 Try.p7 Try.x7 Try.fb7 Try.hx7 Try.ok7 rfl rfl (by simp) ?_; simp only [Try.x7, argEnv, Nat.zero_add, Nat.reduceAdd]
  by_cases h3 : n = 3
  · subst h3
    (refine e_seq fun K1 hK1 => ?_; refine e_region ?_; refine A_assign ?_; refine a_next ?_; refine e_seq fun K1 hK1 => ?_; refine e_region ?_; refine A_move ?_; 
       refine A_neq ?_; refine A_move ?_; refine A_pass ?_; refine A_pass ?_; refine A_pick_f ?_; refine A_move ?_; refine A_pass ?_; refine A_pass ?_; refine A_pick_f ?_; 
       refine A_move ?_; refine A_want ?_; refine A_move ?_; refine A_want ?_; refine A_lenS ?_; refine A_want ?_; refine A_gtr ?_; refine A_pick_f ?_; refine A_assign ?_; 
       refine a_next ?_; refine a_ret1 ?_)
    exact fin _ (by simp [greatB]; omega)
  · by_cases h5 : n = 5
    · subst h5
      (refine e_seq fun K1 hK1 => ?_; refine e_region ?_; refine A_assign ?_; refine a_next ?_; refine e_seq fun K1 hK1 => ?_; refine e_region ?_; refine A_move ?_; 
         refine A_neq ?_; refine A_move ?_; refine A_want ?_; refine A_move ?_; refine A_want ?_; refine A_neq ?_; refine A_pick_t ?_; refine A_move ?_; refine A_pass ?_; 
         refine A_pass ?_; refine A_pick_f ?_; refine A_move ?_; refine A_want ?_; refine A_move ?_; refine A_want ?_; refine A_lenS ?_; refine A_want ?_; refine A_gtr ?_; 
         refine A_pick_f ?_; refine A_assign ?_; refine a_next ?_; refine a_ret1 ?_)
      exact fin _ (by simp [greatB]; omega)
    · by_cases h7 : n = 7
      · subst h7
        (refine e_seq fun K1 hK1 => ?_; refine e_region ?_; refine A_assign ?_; refine a_next ?_; refine e_seq fun K1 hK1 => ?_; refine e_region ?_; refine A_move ?_; 
           refine A_neq ?_; refine A_move ?_; refine A_want ?_; refine A_move ?_; refine A_want ?_; refine A_neq ?_; refine A_pick_t ?_; refine A_move ?_; refine A_want ?_; 
           refine A_move ?_; refine A_want ?_; refine A_neq ?_; refine A_pick_t ?_; refine A_move ?_; refine A_want ?_; refine A_move ?_; refine A_want ?_; refine A_lenS ?_; 
           refine A_want ?_; refine A_gtr ?_; refine A_pick_f ?_; refine A_assign ?_; refine a_next ?_; refine a_ret1 ?_)
        exact fin _ (by simp [greatB]; omega)
      · (refine e_seq fun K1 hK1 => ?_; refine e_region ?_; refine A_assign ?_; refine a_next ?_; refine e_seq fun K1 hK1 => ?_; refine e_region ?_; refine A_move ?_; 
         refine A_neq ?_; refine A_move ?_; refine A_want ?_; refine A_move ?_; refine A_want ?_; refine A_neq ?_; refine A_pick_t ?_; refine A_move ?_; refine A_want ?_; 
         refine A_move ?_; refine A_want ?_; refine A_neq ?_; refine A_pick_t ?_; refine A_move ?_; refine A_pass ?_; refine A_pass ?_; refine A_pass ?_; refine A_pick_t ?_; 
         refine A_assign ?_; refine a_next ?_; refine a_ret1 ?_)
        exact fin _ (by simp [greatB, h3, h5, h7])
end Go.Proofs.Ytjocklgihjbaiaa
end
section
/- Laws: RunFills. -/
namespace Go.Proofs.Ytjocklgihjbaiaa
open Go.RowKit PT
theorem build33_0 : Try.prog.built 33 [] = some (callA call0) := by kernel_rfl
/-- Such graphs as the law plays with: each call waits for nothing beyond the replicas. -/
structure Fit (n : Int) (C : It → Option CallD) : Prop where
  le : ∀ y i, i < 7 → depOf (C y) i ≤ 64
  out : ∀ y (i : Nat), i < 7 → n ≤ (i : Int) → depOf (C y) i = 0
theorem Fit.none (n : Int) : Fit n (fun _ => none) := ⟨fun _ _ _ => by show (0 : Int) ≤ 64; decide, fun _ _ _ _ => rfl⟩
theorem Fit.put {n : Int} {C : It → Option CallD} {x : It} {c : CallD} (h : Fit n C) (h1 : GoodDeps c.dep 7) (h2 : ∀ i : Nat, i < 7 → n ≤ (i : Int) → c.dep i = 0) : Fit n (putC C x c) := by
  refine ⟨fun y i hi => ?_, fun y i hi hn => ?_⟩
  · unfold putC
    split
    · exact (h1 i hi).2.1
    · exact h.le y i hi
  · unfold putC
    split
    · exact h2 i hi hn
    · exact h.out y i hi hn
theorem Fit.good {n : Int} {C : It → Option CallD} (h : Fit n C) (hn : n ≤ 7) {x y : It} (hv : y ∈ W0 C x) : goodB y.1 y.2 n = true := by
  obtain ⟨_, h1, h2, h3, h4⟩ := (mem_W0 _ _ _).1 hv
  have h5 := h.le x y.1.toNat (by omega)
  unfold goodB
  simp only [Bool.and_eq_true, decide_eq_true_eq]
  refine ⟨h1, ?_, h3, by omega⟩
  rcases Int.lt_or_le y.1 n with e | e
  · exact e
  · have := h.out x y.1.toNat (by omega) (by omega)
    omega
theorem path_good {n : Int} {C : It → Option CallD} (h : Fit n C) (hn : n ≤ 7) {x y : It} (p : Path (W0 C) x y) : y = x ∨ goodB y.1 y.2 n = true := by
  refine Path.keep (Q := fun y => y = x ∨ goodB y.1 y.2 n = true) ?_ p (.inl rfl)
  intro u v _ hv
  exact .inr (h.good hn hv)
/-- Behind the filling: as C, but all of l is committed, with calls that wait for nothing. -/
def Filled (C C' : It → Option CallD) (l : List It) : Prop := ∀ y, C' y = if y ∈ l then some call0 else C y
theorem filled_all {C C' : It → Option CallD} {out : List It} (hF : Filled C C' out) (hout : ∀ y, y ∈ out ↔ okC C y = false ∧ ∃ x, okC C x = true ∧ Path (W0 C) x y) {x : It} (hx : okC C' x = true) : Can C' x := by
  intro y p
  have key : okC C y = true ∨ y ∈ out := by
    refine Path.keep (Q := fun y => okC C y = true ∨ y ∈ out) ?_ p ?_
    · rintro u v (hu | hu) hv
      · have huo : u ∉ out := fun e => by have := ((hout u).1 e).1; rw [hu] at this; cases this
        have hv' : v ∈ W0 C u := by
          unfold W0 waitsL at hv ⊢
          rw [hF u, if_neg huo] at hv
          exact hv
        cases hok : okC C v with
        | true => exact .inl rfl
        | false => exact .inr ((hout v).2 ⟨hok, u, hu, .one hv'⟩)
      · have : W0 C' u = [] := by
          rw [List.eq_nil_iff_forall_not_mem]
          intro z hz
          have := (mem_W0 _ _ _).1 hz
          have hd : depOf (C' u) z.1.toNat = 0 := by rw [hF u, if_pos hu]; rfl
          omega
        rw [this] at hv; cases hv
    · unfold okC at hx ⊢
      rw [hF x] at hx
      by_cases hm : x ∈ out
      · exact .inr hm
      · rw [if_neg hm] at hx; exact .inl hx
  unfold okC
  rw [hF y]
  by_cases hm : y ∈ out
  · rw [if_pos hm]; rfl
  · rw [if_neg hm]
    exact key.resolve_right hm
theorem take_not_mem {L : List It} {j : Nat} {y : It} (hn : L.Nodup) (hy : L[j]? = some y) : y ∉ L.take j := by
  obtain ⟨hlt, he⟩ := List.getElem?_eq_some_iff.1 hy
  have hsp : L = L.take j ++ y :: L.drop (j + 1) := by
    conv => lhs; rw [← List.take_append_drop j L]
    rw [List.drop_eq_getElem_cons hlt, he]
  rw [hsp, List.nodup_append] at hn
  exact fun hm => hn.2.2 y hm y (List.mem_cons_self ..) rfl
theorem same_len {a b : List It} (ha : a.Nodup) (hb : b.Nodup) (h : ∀ y, y ∈ a ↔ y ∈ b) : a.length = b.length :=
  Nat.le_antisymm (PT.nodup_le a b ha fun y hy => (h y).1 hy) (PT.nodup_le b a hb fun y hy => (h y).2 hy)
set_option maxRecDepth 10000 in
set_option maxHeartbeats 8000000 in
theorem runFills4 (n : Int) (v : Value) (steps : List StepD) (w : World) (RR : Ending → World → Prop) (h : Rd w stepL v steps) (hR : ∀ w', Fr w w' → RR (.returned (.bool true)) w') : Calls Try.prog 4 #[.int .i64 n, v] w RR := by
  refine e_enter (n := ⟨93, []⟩) Try.mixed Try.func4 Try.p4 Try.x4 Try.fb4 Try.hx4 Try.ok4 rfl rfl (by simp) ?_; simp only [Try.x4, argEnv, Nat.zero_add, Nat.reduceAdd]
  (refine e_seq fun K1 hK1 => ?_; refine e_region ?_; refine A_assign ?_; refine a_next ?_; refine e_seq fun K1 hK1 => ?_; refine e_seq fun K1 hK1 => ?_; refine e_region ?_)
  (with_reducible apply E_call); rfl; exact Try.en6; rfl; intro RR1 hRR1
  refine alive6 _ _ fun w2 hF2 => ?_
  have hz2 := hF2.size
  refine hRR1 _ _ (by first | assumption | exact trivial) (Nat.le_of_ble_eq_true rfl) ?_; clear hRR1 RR1
  (refine A_not ?_; refine a_next ?_; refine a_false ?_; refine a_nextC ?_; refine e_seq fun K1 hK1 => ?_; refine e_seq fun K1 hK1 => ?_; refine e_region ?_; 
     refine A_move ?_; refine A_move ?_)
  (with_reducible apply E_call); rfl; exact Try.en7; rfl; intro RR1 hRR1
  refine great7 n v steps _ _ (h.fr (by exact fr_)) ?_
  refine hRR1 _ _ (by first | assumption | exact trivial) (Nat.le_of_ble_eq_true rfl) ?_; clear hRR1 RR1
  cases hgr : greatB n steps.length with
  | true =>
    (refine a_next ?_; refine a_true ?_; refine e_seq fun K1 hK1 => ?_; refine e_region ?_; refine A_assign ?_; refine a_next ?_; refine e_ret_then ?_; refine a_ret1 ?_)
    exact hR _ hF2
  | false =>
    have hn : (n = 3 ∨ n = 5 ∨ n = 7) ∧ steps.length ≤ 25 := by
      unfold greatB at hgr
      split at hgr
      · exact ⟨by assumption, by simpa using hgr⟩
      · cases hgr
    obtain ⟨hn, hsl⟩ := hn
    have hR2 : ∀ w', Fr w2 w' → RR (.returned (.bool true)) w' := fun w' hF => hR w' (hF2.trans hF)
    have h2 := h.fr hF2
    clear hR h hF2
    obtain ⟨p, c, rfl, hlen, hp⟩ := h2
    (refine a_next ?_; refine a_false ?_; refine a_nextC ?_; refine e_seq fun K1 hK1 => ?_; refine e_seq fun K1 hK1 => ?_; refine e_region ?_; refine A_move ?_; 
       refine A_lenS ?_; refine A_move ?_; refine a_next ?_; refine e_block ?_)
    have hget : ∀ i, i < steps.length → ∃ s, steps[i]? = some s ∧ ∃ g o, p = some ⟨g, o, none⟩ ∧ w2.rangeAt g (o + i * 17) (stepA s).toList ∧ g < w2.heap.size := fun i hi => by
      obtain ⟨g, o, e, hr, hg⟩ := hp.resolve_left (by rintro ⟨rfl, _⟩; simp at hi)
      have hx := List.getElem?_eq_getElem hi
      exact ⟨_, hx, g, o, e, rangeAt_part stepL_len hr hx, hg⟩
    refine e_loop Try.mixed Try.p4 Try.lp4bbbaba Try.hx4bbbabal Try.ok4bbbabal (fun i : Nat => [(0, .int .i64 n), (1, .slice p steps.length c), (4, .bool false), (20, .slice p steps.length c), (21, .int .i64 steps.length), (22, .int .i64 i)])
      (fun i W => i ≤ steps.length ∧ Fr w2 W ∧ ∀ (j : Nat) s, j < i → steps[j]? = some s → ∀ r : Nat, r < 7 → n ≤ (r : Int) → s.call.dep r = 0) (fun i => steps.length - i) 0 (by exact sub_) ⟨Nat.zero_le _, Fr.refl _, fun j s hj => absurd hj (Nat.not_lt_zero j)⟩ ?_
    rintro i w3 ⟨hi, hF3, hall⟩
    have hz3 := hF3.size
    simp only [Try.x4bbbabal]
    by_cases hlt : i < steps.length
    · obtain ⟨s, hs, g, o, rfl, hr, hg⟩ := hget i hlt
      have hra := rangeAt_fr hr hF3
      have hsz := stepA_size s
      have hone := stepA_one s
      have hdp := stepA_dep s
      (refine e_seq fun K1 hK1 => ?_; refine e_region ?_; refine A_lss ?_; refine a_next ?_; refine e_seq fun K1 hK1 => ?_; refine a_true ?_; refine a_nextC ?_; 
         refine e_seq fun K1 hK1 => ?_; refine e_block ?_; refine e_seq fun K1 hK1 => ?_; refine e_region ?_; refine A_idxS ?_; refine A_loads ?_)
      (refine A_alloc fun ba wa hFa hNa hBa => ?_; have hza := hFa.size; obtain ⟨hna, hla⟩ := hNa)
      (refine A_storeW fun wb hUb hBb => ?_; have hzb := hUb.size)
      have hFb : Fr w3 wb := hFa.upd hUb hna
      have hzb' := hFb.size
      clear hFa hUb hBa hra
      (refine a_next ?_; refine e_seq fun K1 hK1 => ?_; refine e_region ?_; refine A_field ?_; refine A_field ?_; refine A_loadB ?_; refine A_move ?_; refine a_next ?_; 
         refine e_block ?_)
      refine e_loop Try.mixed Try.p4 Try.lp4bbbabalbbaabba Try.hx4bbbabalbbaabbal Try.ok4bbbabalbbaabbal (fun r : Nat => [(0, .int .i64 n), (1, .slice (some ⟨g, o, none⟩) steps.length c), (4, .bool false), (20, .slice (some ⟨g, o, none⟩) steps.length c), (21, .int .i64 steps.length), (22, .int .i64 i), (28, .agg (depA s.call.dep)), (29, .int .i64 r)])
        (fun r W => r ≤ 7 ∧ Fr w2 W ∧ ∀ q : Nat, q < r → n ≤ (q : Int) → s.call.dep q = 0) (fun r => 7 - r) 0 (by exact sub_) ⟨Nat.zero_le _, hF3.trans hFb, fun q hq => absurd hq (Nat.not_lt_zero q)⟩ ?_
      rintro r w4 ⟨hr7, hF4, hq⟩
      simp only [Try.x4bbbabalbbaabbal]
      by_cases hr : r < 7
      · have hdr := depA_get s.call.dep r hr
        by_cases hnr : n ≤ (r : Int)
        · by_cases hd0 : s.call.dep r = 0
          · (refine e_seq fun K1 hK1 => ?_; refine e_region ?_; refine A_lss ?_; refine a_next ?_; refine e_seq fun K1 hK1 => ?_; refine a_true ?_; refine a_nextC ?_; 
             refine e_seq fun K1 hK1 => ?_; refine e_block ?_; refine e_seq fun K1 hK1 => ?_; refine e_region ?_; refine A_move ?_; refine A_index ?_; refine A_assign ?_; 
             refine A_assign ?_; refine a_next ?_; refine e_seq fun K1 hK1 => ?_; refine e_region ?_; refine A_move ?_; refine A_move ?_; refine A_geq ?_; refine A_move ?_; 
             refine A_want ?_; refine A_move ?_; refine A_want ?_; refine A_neq ?_; refine A_pick_t ?_; refine a_next ?_; refine a_false ?_; refine e_norm_skip ?_; 
             refine e_norm_block ?_; refine a_norm_then ?_; refine e_region ?_; refine A_addN1 ?_; refine A_move ?_; refine e_norm_nil ?_)
            exact e_againN (r + 1) (by omega) ⟨by omega, hF4, fun q hq' hn' => by
              rcases Nat.lt_or_eq_of_le (Nat.lt_succ_iff.1 hq') with e | rfl
              · exact hq q e hn'
              · exact hd0⟩ rfl (by exact sub_)
          · (refine e_seq fun K1 hK1 => ?_; refine e_region ?_; refine A_lss ?_; refine a_next ?_; refine e_seq fun K1 hK1 => ?_; refine a_true ?_; refine a_nextC ?_; 
             refine e_seq fun K1 hK1 => ?_; refine e_block ?_; refine e_seq fun K1 hK1 => ?_; refine e_region ?_; refine A_move ?_; refine A_index ?_; refine A_assign ?_; 
             refine A_assign ?_; refine a_next ?_; refine e_seq fun K1 hK1 => ?_; refine e_region ?_; refine A_move ?_; refine A_move ?_; refine A_geq ?_; refine A_move ?_; 
             refine A_want ?_; refine A_move ?_; refine A_want ?_; refine A_neq ?_; refine A_pick_t ?_; refine a_next ?_; refine a_true ?_; refine e_seq fun K1 hK1 => ?_; 
             refine e_region ?_; refine A_assign ?_; refine a_next ?_; refine e_ret_block ?_; refine e_ret_then ?_; refine e_ret_then ?_; refine e_ret_block ?_; refine e_ret_block ?_; 
             refine e_ret_then ?_; refine e_ret_then ?_; refine e_ret_block ?_; refine e_ret_then ?_; refine a_ret1 ?_)
            exact hR2 _ hF4
        · (refine e_seq fun K1 hK1 => ?_; refine e_region ?_; refine A_lss ?_; refine a_next ?_; refine e_seq fun K1 hK1 => ?_; refine a_true ?_; refine a_nextC ?_; 
           refine e_seq fun K1 hK1 => ?_; refine e_block ?_; refine e_seq fun K1 hK1 => ?_; refine e_region ?_; refine A_move ?_; refine A_index ?_; refine A_assign ?_; 
           refine A_assign ?_; refine a_next ?_; refine e_seq fun K1 hK1 => ?_; refine e_region ?_; refine A_move ?_; refine A_move ?_; refine A_geq ?_; refine A_move ?_; 
           refine A_pass ?_; refine A_pass ?_; refine A_pick_f ?_; refine a_next ?_; refine a_false ?_; refine e_norm_skip ?_; refine e_norm_block ?_; refine a_norm_then ?_; 
           refine e_region ?_; refine A_addN1 ?_; refine A_move ?_; refine e_norm_nil ?_)
          exact e_againN (r + 1) (by omega) ⟨by omega, hF4, fun q hq' hn' => by
            rcases Nat.lt_or_eq_of_le (Nat.lt_succ_iff.1 hq') with e | rfl
            · exact hq q e hn'
            · exact absurd hn' hnr⟩ rfl (by exact sub_)
      · (refine e_seq fun K1 hK1 => ?_; refine e_region ?_; refine A_lss ?_; refine a_next ?_; refine e_seq fun K1 hK1 => ?_; refine a_false ?_; refine e_exit_then ?_; 
         refine e_exit_then ?_; refine e_exit_here ?_; refine e_norm_block ?_; refine a_norm_then ?_; refine e_region ?_; refine A_addN1 ?_; refine A_move ?_; refine e_norm_nil ?_)
        refine e_againN (i + 1) (by omega) ⟨by omega, hF4, fun j s' hj hs' r' hr' hn' => ?_⟩ rfl (by exact sub_)
        rcases Nat.lt_or_eq_of_le (Nat.lt_succ_iff.1 hj) with e | rfl
        · exact hall j s' e hs' r' hr' hn'
        · rw [hs] at hs'
          injection hs' with hs'
          subst hs'
          exact hq r' (by omega) hn'
    · have hie : i = steps.length := by omega
      subst hie
      have hout : ∀ s ∈ steps, ∀ r : Nat, r < 7 → n ≤ (r : Int) → s.call.dep r = 0 := fun s hs => by
        obtain ⟨j, hj⟩ := List.mem_iff_getElem?.1 hs
        exact hall j s (List.getElem?_eq_some_iff.1 hj).1 hj
      clear hall
      (refine e_seq fun K1 hK1 => ?_; refine e_region ?_; refine A_lss ?_; refine a_next ?_; refine e_seq fun K1 hK1 => ?_; refine a_false ?_; refine e_exit_then ?_; 
         refine e_exit_then ?_; refine e_exit_here ?_; refine a_norm_then ?_; refine e_seq fun K1 hK1 => ?_; refine e_region ?_; refine A_move ?_)
      (with_reducible apply E_call); rfl; exact Try.en8; rfl; intro RR1 hRR1
      refine new8 _ _ n fun br w4 S hF4 hrun hS => ?_
      have hnn : min (max n 0) 7 = n := by omega
      have hn7 : n ≤ 7 := by omega
      rw [hnn] at hrun
      have hz4 := hF4.size
      have hF24 := hF3.trans hF4
      refine hRR1 _ _ (by first | assumption | exact trivial) (Nat.le_of_ble_eq_true rfl) ?_; clear hRR1 RR1
      (refine A_assign ?_; refine a_next ?_; refine e_seq fun K1 hK1 => ?_; refine e_region ?_; refine A_assign ?_; refine a_next ?_; refine e_seq fun K1 hK1 => ?_; 
         refine e_seq fun K1 hK1 => ?_; refine e_region ?_; refine A_move ?_; refine A_lenS ?_; refine A_move ?_; refine a_next ?_; refine e_block ?_)
      refine e_loop Try.mixed Try.p4 Try.lp4bbbbbbaba Try.hx4bbbbbbabal Try.ok4bbbbbbabal (fun q : Nat × Nat × (It → Option CallD) × List It => [(0, .int .i64 n), (9, .pointer (some ⟨br, 0, none⟩)), (10, .int .i64 q.2.1), (44, .slice p steps.length c), (45, .int .i64 steps.length), (46, .int .i64 q.1)])
        (fun q W => q.1 ≤ steps.length ∧ Fr w2 W ∧ (∃ S, RunAt W br n q.2.2.1 (fun _ => false) [] q.2.2.2 S ∧ ∀ g, S g → w2.heap.size ≤ g) ∧ RInv q.2.2.1 (fun _ => false) [] q.2.2.2 ∧ Fit n q.2.2.1 ∧ q.2.1 = q.2.2.2.length ∧ q.2.1 ≤ q.1) (fun q => steps.length - q.1) (0, 0, (fun _ => none), []) (by exact sub_)
        ⟨Nat.zero_le _, hF24, ⟨S, hrun, fun g hg => by have := hS g hg; omega⟩, RInv.nil, Fit.none n, rfl, Nat.le_refl _⟩ ?_
      clear hF3 hF4 hF24 hrun hS hz3 hz4
      rintro ⟨i, k, C, opn⟩ w5 ⟨hi, hF5, ⟨S5, hrun, hS5⟩, hI, hfit, hk, hki⟩
      simp only at hi hrun hI hfit hk hki
      have hz5 := hF5.size
      simp only [Try.x4bbbbbbabal]
      by_cases hlt : i < steps.length
      · obtain ⟨s, hs, g, o, rfl, hr, hg⟩ := hget i hlt
        have hra := rangeAt_fr hr hF5
        have hsz := stepA_size s
        have hone := stepA_one s
        have hit := stepA_item s
        have hcl := stepA_call s
        (refine e_seq fun K1 hK1 => ?_; refine e_region ?_; refine A_lss ?_; refine a_next ?_; refine e_seq fun K1 hK1 => ?_; refine a_true ?_; refine a_nextC ?_; 
           refine e_seq fun K1 hK1 => ?_; refine e_block ?_; refine e_seq fun K1 hK1 => ?_; refine e_region ?_; refine A_idxS ?_; refine A_loads ?_)
        (refine A_alloc fun ba wa hFa hNa hBa => ?_; have hza := hFa.size; obtain ⟨hna, hla⟩ := hNa)
        (refine A_storeW fun wb hUb hBb => ?_; have hzb := hUb.size)
        have hFb : Fr w5 wb := hFa.upd hUb hna
        have hzb' := hFb.size
        clear hFa hUb hBa hra
        (refine a_next ?_; refine e_seq fun K1 hK1 => ?_; refine e_region ?_; refine A_move ?_; refine A_field ?_; refine A_loadB ?_; refine A_field ?_; refine A_loadB ?_)
        (with_reducible apply E_call); rfl; exact Try.en9; rfl; intro RR1 hRR1
        refine commit9 _ s.item s.call (hrun.fr hFb) (by omega) (fun hcc w6 S6 hrun6 hS6 hC6 => ?_) (fun _ w6 hF6 => ?_)
        · refine hRR1 _ _ (by first | assumption | exact trivial) (Nat.le_of_ble_eq_true rfl) ?_; clear hRR1 RR1
          (refine a_next ?_; refine a_true ?_; refine e_region ?_; refine A_move ?_; refine A_addN1 ?_; refine A_assign ?_; refine e_norm_nil ?_; refine e_norm_block ?_; 
             refine a_norm_then ?_; refine e_region ?_; refine A_addN1 ?_; refine A_move ?_; refine e_norm_nil ?_)
          have hlen6 : (srtI (opn ++ [s.item])).length = opn.length + 1 := by rw [(srtI_perm _).length_eq]; simp
          exact e_againN (i + 1, k + 1, putC C s.item s.call, srtI (opn ++ [s.item])) (by show steps.length - (i + 1) < steps.length - i; omega)
            ⟨hlt, (hF5.trans hFb).more hC6 hS5, ⟨S6, hrun6, fun g hg => (hS6 g hg).elim (hS5 g) fun e => by omega⟩, hI.commit hcc.2.1, hfit.put hcc.1 (hout s (List.mem_of_getElem? hs)), by show k + 1 = _; rw [hlen6, hk], by show k + 1 ≤ i + 1; omega⟩ rfl (by exact sub_)
        · refine hRR1 _ _ (by first | assumption | exact trivial) (Nat.le_of_ble_eq_true rfl) ?_; clear hRR1 RR1
          (refine a_next ?_; refine a_false ?_; refine e_norm_skip ?_; refine e_norm_block ?_; refine a_norm_then ?_; refine e_region ?_; refine A_addN1 ?_; refine A_move ?_; 
             refine e_norm_nil ?_)
          exact e_againN (i + 1, k, C, opn) (by show steps.length - (i + 1) < steps.length - i; omega) ⟨hlt, (hF5.trans hFb).trans hF6, ⟨S5, (hrun.fr hFb).fr hF6, hS5⟩, hI, hfit, hk, by show k ≤ i + 1; omega⟩ rfl (by exact sub_)
      · have hk25 : k ≤ 25 := by omega
        clear hki
        have hfit0 := hfit
        have hgood : ∀ (C' : It → Option CallD) W S opn', RunAt W br n C' (fun _ => false) [] opn' S → ∀ y, okC C' y = true → goodB y.1 y.2 n = true := fun C' W S opn' hr y hy => hr.good (by intro e; unfold okC at hy; rw [e] at hy; cases hy)
        have hex := fun O x => ordered_ex (O := O) (x := x) hfit.le (hgood _ _ _ _ hrun) hn7
        (refine e_seq fun K1 hK1 => ?_; refine e_region ?_; refine A_lss ?_; refine a_next ?_; refine e_seq fun K1 hK1 => ?_; refine a_false ?_; refine e_exit_then ?_; 
           refine e_exit_then ?_; refine e_exit_here ?_; refine a_norm_then ?_; refine e_seq fun K1 hK1 => ?_; refine e_seq fun K1 hK1 => ?_; refine e_region ?_; refine A_move ?_)
        (with_reducible apply E_call); rfl; exact Try.en13; rfl; intro RR1 hRR1
        refine missing13 _ hrun (by omega) hfit.le fun v6 w6 out hF6 hnd hmem hsl6 hown => ?_
        have hz6 := hF6.size
        have hout' : ∀ y, y ∈ out ↔ okC C y = false ∧ ∃ x, okC C x = true ∧ Path (W0 C) x y := fun y => by
          rw [hmem]
          constructor
          · rintro ⟨x, hx, hy⟩
            obtain ⟨pp, mm, ho⟩ := hex (fun _ => false) x
            rw [ho.eq] at hy
            obtain ⟨a1, _, a2, a3⟩ := ((hI.ordered ho).mi y).1 hy
            exact ⟨a2, x, a1, a3⟩
          · rintro ⟨a2, x, a1, a3⟩
            obtain ⟨pp, mm, ho⟩ := hex (fun _ => false) x
            refine ⟨x, (hI.op x).2 ⟨a1, by simp⟩, ?_⟩
            rw [ho.eq]
            exact ((hI.ordered ho).mi y).2 ⟨a1, by simp, a2, a3⟩
        obtain ⟨L, hL⟩ : ∃ L, L = srtI out := ⟨_, rfl⟩
        rw [← hL] at hsl6
        have hLm : ∀ y, y ∈ L ↔ y ∈ out := fun y => by rw [hL]; exact (srtI_perm out).mem_iff
        have hLn : L.Nodup := by rw [hL]; exact (srtI_perm out).nodup_iff.2 hnd
        have hLl : L.length ≤ 448 := by
          refine Nat.le_trans (PT.nodup_le L (itemsOf fun _ => 64) hLn fun y hy => ?_) univ_len
          obtain ⟨a, x, b, p'⟩ := (hout' y).1 ((hLm y).1 hy)
          refine (path_univ hfit.le p').resolve_left fun e => ?_
          subst e; rw [b] at a; cases a
        obtain ⟨p6, c6, rfl⟩ := hsl6.value
        have hbd := build33_0
        refine hRR1 _ _ (by first | assumption | exact trivial) (Nat.le_of_ble_eq_true rfl) ?_; clear hRR1 RR1
        (refine A_lenS ?_; refine A_move ?_; refine a_next ?_; refine e_block ?_)
        refine e_loop Try.mixed Try.p4 Try.lp4bbbbbbbaba Try.hx4bbbbbbbabal Try.ok4bbbbbbbabal (fun q : Nat × Nat × (It → Option CallD) × List It => [(0, .int .i64 n), (9, .pointer (some ⟨br, 0, none⟩)), (10, .int .i64 q.2.1), (60, .slice p6 L.length c6), (61, .int .i64 L.length), (62, .int .i64 q.1)])
          (fun q W => q.1 ≤ L.length ∧ Fr w2 W ∧ (∃ S, RunAt W br n q.2.2.1 (fun _ => false) [] q.2.2.2 S ∧ (∀ g, S g → w2.heap.size ≤ g) ∧ ∀ g, (Value.slice p6 L.length c6).ownBlock = some g → ¬ S g) ∧ RInv q.2.2.1 (fun _ => false) [] q.2.2.2 ∧ Fit n q.2.2.1 ∧ q.2.1 = q.2.2.2.length ∧ q.2.1 ≤ 25 + q.1 ∧
            Filled C q.2.2.1 (L.take q.1) ∧ Sl W 27 2 itL (.slice p6 L.length c6) L) (fun q => L.length - q.1) (0, k, C, opn) (by exact sub_)
          ⟨Nat.zero_le _, hF5.trans hF6, ⟨S5, hrun.fr hF6, hS5, fun g hg hs => by have := hown g hg; have := hrun.lt hs; omega⟩, hI, hfit, hk, by omega, fun y => by simp, hsl6⟩ ?_
        clear hrun hS5 hF5 hF6 hsl6 hown hz5 hz6 hI hfit hk hk25 hlt
        rintro ⟨j, k, C', opn'⟩ w7 ⟨hj, hF7, ⟨S7, hrun, hS7, hnS7⟩, hI, hfit', hk, hkj, hfill, hsl⟩
        simp only at hj hrun hI hfit' hk hkj hfill
        have hz7 := hF7.size
        simp only [Try.x4bbbbbbbabal]
        by_cases hlt : j < L.length
        · obtain ⟨y, hy⟩ : ∃ y, L[j]? = some y := ⟨_, List.getElem?_eq_getElem hlt⟩
          have hyL := List.mem_of_getElem? hy
          obtain ⟨g2, c2, e2, hg2, hr⟩ := hsl.at_ itL_len hy
          injection e2 with e2 _ e3
          subst e2 e3
          have hra : w7.rangeAt g2 (j * 2) (itA y).toList := hr
          have htk : L.take (j + 1) = L.take j ++ [y] := by rw [List.take_add_one, hy]; rfl
          obtain ⟨hyn, x, hxo, hxy⟩ := (hout' y).1 ((hLm y).1 hyL)
          have hynt : y ∉ L.take j := take_not_mem hLn hy
          have hcan : CanCommit C' n y call0 := by
            refine ⟨goodDeps0 7, ?_, ?_⟩
            · rw [hfill y, if_neg hynt]
              unfold okC at hyn
              simpa using hyn
            · refine (path_good hfit0 hn7 hxy).resolve_left fun e => ?_
              subst e; rw [hxo] at hyn; cases hyn
          (refine e_seq fun K1 hK1 => ?_; refine e_region ?_; refine A_lss ?_; refine a_next ?_; refine e_seq fun K1 hK1 => ?_; refine a_true ?_; refine a_nextC ?_; 
             refine e_seq fun K1 hK1 => ?_; refine e_block ?_; refine e_seq fun K1 hK1 => ?_; refine e_region ?_; refine A_idxS ?_; refine A_loads ?_)
          (refine A_alloc fun ba wa hFa hNa hBa => ?_; have hza := hFa.size; obtain ⟨hna, hla⟩ := hNa)
          (refine A_storeW fun wb hUb hBb => ?_; have hzb := hUb.size)
          have hFb : Fr w7 wb := hFa.upd hUb hna
          have hzb' := hFb.size
          clear hFa hUb hBa hra
          (refine a_next ?_; refine e_seq fun K1 hK1 => ?_; refine e_seq fun K1 hK1 => ?_; refine e_region ?_; refine A_move ?_; refine A_loadW ?_; refine A_build ?_)
          (with_reducible apply E_call); rfl; exact Try.en9; rfl; intro RR1 hRR1
          refine commit9 _ y call0 (hrun.fr hFb) (by omega) (fun hcc w8 S8 hrun8 hS8 hC8 => ?_) (fun hcc => absurd hcan hcc)
          refine hRR1 _ _ (by first | assumption | exact trivial) (Nat.le_of_ble_eq_true rfl) ?_; clear hRR1 RR1
          (refine A_not ?_; refine a_next ?_; refine a_false ?_; refine a_nextC ?_; refine e_region ?_; refine A_move ?_; refine A_addN1 ?_; refine A_assign ?_; 
             refine e_norm_nil ?_; refine e_norm_block ?_; refine a_norm_then ?_; refine e_region ?_; refine A_addN1 ?_; refine A_move ?_; refine e_norm_nil ?_)
          have hlen8 : (srtI (opn' ++ [y])).length = opn'.length + 1 := by rw [(srtI_perm _).length_eq]; simp
          refine e_againN (j + 1, k + 1, putC C' y call0, srtI (opn' ++ [y])) (by show L.length - (j + 1) < L.length - j; omega)
            ⟨hlt, (hF7.trans hFb).more hC8 hS7, ⟨S8, hrun8, fun g hg => (hS8 g hg).elim (hS7 g) fun e => by omega, fun g hg hs => ?_⟩, hI.commit hcc.2.1, hfit'.put hcc.1 (fun _ _ _ => rfl), by show k + 1 = _; rw [hlen8, hk], by show k + 1 ≤ 25 + (j + 1); omega, fun z => ?_, (hsl.fr hFb).ch hC8 hnS7⟩ rfl (by exact sub_)
          · rcases hS8 g hs with e | e
            · exact hnS7 g hg e
            · have := own_sl hg; omega
          · show putC C' y call0 z = _
            rw [htk]
            unfold putC
            by_cases hzy : z = y
            · simp [hzy]
            · rw [if_neg hzy, hfill z]
              simp [hzy]
        · have hjl : j = L.length := by omega
          subst hjl
          rw [List.take_length] at hfill
          have hcanall : ∀ x, okC C' x = true → Can C' x := fun x hx => filled_all hfill (fun y => by rw [hLm]; exact hout' y) hx
          have hgd := hgood _ _ _ _ hrun
          have hex' := fun O x => ordered_ex (O := O) (x := x) hfit'.le hgd hn7
          have hgone := hI.gone hex' hgd
          have hgo := (RInv.go hex' hgd opn' hI).1
          simp only [List.nil_append] at hgone hgo
          (refine e_seq fun K1 hK1 => ?_; refine e_region ?_; refine A_lss ?_; refine a_next ?_; refine e_seq fun K1 hK1 => ?_; refine a_false ?_; refine e_exit_then ?_; 
             refine e_exit_then ?_; refine e_exit_here ?_; refine a_norm_then ?_; refine e_seq fun K1 hK1 => ?_; refine e_region ?_; refine A_move ?_)
          (with_reducible apply E_call); rfl; exact Try.en10; rfl; intro RR1 hRR1
          refine pass10 _ hrun hI hfit'.le fun w8 S8 hrun8 hS8 hC8 => ?_
          simp only [List.nil_append] at hrun8
          obtain ⟨D, hD⟩ : ∃ D, D = (goA C' n opn' fun _ => false).1 := ⟨_, rfl⟩
          obtain ⟨O2, hO2⟩ : ∃ O2, O2 = (goA C' n opn' fun _ => false).2 := ⟨_, rfl⟩
          rw [← hD] at hgone hgo hrun8
          rw [← hO2] at hgo hrun8
          have hnil : opn'.filter (fun y => !O2 y) = [] := by
            rw [List.eq_nil_iff_forall_not_mem]
            intro y hy
            obtain ⟨a, b⟩ := (hgo.op y).1 hy
            exact b ((hgone y).2 ⟨a, hcanall y a⟩)
          rw [hnil] at hrun8
          have hdl : D.length = k := by
            rw [hk]
            refine same_len hgo.nd hI.on fun y => ?_
            rw [hgone, hI.op]
            exact ⟨fun ⟨a, _⟩ => ⟨a, by simp⟩, fun ⟨a, _⟩ => ⟨a, hcanall y a⟩⟩
          have hF8 : Fr w2 w8 := hF7.more hC8 hS7
          have hz8 := hF8.size
          clear hrun hI hgone hgo hfill hsl
          refine hRR1 _ _ (by first | assumption | exact trivial) (Nat.le_of_ble_eq_true rfl) ?_; clear hRR1 RR1
          (refine a_next ?_; refine e_seq fun K1 hK1 => ?_; refine e_region ?_; refine A_move ?_)
          (with_reducible apply E_call); rfl; exact Try.en13; rfl; intro RR1 hRR1
          refine missing13 _ hrun8 (by simp) hfit'.le fun v9 w9 out9 hF9 _ hmem9 hsl9 _ => ?_
          have ho9 : out9 = [] := by
            rw [List.eq_nil_iff_forall_not_mem]
            intro y hy
            obtain ⟨x, hx, _⟩ := (hmem9 y).1 hy
            cases hx
          rw [ho9, show srtI [] = [] from by unfold srtI; simp] at hsl9
          obtain ⟨p9, c9, rfl⟩ := hsl9.value
          have hz9 := hF9.size
          refine hRR1 _ _ (by first | assumption | exact trivial) (Nat.le_of_ble_eq_true rfl) ?_; clear hRR1 RR1
          (refine A_lenS ?_; refine A_eql ?_; refine A_move ?_; refine A_want ?_; refine A_move ?_; refine A_want ?_)
          (with_reducible apply E_call); rfl; exact Try.en14; rfl; intro RR1 hRR1
          refine open14 _ _ (hrun8.fr hF9) (by simp) fun v10 w10 hF10 hsl10 _ => ?_
          obtain ⟨p10, c10, rfl⟩ := hsl10.value
          have hz10 := hF10.size
          refine hRR1 _ _ (by first | assumption | exact trivial) (Nat.le_of_ble_eq_true rfl) ?_; clear hRR1 RR1
          (refine A_want ?_; refine A_lenS ?_; refine A_want ?_; refine A_eql ?_; refine A_pick_t ?_; refine A_move ?_; refine A_want ?_; refine A_move ?_; refine A_want ?_)
          (with_reducible apply E_call); rfl; exact Try.en11; rfl; intro RR1 hRR1
          refine done11 _ _ ((hrun8.fr hF9).fr hF10) (by omega) fun v11 w11 hF11 hsl11 _ => ?_
          obtain ⟨p11, c11, rfl⟩ := hsl11.value
          refine hRR1 _ _ (by first | assumption | exact trivial) (Nat.le_of_ble_eq_true rfl) ?_; clear hRR1 RR1
          (refine A_want ?_; refine A_lenS ?_; refine A_want ?_; refine A_move ?_; refine A_want ?_; refine A_eql ?_; refine A_pick_t ?_; refine A_assign ?_; refine a_next ?_; 
             refine a_ret1 ?_)
          exact hR2 _ (((hF8.trans hF9).trans hF10).trans hF11)
end Go.Proofs.Ytjocklgihjbaiaa
end
section
/- Rows: what a step that comes in looks like, cell by cell. -/
namespace Go.Proofs.Ytjocklgihjbaiaa
open Go.RowKit Go.ChangeShapes Go.WideShapes Go.ChangeAt
theorem cellDrop {cs : List Value} {o n i : Nat} (hi : i < n) : ((cs.drop o).take n)[i]? = cs[o + i]? := by
  rw [List.getElem?_take, if_pos hi, List.getElem?_drop]
theorem cellOne {cs : List Value} {o : Nat} {v : Value} (h : (cs.drop o).take 1 = [v]) : cs[o]? = some v := by
  have := cellDrop (cs := cs) (o := o) (n := 1) (i := 0) (by omega)
  rw [h] at this
  simpa using this.symm
section
variable {H : Type} {enc : TypeId × Value → H} {P : Program} {w : World} {base : Nat} {spare : Nat → Bool} {held : Bool}
/-- A field of a struct, read. -/
theorem fieldRead {t : TypeId} {fs : Array Field} {fuel : Nat} {cs : List Value} {x : DataW H × List MemPlace} (ht : P.underlying t = some (.struct fs)) (h : DataW.trod enc P w base spare held fuel t cs = some x) :
    cs.length = P.cellsOf t ∧ ∃ n, ∀ (i : Nat) (ft o k : Nat), (fs[i]?).map (fun f => (f.type, f.offset, P.cellsOf f.type)) = some (ft, o, k) → ∃ y, DataW.trod enc P w base spare held n ft ((cs.drop o).take k) = some y := by
  obtain ⟨xs, n, _, _, hl, hxl, hall⟩ := DataW.trod_struct ht h
  refine ⟨hl, n, fun i ft o k hf => ?_⟩
  obtain ⟨f, hf1, hf2⟩ := Option.map_eq_some_iff.1 hf
  injection hf2 with e1 e2
  injection e2 with e2 e3
  subst e1 e2 e3
  have := hall i f hf1
  have hlt : i < xs.length := by
    rw [hxl]
    exact (Array.getElem?_eq_some_iff.1 hf1).1
  rw [List.getElem?_eq_getElem hlt] at this
  exact ⟨_, this⟩
theorem intRead {t : TypeId} {k : IntKind} {fuel : Nat} {cs : List Value} {x : DataW H × List MemPlace} {o : Nat} (ht : P.underlying t = some (.int k)) (h : DataW.trod enc P w base spare held fuel t ((cs.drop o).take 1) = some x) : ∃ n, cs[o]? = some (.int k n) := by
  obtain ⟨n, h1, _⟩ := DataW.trod_int ht h
  exact ⟨n, cellOne h1⟩
theorem boolRead {t : TypeId} {fuel : Nat} {cs : List Value} {x : DataW H × List MemPlace} {o : Nat} (ht : P.underlying t = some .bool) (h : DataW.trod enc P w base spare held fuel t ((cs.drop o).take 1) = some x) : ∃ b, cs[o]? = some (.bool b) := by
  obtain ⟨n, h1, _⟩ := DataW.trod_bool ht h
  exact ⟨n, cellOne h1⟩
theorem strRead {t : TypeId} {fuel : Nat} {cs : List Value} {x : DataW H × List MemPlace} {o : Nat} (ht : P.underlying t = some .string) (h : DataW.trod enc P w base spare held fuel t ((cs.drop o).take 1) = some x) : ∃ s, cs[o]? = some (.string s) := by
  obtain ⟨n, h1, _⟩ := DataW.trod_string ht h
  exact ⟨n, cellOne h1⟩
theorem u27 : Try.prog.underlying 27 = some (.struct (Try.prog.fieldsOf 27)) := by kernel_rfl
theorem u35 : Try.prog.underlying 35 = some (.struct (Try.prog.fieldsOf 35)) := by kernel_rfl
theorem u33 : Try.prog.underlying 33 = some (.struct (Try.prog.fieldsOf 33)) := by kernel_rfl
theorem u29 : Try.prog.underlying 29 = some (.struct (Try.prog.fieldsOf 29)) := by kernel_rfl
theorem u31 : Try.prog.underlying 31 = some (.array 7 3) := by kernel_rfl
theorem u9 : Try.prog.underlying 9 = some .string := by kernel_rfl
theorem u4 : Try.prog.underlying 4 = some .bool := by kernel_rfl
theorem u22 : Try.prog.underlying 22 = some (.slice 35) := by kernel_rfl
theorem arrRead {fuel : Nat} {cs : List Value} {x : DataW H × List MemPlace} (h : DataW.trod enc Try.prog w base spare held fuel 31 cs = some x) : ∃ d : Nat → Int, ∀ i, i < 7 → cs[i]? = some (.int .i64 (d i)) := by
  obtain ⟨xs, m, _, _, _, hxl, hall⟩ := DataW.trod_array u31 h
  have hc : Try.prog.cellsOf 3 = 1 := by kernel_rfl
  have key : ∀ i, i < 7 → ∃ n : Int, cs[i]? = some (.int .i64 n) := fun i hi => by
    have := hall i hi
    rw [hc, Nat.mul_one, List.getElem?_eq_getElem (by omega)] at this
    exact intRead und3 this
  exact Go.Deep.choose_lt key
theorem open27 {fuel : Nat} {cs : List Value} {x : DataW H × List MemPlace} (h : DataW.trod enc Try.prog w base spare held fuel 27 cs = some x) : ∃ y : It, cs[0]? = some (.int .i64 y.1) ∧ cs[1]? = some (.int .i64 y.2) := by
  obtain ⟨_, n, hf⟩ := fieldRead u27 h
  obtain ⟨_, h0⟩ := hf 0 3 0 1 (by kernel_rfl)
  obtain ⟨_, h1⟩ := hf 1 3 1 1 (by kernel_rfl)
  obtain ⟨a, ha⟩ := intRead und3 h0
  obtain ⟨b, hb⟩ := intRead und3 h1
  exact ⟨(a, b), ha, hb⟩
theorem open35 {fuel : Nat} {cs : List Value} {x : DataW H × List MemPlace} (h : DataW.trod enc Try.prog w base spare held fuel 35 cs = some x) : ∃ s : StepD, cs = stepL s := by
  obtain ⟨hl, n, hf⟩ := fieldRead u35 h
  have hlen : cs.length = 17 := hl.trans (by kernel_rfl)
  obtain ⟨_, h0⟩ := hf 0 27 0 2 (by kernel_rfl)
  obtain ⟨_, h1⟩ := hf 1 33 2 14 (by kernel_rfl)
  obtain ⟨_, h2⟩ := hf 2 4 16 1 (by kernel_rfl)
  obtain ⟨y, hy1, hy2⟩ := open27 h0
  obtain ⟨g, hg⟩ := boolRead u4 h2
  obtain ⟨_, n2, hf2⟩ := fieldRead u33 h1
  obtain ⟨_, k0⟩ := hf2 0 29 0 6 (by kernel_rfl)
  obtain ⟨_, k1⟩ := hf2 1 31 6 7 (by kernel_rfl)
  obtain ⟨_, k2⟩ := hf2 2 3 13 1 (by kernel_rfl)
  obtain ⟨d, hd⟩ := arrRead k1
  obtain ⟨sq, hsq⟩ := intRead und3 k2
  obtain ⟨_, n3, hf3⟩ := fieldRead u29 k0
  obtain ⟨_, m0⟩ := hf3 0 3 0 1 (by kernel_rfl)
  obtain ⟨_, m1⟩ := hf3 1 9 1 1 (by kernel_rfl)
  obtain ⟨_, m2⟩ := hf3 2 9 2 1 (by kernel_rfl)
  obtain ⟨_, m3⟩ := hf3 3 3 3 1 (by kernel_rfl)
  obtain ⟨_, m4⟩ := hf3 4 3 4 1 (by kernel_rfl)
  obtain ⟨_, m5⟩ := hf3 5 3 5 1 (by kernel_rfl)
  obtain ⟨kd, hkd⟩ := intRead und3 m0
  obtain ⟨ky, hky⟩ := strRead u9 m1
  obtain ⟨vl, hvl⟩ := strRead u9 m2
  obtain ⟨vr, hvr⟩ := intRead und3 m3
  obtain ⟨ss, hss⟩ := intRead und3 m4
  obtain ⟨nm, hnm⟩ := intRead und3 m5
  rw [cellDrop (by omega)] at hy1 hy2 hsq
  rw [cellDrop (by omega), cellDrop (by omega)] at hkd hky hvl hvr hss hnm
  have hd' : ∀ i, i < 7 → cs[2 + (6 + i)]? = some (.int .i64 (d i)) := fun i hi => by
    have := hd i hi
    rwa [cellDrop (by omega), cellDrop (by omega)] at this
  refine ⟨⟨y, ⟨kd, ky, vl, vr, ss, nm, d, sq⟩, g⟩, List.ext_getElem? fun i => ?_⟩
  match i with
  | 0 => exact hy1
  | 1 => exact hy2
  | 2 => exact hkd
  | 3 => exact hky
  | 4 => exact hvl
  | 5 => exact hvr
  | 6 => exact hss
  | 7 => exact hnm
  | 8 => exact hd' 0 (by omega)
  | 9 => exact hd' 1 (by omega)
  | 10 => exact hd' 2 (by omega)
  | 11 => exact hd' 3 (by omega)
  | 12 => exact hd' 4 (by omega)
  | 13 => exact hd' 5 (by omega)
  | 14 => exact hd' 6 (by omega)
  | 15 => exact hsq
  | 16 => exact hg
  | i + 17 =>
    rw [List.getElem?_eq_none (by omega)]
    rfl
theorem okSlice {Q : Program} {t e : TypeId} (hu : Q.underlying t = some (.slice e)) {W : World} {base0 : Nat} {v : Value} (hok : Value.okWide Q W .any base0 t v) :
    v = .slice none 0 0 ∨ ∃ a len cap, v = .slice (some a) len cap ∧ len ≤ cap ∧ (cap : Int) ≤ IntKind.i64.max ∧ W.has Q .any base0 a e cap := by
  unfold Value.okWide at hok
  rw [hu] at hok
  unfold Cell.okWide at hok
  rw [hu] at hok
  unfold Cell.ok at hok
  rw [hu] at hok
  cases v with
  | slice a len cap =>
    cases a with
    | none =>
      cases len with
      | zero =>
        cases cap with
        | zero => exact Or.inl rfl
        | succ n => exact hok.elim
      | succ n => exact hok.elim
    | some a => exact Or.inr ⟨a, len, cap, rfl, hok⟩
  | _ => exact hok.elim
theorem openRow {Q : Program} {t e : TypeId} (hu : Q.underlying t = some (.slice e)) {W : World} {base0 : Nat} {v : Value} {d : DataW H} {p : List MemPlace} (hok : Value.okWide Q W .any base0 t v)
    (h : DataW.Trod enc Q W 0 (fun _ => true) true t v d p) (hc1 : 0 < Q.cellsOf e) :
    v = .slice none 0 0 ∨ ∃ g o len cap n, v = .slice (some ⟨g, o, none⟩) len cap ∧ len ≤ cap ∧ (cap : Int) ≤ 9223372036854775807 ∧ g < W.heap.size ∧
      ∀ i, i < len → ∃ cs x, (∀ j u, cs[j]? = some u → W.cell? ⟨g, o + (i * Q.cellsOf e + j), none⟩ = some u) ∧ DataW.trod enc Q W 0 (fun _ => true) true n e cs = some x := by
  obtain ⟨fuel, h⟩ := h
  rcases okSlice hu hok with rfl | ⟨a, len, cap, rfl, hl, hc, hhas⟩
  · exact Or.inl rfl
  right
  rcases Go.Deep.open_slice hu h with ⟨h1, _⟩ | ⟨a', len', cap', m, n, D, Pl, h1, _, hl', _, hm, _, hx⟩
  · exact absurd h1 (by simp [Value.cells])
  have h1' : (Value.slice (some a) len cap) = .slice (some a') len' cap' := by simpa [Value.cells] using h1
  injection h1' with e1 e2 e3
  injection e1 with e1
  subst e1 e2 e3
  obtain ⟨_, hsp, row, cells, hsh, _⟩ := hhas
  have hlt : a.block < W.heap.size := by
    rcases Nat.lt_or_ge a.block W.heap.size with h | h
    · exact h
    · have : W.heap[a.block]? = none := Array.getElem?_eq_none h
      simp [World.shape?, this] at hsh
  obtain ⟨g, o, sp⟩ := a
  replace hsp : sp = none := hsp
  subst hsp
  refine ⟨g, o, len, cap, n, rfl, hl, hc, hlt, fun i hi => ?_⟩
  simp only [if_true] at hm
  obtain ⟨cs', h3, h4⟩ := hx i (by omega)
  obtain ⟨_, hcl, h5⟩ := World.cells?_some h3
  refine ⟨cs', _, fun j u hj => ?_, h4⟩
  have hjl : j < cs'.length := (List.getElem?_eq_some_iff.1 hj).1
  have := h5 j (by omega)
  rw [Addr.add_mid, Addr.add_mid, hj, Nat.add_assoc] at this
  exact this
instance : Inhabited StepD := ⟨⟨default, ⟨0, default, default, 0, 0, 0, fun _ => 0, 0⟩, false⟩⟩
theorem rowSteps {W : World} {g o len : Nat} (h : ∀ i, i < len → ∃ s : StepD, ∀ j u, (stepL s)[j]? = some u → W.cell? ⟨g, o + (i * 17 + j), none⟩ = some u) :
    ∃ steps : List StepD, steps.length = len ∧ W.rangeAt g o (cellsOf stepL steps) := by
  obtain ⟨S, hS⟩ := Go.Deep.choose_lt h
  refine ⟨(List.range len).map S, by simp, fun j u hj => ?_⟩
  have hl : (cellsOf stepL ((List.range len).map S)).length = ((List.range len).map S).length * 17 := cellsOf_length (fun s => stepL_len s) _
  have hjl := (List.getElem?_eq_some_iff.1 hj).1
  rw [hl, List.length_map, List.length_range] at hjl
  have hi : j / 17 < len := by omega
  have hp := cellsOf_part (fun s => stepL_len s) ((List.range len).map S) (j / 17) (S (j / 17)) (by simp [hi])
  have := hS (j / 17) hi (j % 17) u (by
    rw [← hp, cellDrop (by omega)]
    rw [← hj]
    congr 1
    omega)
  rw [show o + j = o + (j / 17 * 17 + j % 17) by omega]
  exact this
/-- The steps that come in. -/
theorem openSteps {W : World} {v : Value} (key : v = .slice none 0 0 ∨ ∃ g o len cap n, v = .slice (some ⟨g, o, none⟩) len cap ∧ len ≤ cap ∧ (cap : Int) ≤ 9223372036854775807 ∧ g < W.heap.size ∧
      ∀ i, i < len → ∃ cs x, (∀ j u, cs[j]? = some u → W.cell? ⟨g, o + (i * 17 + j), none⟩ = some u) ∧ DataW.trod enc Try.prog W 0 (fun _ => true) true n 35 cs = some x) : ∃ steps : List StepD, Rd W stepL v steps := by
  rcases key with rfl | ⟨g, o, len, cap, n, rfl, hl, hc, hlt, hx⟩
  · exact ⟨[], none, 0, rfl, by simp, Or.inl ⟨rfl, rfl⟩⟩
  obtain ⟨steps, h1, h2⟩ := rowSteps (W := W) (g := g) (o := o) (len := len) fun i hi => by
    obtain ⟨cs, x, h3, h4⟩ := hx i hi
    obtain ⟨s, rfl⟩ := open35 h4
    exact ⟨s, h3⟩
  refine ⟨steps, some ⟨g, o, none⟩, cap, by rw [h1], by omega, Or.inr ⟨g, o, rfl, h2, hlt⟩⟩
end
theorem c35 : Try.prog.cellsOf 35 = 17 := by kernel_rfl
theorem hF_post {W W' : World} (hF : Fr W W') (may : MemPlace → Prop) : W.keptBut W' may := hF.below.frame may
theorem own_ : ownKnob Try.prog.godebug = none := by kernel_rfl
theorem laidOut_ : laidOutB Try.prog = true := by kernel_rfl
theorem u3_ : Try.prog.underlying 3 = some (.int .i64) := by kernel_rfl
theorem u4_ : Try.prog.underlying 4 = some .bool := by kernel_rfl
set_option maxRecDepth 100000 in
theorem runFills_lifted (os : Os) (started : os.Started) (H : Type) (enc : TypeId × Value → H) :
    ReturnsInHanded {} Try.checked os 4 .any (Rows.runFillsSpec.pre6 enc Try.prog Try.f4 Rows.runFillsRow.domain false) (Rows.runFillsSpec.post enc Try.prog Try.f4 false true false false) := by
  refine returnsInHanded_of_change (C := Try.checked) own_ started (by kernel_rfl) Try.func4
    (ChangeSpec.witness6 (enc := enc) (C := Try.checked) false ⟨#[], #[.int .i64 0, .slice none 0 0], []⟩ 8 (by kernel_rfl) (by kernel_rfl) (by kernel_rfl) (by kernel_rfl)) ?_
  intro W base args ds gs before hval0 hW hcnd _
  have hval : ∀ (j : Nat) t v, Try.f4.params[j]? = some t → args[j]? = some v → Value.okWide Try.prog W .any base t v := hval0
  have hW' := hW
  obtain ⟨p, q, hA0, hV, rfl, hfz, hnd⟩ := hW
  have hA : DataW.TrodAll enc Try.prog W 0 (fun _ => true) true Try.f4.params.toList args.toList ds p := hA0
  rw [Try.params4] at hA hval
  obtain ⟨v0, v1, d0, d1, p0, p1, rfl, rfl, rfl, h0, h1⟩ := trodAll_two hA
  obtain ⟨rfl, rfl⟩ := trodVars_none hV
  obtain ⟨a, rfl, rfl, rfl, wa⟩ := open_int u3_ (hval 0 3 v0 rfl rfl) h0
  have key := openRow u22 (hval 1 22 v1 rfl rfl) h1 (by rw [c35]; omega)
  rw [c35] at key
  obtain ⟨steps, hrd⟩ := openSteps key
  have hlt := hW'.lt
  clear hA0 hval0 key
  refine (runFills4 a v1 steps W _ hrd fun W' hF => ?_ : Calls Try.prog 4 #[.int .i64 a, v1] W _)
  refine ⟨_, rfl, ?_⟩
  have hb : DataW.TrodAll enc Try.prog W' 0 (fun b => decide (b < W.heap.size)) true [3, 22] [.int .i64 a, v1] [.lit (.int .i64 a), d1] ([] ++ p1) :=
    trodAll_mk2 (shut_int u3_ wa) (Below.trod laidOut_ (by kernel_rfl) (of_decide_eq_true (by kernel_rfl)) h1 hF.below fun x hx => hlt x (by simpa using hx))
  exact ⟨_, _, _, [], _, [], hW', trodAll_mk1 (shut_bool u4_ true), hb, rfl, hF_post hF _, fun h => nomatch h⟩
theorem runFills_holds : Rows.RunFillsSaid :=
  OpenClaim.holds_of_wide 4 Try.f4 rfl rfl rfl rfl rfl rfl rfl ⟨rfl, rfl, rfl, rfl, rfl⟩ rfl rfl rfl rfl rfl (by kernel_rfl) Try.func4 (by kernel_rfl)
    (of_decide_eq_true (by kernel_rfl)) (by unfold Func.isWrapper; first | (rw [if_pos (by decide +kernel)]; kernel_rfl) | (rw [if_neg (by decide +kernel)]; exact ⟨rfl, rfl⟩))
    (fun os started H enc _ => runFills_lifted os started H enc)
end Go.Proofs.Ytjocklgihjbaiaa
end
