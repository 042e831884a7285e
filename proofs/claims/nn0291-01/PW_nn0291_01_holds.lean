import PyProof.Rows.All
import Wide.All
import OpenK.AllK
import Wide.FinOn
import PySem.Challenge.RW_nn0291_01
open PySem PySem.W PyProof.Rows PySem.Calls PyProof.V PySem.Spec
set_option Elab.async false
set_option maxRecDepth 100000
set_option maxHeartbeats 8000000
set_option linter.unusedVariables false
namespace Mine
open_top hd for PySem.Challenge.rw_nn0291_01

theorem next_spec {w : World} {mean : ExcName → Option Value} {mg mb : Str → Option Value} {dp un : Nat} {gd : Option (List Code)} {cn : Str} {cs : Scope} {a : Addr} {ccd : Value} {cl : List (Str × Addr)} {outer : List Env}
    {A₀ : Around} {base h₀ : Heap} {L : Addr} {m : Str → Option Value} {rest : List (Addr × Obj)} {s : Shared} {l : Addr} {vs : List Value} {ns : List Int} {c : Nat} {Q E : Value → Shared → Prop}
    (B : Below A₀ base outer h₀) (F : Fr h₀ L s.heap m) (X : (hd.heap_39 w.params).In h₀) (N : News h₀ L s.heap ((l, listOf vs.toArray c) :: rest))
    (T : Top hd.view_39 (looseW hd.view_39 []) mean mg mb h₀) (hk : cs.kind = .function) (hI : IntsAre vs ns) (hf : ns.length ≤ 2000) (off : ∀ p ∈ rest, p.1 ≠ l)
    (hdp : dp + 2 < recursionLimit) (hu : un + 80 < cLine)
    (ret : ∀ v t vs' ns' c' h' tk', IntsAre vs' ns' → ns'.length ≤ ns.length → Fr h₀ L h' m → News h₀ L h' ((l, listOf vs'.toArray c') :: rest) → Q (.int v t) { s with heap := h', toks := tk' }) :
    wpAny (model Challenge.rw_nn0291_01.row.prog w) (ktrTop dp un gd cn cs L a ccd cl outer) (call (.ref 70) [.ref l]) Q E s := by
  w_top off
  revert X; k_fill; intro X
  have kMark : KstMark := kstMark
  refine wpAny_call ?_
  k_dflt cell_enter
  iterate 9 (first | (k_unfold; (try dsimp only)) | (k_end; wrow_close) | walk1 | (dsimp only; walk1) | (leave1; walk_say "STEP leave1"; try dsimp only) | fail "no step")
  refine ke_ne_ints (ns := ns) (ms := []) (by is_list) (by is_list) hI IntsAre.nil (by show un + 3 + 64 < cLine; omega) ?_
  have hlen := hI.length
  by_cases hns : ns = []
  · rw [decide_eq_true hns]
    iterate 5 (first | (k_unfold; (try dsimp only)) | (k_end; wrow_close) | walk1 | (dsimp only; walk1) | (leave1; walk_say "STEP leave1"; try dsimp only) | fail "no step")
    rename Fr _ _ _ _ => F1
    rename News _ _ _ _ => N1
    exact ret _ _ vs ns c _ _ hI (Nat.le_refl _) F1 (cb_drop N1 fun p hp => .tail _ hp)
  · rw [decide_eq_false hns]
    have hpos : 0 < ns.length := List.length_pos_iff.mpr hns
    iterate 6 (first | (k_unfold; (try dsimp only)) | (k_end; wrow_close) | walk1 | (dsimp only; walk1) | (leave1; walk_say "STEP leave1"; try dsimp only) | fail "no step")
    rename Fr _ _ _ _ => F1
    rename News _ _ _ _ => N1
    rename _ ∧ _ => l1
    refine kpa_pop F1 N1 (Upd.tail (Nat.ne_of_gt l1.1) (Upd.head off)) hI (by omega) (by rw [sizeLine_eq]; omega) ?_
    intro h9 t9 F9 N9 I9
    iterate 2 (first | (k_unfold; (try dsimp only)) | (k_end; wrow_close) | walk1 | (dsimp only; walk1) | (leave1; walk_say "STEP leave1"; try dsimp only) | fail "no step")
    rename Fr _ _ _ _ => F1
    rename News _ _ _ _ => N1
    exact ret _ _ _ _ _ _ _ I9 (by rw [List.length_dropLast]; omega) F1 (cb_drop N1 fun p hp => .tail _ hp)

theorem led_sub {α : Type} {a b : α} {r o o2 : List α} : ∀ p ∈ a :: b :: (r ++ o), p ∈ a :: b :: (r ++ (o ++ o2)) := by
  intro p hp
  simp only [List.mem_cons, List.mem_append] at hp ⊢
  rcases hp with h | h | h | h <;> simp [h]
theorem led_sub0 {α : Type} {a b : α} {r o : List α} : ∀ p ∈ a :: b :: r, p ∈ a :: b :: (r ++ o) := by
  intro p hp
  simp only [List.mem_cons, List.mem_append] at hp ⊢
  rcases hp with h | h | h <;> simp [h]
theorem led_own0 {α : Type} {a b : α} {r o : List α} : ∀ p ∈ o, p ∈ a :: b :: (r ++ o) := by
  intro p hp
  simp [hp]
theorem led_own {α : Type} {a b : α} {r o o2 : List α} : ∀ p ∈ o2, p ∈ a :: b :: (r ++ (o ++ o2)) := by
  intro p hp
  simp [hp]
theorem row_spec {w : World} {mean : ExcName → Option Value} {mg mb : Str → Option Value} {dp un : Nat} {gd : Option (List Code)} {cn : Str} {cs : Scope} {a : Addr} {ccd : Value} {cl : List (Str × Addr)} {outer : List Env}
    {A₀ : Around} {base h₀ : Heap} {L : Addr} {m : Str → Option Value} {rest : List (Addr × Obj)} {s : Shared} {l : Addr} {vs : List Value} {ns : List Int} {Q E : Value → Shared → Prop}
    (B : Below A₀ base outer h₀) (F : Fr h₀ L s.heap m) (X : (hd.heap_39 w.params).In h₀) (N : News h₀ L s.heap rest)
    (T : Top hd.view_39 (looseW hd.view_39 []) mean mg mb h₀) (hk : cs.kind = .function) (hl : h₀.IsList l vs.toArray) (hI : IntsAre vs ns) (hf : ns.length ≤ 63)
    (hdp : dp + 2 < recursionLimit) (hu : un + 80 < cLine)
    (ret : ∀ l' vs' ns' c' h' tk', IntsAre vs' ns' → ns'.length ≤ 2000 → (∀ p ∈ rest, p.1 < l') → Fr h₀ L h' m → News h₀ L h' ((l', listOf vs'.toArray c') :: rest) → Q (.ref l') { s with heap := h', toks := tk' }) :
    wpAny (model Challenge.rw_nn0291_01.row.prog w) (ktrTop dp un gd cn cs L a ccd cl outer) (call (.ref 63) [.ref l]) Q E s := by
  w_top off
  revert X; k_fill; intro X
  have kMark : KstMark := kstMark
  refine wpAny_call ?_
  k_dflt cell_enter
  rename Fr h₀ L _ m => FG
  have hlG := stays_list FG.keep hl
  iterate 8 (first | (k_unfold; (try dsimp only)) | (k_end; wrow_close) | walk1 | (dsimp only; walk1) | (leave1; walk_say "STEP leave1"; try dsimp only) | fail "no step")
  rename Fr _ _ _ _ => F1
  (with_unfolding_all refine' For_invVF F1 ?k1 ?k2 ?_; (case k1 => exact rfl); (case k2 => exact rfl))
  iterate 8 (first | (k_unfold; (try dsimp only)) | (k_end; wrow_close) | walk1 | (dsimp only; walk1) | (leave1; walk_say "STEP leave1"; try dsimp only) | fail "no step")
  rename_i l1 h3 l1lt h4 D ws h5 F5 N5 hI5 hC5 hL5 l5
  refine kst_listL (σ := List Value × List Int × Nat) (x := Str.ofString "cell") (fun c => (D, listOf ws.toArray 0) :: (l1, listOf c.1.toArray c.2.2) :: rest) (fun _ => []) (fun c => IntsAre c.1 c.2.1)
    [Str.ofString "number", Str.ofString "turn"] (fun pre c => c.2.1.length ≤ 31 * pre.length) ([], [], 0) rfl (fun _ => .head _) hI5 F5 N5 .nil (fun _ h => nomatch h) (Nat.zero_le _) ?_ ?_
  · rintro ⟨us, zs, k⟩ pre post n t u h6 tk6 own hEq hMem hOff hFacts hInv F6 N6
    dsimp only [kstB] at hFacts hInv F6 N6 hOff ⊢
    simp only [List.map_cons, List.cons_append] at hOff N6
    clear F5 N5
    have hb : ∀ p ∈ rest ++ own, p.1 ≠ l1 := by
      intro p hp
      rcases List.mem_append.mp hp with h | h
      · exact Nat.ne_of_lt (l1lt p h)
      · exact hOff p h l1 (.tail _ (.head _))
    have hlu := hFacts.length
    have hpl : pre.length < 40 := by
      have := congrArg List.length hEq
      rw [hC5, List.length_append, List.length_cons] at this
      omega
    iterate 7 (first | (k_unfold; (try dsimp only)) | (k_end; wrow_close) | walk1 | (dsimp only; walk1) | (leave1; walk_say "STEP leave1"; try dsimp only) | fail "no step")
    iterate 2 (first | (k_unfold; (try dsimp only)) | (k_end; wrow_close) | walk1 | (dsimp only; walk1) | (leave1; walk_say "STEP leave1"; try dsimp only) | fail "no step")
    focus (iterate 2 (first | (k_unfold; (try dsimp only)) | (k_end; wrow_close) | walk1 | (dsimp only; walk1) | (leave1; walk_say "STEP leave1"; try dsimp only) | fail "no step"))
    rotate_left
    focus (iterate 5 (first | (k_unfold; (try dsimp only)) | (k_end; wrow_close) | walk1 | (dsimp only; walk1) | (leave1; walk_say "STEP leave1"; try dsimp only) | fail "no step"))
    all_goals (
      iterate 12 (first | (k_unfold; (try dsimp only)) | (k_end; wrow_close) | walk1 | (dsimp only; walk1) | (leave1; walk_say "STEP leave1"; try dsimp only) | fail "no step")
      rename Fr _ _ _ _ => F7
      rename News _ _ _ _ => N7
      refine append_K F7 N7 (Upd.tail (Nat.ne_of_gt l5.1) (Upd.head hb)) ?_ (by rw [List.size_toArray, sizeLine_eq]; omega)
      intro h8 F8 N8
      simp only [List.push_toArray] at N8
      clear F7 N7
      iterate 9 (first | (k_unfold; (try dsimp only)) | (k_end; wrow_close) | walk1 | (dsimp only; walk1) | (leave1; walk_say "STEP leave1"; try dsimp only) | fail "no step")
      rename Fr _ _ _ _ => F7
      (with_unfolding_all refine' For_invVF F7 ?k1 ?k2 ?_; (case k1 => exact rfl); (case k2 => exact rfl))
      iterate 7 (first | (k_unfold; (try dsimp only)) | (k_end; wrow_close) | walk1 | (dsimp only; walk1) | (leave1; walk_say "STEP leave1"; try dsimp only) | fail "no step")
      rename Fr _ _ _ _ => F7
      rename News _ _ _ _ => N7
      rename IsRange _ _ _ _ _ _ _ _ => rgX
      refine' kst_range (σ := Int × Tok × List Value × List Int × Nat) (x := Str.ofString "turn") (fun c => (D, listOf ws.toArray 0) :: (l1, listOf c.2.2.1.toArray c.2.2.2.2) :: (rest ++ own)) (fun c => [(Str.ofString "number", .int c.1 c.2.1)]) (fun c => IntsAre c.2.2.1 c.2.2.2.1)
        [] (fun pre2 c => c.2.2.2.1.length ≤ zs.length + 1 + pre2.length) (_, _, _, zs ++ [_], _) rfl rgX (small_one (by omega) (by omega) (by omega) (by omega)) (rangeSize_nat _ _) F7 N7 (IntsAre.append hFacts (.cons _ _ .nil)) ?kk ?kp ?_ ?_
      case kk => kst_all
      case kp => simp only [List.length_append, List.length_cons, List.length_nil]; omega
      · rintro ⟨vn, vt, us2, zs2, k3⟩ pre2 i2 t2 u2 h9 tk9 own2 hk2 hlt2 hOff2 hFacts2 hInv2 F9 N9
        dsimp only [kstB] at hFacts2 hInv2 F9 N9 hOff2 ⊢
        simp only [List.map_cons, List.cons_append, List.append_assoc] at hOff2 N9
        clear F7 N7
        have hlu2 := hFacts2.length
        have hb2 : ∀ p ∈ rest ++ (own ++ own2), p.1 ≠ l1 := by
          intro p hp
          rcases List.mem_append.mp hp with h | h
          · exact Nat.ne_of_lt (l1lt p h)
          rcases List.mem_append.mp h with h | h
          · exact hOff p h l1 (.tail _ (.head _))
          · exact hOff2 p h l1 (.tail _ (.head _))
        iterate 6 (first | (k_unfold; (try dsimp only)) | (k_end; wrow_close) | walk1 | (dsimp only; walk1) | (leave1; walk_say "STEP leave1"; try dsimp only) | fail "no step")
        iterate 2 (first | (k_unfold; (try dsimp only)) | (k_end; wrow_close) | walk1 | (dsimp only; walk1) | (leave1; walk_say "STEP leave1"; try dsimp only) | fail "no step")
        · iterate 24 (first | (k_unfold; (try dsimp only)) | (k_end; wrow_close) | walk1 | (dsimp only; walk1) | (leave1; walk_say "STEP leave1"; try dsimp only) | fail "no step")
          rename Fr _ _ _ _ => F7
          rename News _ _ _ _ => N7
          simp only [List.push_toArray] at N7
          refine' kst_end (_, _, _, zs2 ++ [vn.fmod 1024], _) F7 N7 led_sub led_own rfl (IntsAre.append hFacts2 (.cons _ _ .nil)) ?e1 ?e2 ?e3
          case e1 => kst_all
          case e2 => kst_same
          case e3 => simp only [List.length_append, List.length_cons, List.length_nil]; omega
        · iterate 3 (first | (k_unfold; (try dsimp only)) | (k_end; wrow_close) | walk1 | (dsimp only; walk1) | (leave1; walk_say "STEP leave1"; try dsimp only) | fail "no step")
          refine kst_end (vn, vt, us2, zs2, k3) F9 N9 led_sub led_own rfl hFacts2 ?_ ?_ ?_
          · kst_all
          · kst_same
          · simp only [List.length_append, List.length_cons, List.length_nil]; omega
      · rintro ⟨vn, vt, us2, zs2, k3⟩ u2 h9 tk9 hFacts2 hInv2 F9 N9
        dsimp only [kstB] at hFacts2 hInv2 F9 N9 ⊢
        rw [rangeKs_length] at hInv2
        clear F7 N7
        have hlu2 := hFacts2.length
        (first | (k_unfold; (try dsimp only)) | (k_end; wrow_close) | walk1 | (dsimp only; walk1) | (leave1; walk_say "STEP leave1"; try dsimp only) | fail "no step")
        refine kst_end (us2, zs2, k3) F9 N9 led_sub0 led_own0 rfl hFacts2 ?_ ?_ ?_
        · exact fun _ h => nomatch h
        · kst_same
        · simp only [List.length_append, List.length_cons, List.length_nil]
          omega)
  · rintro ⟨us, zs, k⟩ u h6 tk6 hFacts hInv F6 N6
    dsimp only [kstB] at hFacts hInv F6 N6 ⊢
    clear F5 N5
    have hlu := hFacts.length
    have hz : zs.length ≤ 1240 := by omega
    iterate 17 (first | (k_unfold; (try dsimp only)) | (k_end; wrow_close) | walk1 | (dsimp only; walk1) | (leave1; walk_say "STEP leave1"; try dsimp only) | fail "no step")
    rename Fr _ _ _ _ => F7
    rename News _ _ _ _ => N7
    rename _ ∧ _ => l7
    rename IntsAre _ (List.take 160 zs) => I7
    have h7 := I7.length
    have h8 : (List.take 160 zs).length ≤ zs.length := by rw [List.length_take]; omega
    refine kl_reverse F7 N7 rfl (Upd.head ?_) (Nat.le_trans (Nat.le_of_eq h7) (by rw [sizeLine_eq]; omega)) ?_
    · intro p hp
      rcases List.mem_cons.mp hp with rfl | hp
      · exact Nat.ne_of_lt l7.1
      rcases List.mem_cons.mp hp with rfl | hp
      · exact Nat.ne_of_lt l7.2.1
      exact Nat.ne_of_lt (kst_ltOf l7.2.2 p hp)
    intro h9 F9 N9
    clear F7 N7
    iterate 4 (first | (k_unfold; (try dsimp only)) | (k_end; wrow_close) | walk1 | (dsimp only; walk1) | (leave1; walk_say "STEP leave1"; try dsimp only) | fail "no step")
    rename Fr h₀ L _ _ => F8
    rename News h₀ L _ _ => N8
    exact ret _ _ _ _ _ _ (IntsAre.reverse I7) (by rw [List.length_reverse]; omega) (kst_ltOf l7.2.2) F8 (cb_drop N8 fun p hp => by
      rcases List.mem_cons.mp hp with rfl | hp
      · exact .head _
      · exact .tail _ (.tail _ (.tail _ hp)))

theorem led_swap {α : Type} {a b : α} {r : List α} : ∀ p ∈ a :: b :: r, p ∈ b :: a :: r := by
  intro p hp
  simp only [List.mem_cons] at hp ⊢
  rcases hp with h | h | h <;> simp [h]
theorem bits_spec {w : World} {mean : ExcName → Option Value} {mg mb : Str → Option Value} {dp un : Nat} {gd : Option (List Code)} {cn : Str} {cs : Scope} {a : Addr} {ccd : Value} {cl : List (Str × Addr)} {outer : List Env}
    {A₀ : Around} {base h₀ : Heap} {L : Addr} {m : Str → Option Value} {rest : List (Addr × Obj)} {s : Shared} {l : Addr} {vs : List Value} {ns : List Int} {c : Nat} {wd : Int} {wt : Tok} {Q E : Value → Shared → Prop}
    (B : Below A₀ base outer h₀) (F : Fr h₀ L s.heap m) (X : (hd.heap_39 w.params).In h₀) (N : News h₀ L s.heap ((l, listOf vs.toArray c) :: rest))
    (T : Top hd.view_39 (looseW hd.view_39 []) mean mg mb h₀) (hk : cs.kind = .function) (hI : IntsAre vs ns) (hf : ns.length ≤ 2000) (off : ∀ p ∈ rest, p.1 ≠ l) (hw1 : 1 ≤ wd) (hw8 : wd ≤ 8)
    (hdp : dp + 4 < recursionLimit) (hu : un + 100 < cLine)
    (ret : ∀ lb bs zs cb vs' ns' c' h' tk', IntsAre bs zs → (zs.length : Int) = wd → (∀ z ∈ zs, 0 ≤ z ∧ z ≤ 3) → IntsAre vs' ns' → ns'.length ≤ ns.length → l < lb → (∀ p ∈ rest, p.1 < lb) →
      Fr h₀ L h' m → News h₀ L h' ((lb, listOf bs.toArray cb) :: (l, listOf vs'.toArray c') :: rest) → Q (.ref lb) { s with heap := h', toks := tk' }) :
    wpAny (model Challenge.rw_nn0291_01.row.prog w) (ktrTop dp un gd cn cs L a ccd cl outer) (call (.ref 77) [.ref l, .int wd wt]) Q E s := by
  w_top off
  revert X; k_fill; intro X
  have kMark : KstMark := kstMark
  refine wpAny_call ?_
  k_dflt cell_enter
  rename Fr h₀ L _ m => FG
  rename Below _ _ _ _ => BG
  rename Frag.In _ _ => XG
  rename Top _ _ _ _ _ _ => TG
  iterate 9 (first | (k_unfold; (try dsimp only)) | (k_end; wrow_close) | walk1 | (dsimp only; walk1) | (leave1; walk_say "STEP leave1"; try dsimp only) | fail "no step")
  rename_i lb h2 lblt h3 F3 N3
  have hlb : l < lb := by first | exact lblt.1 | exact lblt _ (.head _)
  (with_unfolding_all refine' For_invVF F3 ?k1 ?k2 ?_; (case k1 => exact rfl); (case k2 => exact rfl))
  iterate 13 (first | (k_unfold; (try dsimp only)) | (k_end; wrow_close) | walk1 | (dsimp only; walk1) | (leave1; walk_say "STEP leave1"; try dsimp only) | fail "no step")
  rename Fr _ _ _ _ => F7
  rename News _ _ _ _ => N7
  rename IsRange _ _ _ _ _ _ _ _ => rgX
  have hrest : ∀ p ∈ rest, p.1 < lb := by first | exact kst_ltOf lblt.2 | exact fun p hp => lblt p (.tail _ hp)
  have hn5 : ((wd + 4).fdiv 5 - 0).toNat = ((wd + 4) / 5).toNat := by
    rw [Int.fdiv_eq_ediv_of_nonneg _ (by omega : (0:Int) ≤ 5), Int.sub_zero]
  have hn6 : ((wd + 4).fdiv 5) = ((wd + 4) / 5) := Int.fdiv_eq_ediv_of_nonneg _ (by omega : (0:Int) ≤ 5)
  refine' kst_range (σ := List Value × List Int × Nat × List Value × List Int × Nat) (x := Str.ofString "turn") (fun c => (lb, listOf c.1.toArray c.2.2.1) :: (l, listOf c.2.2.2.1.toArray c.2.2.2.2.2) :: rest) (fun _ => []) (fun c => IntsAre c.1 c.2.1 ∧ IntsAre c.2.2.2.1 c.2.2.2.2.1)
    [Str.ofString "number", Str.ofString "step"] (fun pre c => c.2.1.length = 5 * pre.length ∧ (∀ z ∈ c.2.1, 0 ≤ z ∧ z ≤ 3) ∧ c.2.2.2.2.1.length ≤ ns.length) ([], [], 0, vs, ns, c) rfl rgX (small_one (by omega) (by omega) (by omega) (by omega)) (rangeSize_nat _ _) F7 N7 ⟨.nil, hI⟩ (List.forall_mem_nil _) ⟨rfl, List.forall_mem_nil _, Nat.le_refl _⟩ ?_ ?_
  · rintro ⟨bs, zs, cb, vs2, ns2, c2⟩ pre i t u h6 tk6 own hi hlt hOff hFacts hInv F6 N6
    dsimp only [kstB] at hFacts hInv F6 N6 hOff ⊢
    simp only [List.map_cons, List.cons_append] at hOff N6
    clear F7 N7
    obtain ⟨hB, hV⟩ := hFacts
    obtain ⟨hL5, hz3, hns⟩ := hInv
    rw [hn5] at hlt
    have hlen := hB.length
    have hlv := hV.length
    iterate 9 (first | (k_unfold; (try dsimp only)) | (k_end; wrow_close) | walk1 | (dsimp only; walk1) | (leave1; walk_say "STEP leave1"; try dsimp only) | fail "no step")
    have hoffL : ∀ p ∈ (lb, listOf bs.toArray cb) :: (rest ++ own), p.1 ≠ l := by
      intro p hp
      rcases List.mem_cons.mp hp with rfl | hp
      · exact Nat.ne_of_gt hlb
      rcases List.mem_append.mp hp with h | h
      · exact off p h
      · exact hOff p h l (.tail _ (.head _))
    refine next_spec (rest := (lb, listOf bs.toArray cb) :: (rest ++ own)) BG F6 XG (cb_drop N6 led_swap) TG rfl hV (by omega) hoffL (by show dp + 1 + 2 < _; omega) (by show un + 3 + 80 < _; omega) ?_
    intro v t1 vs3 ns3 c3 h7 tk7 hV3 hns3 F8 N8
    replace N8 := cb_drop N8 led_swap
    clear F6 N6
    iterate 3 (first | (k_unfold; (try dsimp only)) | (k_end; wrow_close) | walk1 | (dsimp only; walk1) | (leave1; walk_say "STEP leave1"; try dsimp only) | fail "no step")
    rename Fr _ _ _ _ => F7
    (with_unfolding_all refine' For_invVF F7 ?k1 ?k2 ?_; (case k1 => exact rfl); (case k2 => exact rfl))
    iterate 7 (first | (k_unfold; (try dsimp only)) | (k_end; wrow_close) | walk1 | (dsimp only; walk1) | (leave1; walk_say "STEP leave1"; try dsimp only) | fail "no step")
    rename Fr _ _ _ _ => F7
    rename News _ _ _ _ => N7
    rename IsRange _ _ _ _ _ _ _ _ => rgX
    refine' kst_range (σ := Int × Tok × List Value × List Int × Nat) (x := Str.ofString "step") (fun c => (lb, listOf c.2.2.1.toArray c.2.2.2.2) :: (l, listOf vs3.toArray c3) :: (rest ++ own)) (fun c => [(Str.ofString "number", .int c.1 c.2.1)]) (fun c => IntsAre c.2.2.1 c.2.2.2.1)
      [] (fun pre2 c => c.2.2.2.1.length = zs.length + pre2.length ∧ (∀ z ∈ c.2.2.2.1, 0 ≤ z ∧ z ≤ 3)) (_, _, bs, zs, cb) rfl rgX (small_one (by omega) (by omega) (by omega) (by omega)) (rangeSize_nat _ _) F7 N7 hB ?kk ⟨rfl, hz3⟩ ?_ ?_
    case kk => kst_all
    · rintro ⟨vn, vt, bs2, zs2, cb2⟩ pre2 i2 t2 u2 h9 tk9 own2 hk2 hlt2 hOff2 hFacts2 hInv2 F9 N9
      dsimp only [kstB] at hFacts2 hInv2 F9 N9 hOff2 ⊢
      simp only [List.map_cons, List.cons_append, List.append_assoc] at hOff2 N9
      clear F7 N7
      obtain ⟨hl6, hz6⟩ := hInv2
      have hlu2 := hFacts2.length
      iterate 12 (first | (k_unfold; (try dsimp only)) | (k_end; wrow_close) | walk1 | (dsimp only; walk1) | (leave1; walk_say "STEP leave1"; try dsimp only) | fail "no step")
      have hoffB : ∀ p ∈ (l, listOf vs3.toArray c3) :: (rest ++ (own ++ own2)), p.1 ≠ lb := by
        intro p hp
        rcases List.mem_cons.mp hp with rfl | hp
        · exact Nat.ne_of_lt hlb
        rcases List.mem_append.mp hp with h | h
        · exact Nat.ne_of_lt (hrest p h)
        rcases List.mem_append.mp h with h | h
        · exact hOff p h lb (.head _)
        · exact hOff2 p h lb (.head _)
      refine append_K F9 N9 (Upd.head hoffB) ?_ (by rw [List.size_toArray, sizeLine_eq]; omega)
      intro h8 F8 N8
      simp only [List.push_toArray] at N8
      clear F9 N9
      iterate 9 (first | (k_unfold; (try dsimp only)) | (k_end; wrow_close) | walk1 | (dsimp only; walk1) | (leave1; walk_say "STEP leave1"; try dsimp only) | fail "no step")
      rename Fr _ _ _ _ => F7
      rename News _ _ _ _ => N7
      have hv0 := fmod_lo vn (by omega : (0:Int) < 4)
      have hv4 := fmod_hi vn (by omega : (0:Int) < 4)
      refine' kst_end (_, _, _, zs2 ++ [vn.fmod 4], _) F7 N7 led_sub led_own rfl (IntsAre.append hFacts2 (.cons _ _ .nil)) ?e1 ?e2 ?e3
      case e1 => kst_all
      case e2 => kst_same
      case e3 =>
        refine ⟨by simp only [List.length_append, List.length_cons, List.length_nil]; omega, fun z hz => ?_⟩
        rcases List.mem_append.mp hz with h | h
        · exact hz6 z h
        · rw [List.mem_singleton.mp h]; omega
    · rintro ⟨vn, vt, bs2, zs2, cb2⟩ u2 h9 tk9 hFacts2 hInv2 F9 N9
      dsimp only [kstB] at hFacts2 hInv2 F9 N9 ⊢
      rw [rangeKs_length] at hInv2
      clear F7 N7
      obtain ⟨hl6, hz6⟩ := hInv2
      (first | (k_unfold; (try dsimp only)) | (k_end; wrow_close) | walk1 | (dsimp only; walk1) | (leave1; walk_say "STEP leave1"; try dsimp only) | fail "no step")
      refine kst_end (bs2, zs2, cb2, vs3, ns3, c3) F9 N9 led_sub0 led_own0 rfl ⟨hFacts2, hV3⟩ (List.forall_mem_nil _) ?_ ?_
      · kst_same
      · exact ⟨by simp only [List.length_append, List.length_cons, List.length_nil]; omega, hz6, Nat.le_trans hns3 hns⟩
  · rintro ⟨bs, zs, cb, vs2, ns2, c2⟩ u h6 tk6 hFacts hInv F6 N6
    dsimp only [kstB] at hFacts hInv F6 N6 ⊢
    rw [rangeKs_length] at hInv
    clear F7 N7
    obtain ⟨hB, hV⟩ := hFacts
    obtain ⟨hL5, hz3, hns⟩ := hInv
    rw [hn5] at hL5
    have hlen := hB.length
    have hlv := hV.length
    have hwl : wd ≤ zs.length := by omega
    iterate 9 (first | (k_unfold; (try dsimp only)) | (k_end; wrow_close) | walk1 | (dsimp only; walk1) | (leave1; walk_say "STEP leave1"; try dsimp only) | fail "no step")
    iterate 2 (first | (k_unfold; (try dsimp only)) | (k_end; wrow_close) | walk1 | (dsimp only; walk1) | (leave1; walk_say "STEP leave1"; try dsimp only) | fail "no step")
    rename Fr h₀ L _ _ => F8
    rename News h₀ L _ _ => N8
    rename _ ∧ _ => l8
    rename IntsAre _ (List.take wd.toNat zs) => I8
    exact ret _ _ _ _ _ _ _ _ _ I8 (by rw [List.length_take]; omega) (fun z hz => hz3 z (List.mem_of_mem_take hz)) hV hns l8.2.1 (kst_ltOf l8.2.2) F8 (cb_drop N8 fun p hp => by
      rcases List.mem_cons.mp hp with rfl | hp
      · exact .head _
      · exact .tail _ (.tail _ hp))

def lowOf : List Int → Int
  | [] => 0
  | z :: r => z % 2 + 2 * lowOf r
def highOf : List Int → Int
  | [] => 0
  | z :: r => z / 2 + 2 * highOf r

theorem led_sub1 {α : Type} {a : α} {r o : List α} : ∀ p ∈ a :: r, p ∈ a :: (r ++ o) := by
  intro p hp
  simp only [List.mem_cons, List.mem_append] at hp ⊢
  rcases hp with h | h <;> simp [h]
theorem led_own1 {α : Type} {a : α} {r o : List α} : ∀ p ∈ o, p ∈ a :: (r ++ o) := by
  intro p hp
  simp [hp]
theorem lowOf_snoc : ∀ (xs : List Int) (z : Int), lowOf (xs ++ [z]) = lowOf xs + z % 2 * 2 ^ xs.length
  | [], z => by simp [lowOf]
  | x :: r, z => by
    simp only [List.cons_append, lowOf, lowOf_snoc r z, List.length_cons, Int.pow_succ, Int.mul_add]
    have : 2 * (z % 2 * 2 ^ r.length) = z % 2 * (2 ^ r.length * 2) := by rw [Int.mul_comm 2, Int.mul_assoc]
    omega
theorem highOf_snoc : ∀ (xs : List Int) (z : Int), highOf (xs ++ [z]) = highOf xs + z / 2 * 2 ^ xs.length
  | [], z => by simp [highOf]
  | x :: r, z => by
    simp only [List.cons_append, highOf, highOf_snoc r z, List.length_cons, Int.pow_succ, Int.mul_add]
    have : 2 * (z / 2 * 2 ^ r.length) = z / 2 * (2 ^ r.length * 2) := by rw [Int.mul_comm 2, Int.mul_assoc]
    omega
theorem take_snoc {zs : List Int} {k : Nat} (h : k < zs.length) : zs.take (k + 1) = zs.take k ++ [zs.getD k 0] := by
  rw [List.take_add_one, List.getD_eq_getElem?_getD, List.getElem?_eq_getElem h]
  rfl
theorem low_step {zs : List Int} {k : Nat} (h : k < zs.length) : lowOf (zs.take (k + 1)) = lowOf (zs.take k) + (zs.getD k 0).fmod 2 * 2 ^ k := by
  rw [take_snoc h, lowOf_snoc, List.length_take, Nat.min_eq_left (Nat.le_of_lt h), Int.fmod_eq_emod_of_nonneg _ (by omega)]
theorem high_step {zs : List Int} {k : Nat} (h : k < zs.length) : highOf (zs.take (k + 1)) = highOf (zs.take k) + (zs.getD k 0).fdiv 2 * 2 ^ k := by
  rw [take_snoc h, highOf_snoc, List.length_take, Nat.min_eq_left (Nat.le_of_lt h), Int.fdiv_eq_ediv_of_nonneg _ (by omega)]
theorem made_spec {w : World} {mean : ExcName → Option Value} {mg mb : Str → Option Value} {dp un : Nat} {gd : Option (List Code)} {cn : Str} {cs : Scope} {a : Addr} {ccd : Value} {cl : List (Str × Addr)} {outer : List Env}
    {A₀ : Around} {base h₀ : Heap} {L : Addr} {m : Str → Option Value} {rest : List (Addr × Obj)} {s : Shared} {lb : Addr} {bs : List Value} {zs : List Int} {cb : Nat} {Q E : Value → Shared → Prop}
    (B : Below A₀ base outer h₀) (F : Fr h₀ L s.heap m) (X : (hd.heap_39 w.params).In h₀) (N : News h₀ L s.heap ((lb, listOf bs.toArray cb) :: rest))
    (T : Top hd.view_39 (looseW hd.view_39 []) mean mg mb h₀) (hk : cs.kind = .function) (hI : IntsAre bs zs) (hf : zs.length ≤ 8) (hz : ∀ z ∈ zs, 0 ≤ z ∧ z ≤ 3)
    (hdp : dp + 2 < recursionLimit) (hu : un + 80 < cLine)
    (ret : ∀ t t1 t2 t3 h' tk', lb < t → (∀ p ∈ rest, p.1 < t) → Fr h₀ L h' m → News h₀ L h' ((t, { cls := .type "tuple", data := .seq #[.int (zs.length : Int) t1, .int (lowOf zs) t2, .int (highOf zs) t3] }) :: (lb, listOf bs.toArray cb) :: rest) → Q (.ref t) { s with heap := h', toks := tk' }) :
    wpAny (model Challenge.rw_nn0291_01.row.prog w) (ktrTop dp un gd cn cs L a ccd cl outer) (call (.ref 84) [.ref lb]) Q E s := by
  w_top off
  revert X; k_fill; intro X
  have kMark : KstMark := kstMark
  refine wpAny_call ?_
  k_dflt cell_enter
  rename Fr h₀ L _ m => FG
  rename Below _ _ _ _ => BG
  rename Frag.In _ _ => XG
  rename Top _ _ _ _ _ _ => TG
  iterate 10 (first | (k_unfold; (try dsimp only)) | (k_end; wrow_close) | walk1 | (dsimp only; walk1) | (leave1; walk_say "STEP leave1"; try dsimp only) | fail "no step")
  rename Fr _ _ _ _ => F3
  (with_unfolding_all refine' For_invVF F3 ?k1 ?k2 ?_; (case k1 => exact rfl); (case k2 => exact rfl))
  iterate 13 (first | (k_unfold; (try dsimp only)) | (k_end; wrow_close) | walk1 | (dsimp only; walk1) | (leave1; walk_say "STEP leave1"; try dsimp only) | fail "no step")
  rename Fr _ _ _ _ => F7
  rename News _ _ _ _ => N7
  rename IsRange _ _ _ _ _ _ _ _ => rgX
  refine' kst_range (σ := Int × Tok × Int × Tok) (x := Str.ofString "spot") (fun c => (lb, listOf bs.toArray cb) :: rest) (fun c => [(Str.ofString "low", .int c.1 c.2.1), (Str.ofString "high", .int c.2.2.1 c.2.2.2)]) (fun c => True)
    [] (fun pre c => c.1 = lowOf (zs.take pre.length) ∧ c.2.2.1 = highOf (zs.take pre.length)) (_, _, _, _) rfl rgX (small_one (by omega) (by omega) (by omega) (by omega)) (rangeSize_nat _ _) F7 N7 trivial ?kk ?kp ?_ ?_
  case kk => kst_all
  case kp => exact ⟨rfl, rfl⟩
  · rintro ⟨lo, lt, hi, ht⟩ pre i t u h6 tk6 own hi1 hlt hOff hFacts hInv F6 N6
    dsimp only [kstB] at hFacts hInv F6 N6 hOff ⊢
    simp only [List.map_cons, List.cons_append] at hOff N6
    clear F7 N7
    obtain ⟨hlo, hhi⟩ := hInv
    have hi0 : 0 ≤ i := by omega
    have hi8 : i < (zs.length : Int) := by omega
    have hi9 : i < 8 := by omega
    have hpl : pre.length < zs.length := by omega
    have hik : i.toNat = pre.length := by omega
    have hzi : 0 ≤ zs.getD i.toNat 0 ∧ zs.getD i.toNat 0 ≤ 3 := by
      rw [hik, List.getD_eq_getElem?_getD, List.getElem?_eq_getElem hpl]
      exact hz _ (List.getElem_mem hpl)
    have hmul : IntMulOk ((zs.getD i.toNat 0).fdiv 2) (2 ^ i.toNat) := by
      refine IntMulOk.of_left (intBits_le_64 ?_ ?_) <;> rw [Int.fdiv_eq_ediv_of_nonneg _ (by omega)] <;> omega
    iterate 37 (first | (k_unfold; (try dsimp only)) | (k_end; wrow_close) | walk1 | (dsimp only; walk1) | (leave1; walk_say "STEP leave1"; try dsimp only) | fail "no step")
    rename Fr _ _ _ _ => F7
    rename News _ _ _ _ => N7
    refine' kst_end (_, _, _, _) F7 N7 led_sub1 led_own1 rfl trivial ?e1 ?e2 ?e3
    case e1 => kst_all
    case e2 => kst_same
    case e3 =>
      refine ⟨?_, ?_⟩
      · rw [List.length_append, List.length_singleton, low_step hpl, hlo, hik]
      · rw [List.length_append, List.length_singleton, high_step hpl, hhi, hik]
  · rintro ⟨lo, lt, hi, ht⟩ u h6 tk6 hFacts hInv F6 N6
    dsimp only [kstB] at hFacts hInv F6 N6 ⊢
    rw [rangeKs_length, List.take_of_length_le (by omega)] at hInv
    clear F7 N7
    obtain ⟨hlo, hhi⟩ := hInv
    subst hlo hhi
    iterate 18 (first | (k_unfold; (try dsimp only)) | (k_end; wrow_close) | walk1 | (dsimp only; walk1) | (leave1; walk_say "STEP leave1"; try dsimp only) | fail "no step")
    rename Fr h₀ L _ _ => F8
    rename News h₀ L _ _ => N8
    rename _ ∧ AllLt _ rest => l8
    exact ret _ _ _ _ _ _ l8.1 (kst_ltOf l8.2) F8 N8

def minOf : List Int → Int
  | [] => 0
  | [a] => a
  | [a, b] => min a b
  | a :: b :: c :: _ => min (min a b) c
def pickV (ds : List Int) (o n : Int × Int × Int) : Int :=
  if ds.length = 0 then 0
  else if (o.1 == n.1 && (o.2.1 == n.2.1 && o.2.2 == n.2.2)) = true then 0
  else if ds.length = 1 then ds.getD 0 0
  else if (n.2.1 == 0 && n.2.2 == 0) = true then ds.getD 1 0
  else if (n.2.1 == 0 && n.2.2 == 1 * 2 ^ n.1.toNat - 1) = true then (if ds.length = 3 then ds.getD 2 0 else minOf ds)
  else if (n.2.1 == 1 * 2 ^ n.1.toNat - 1 && n.2.2 == 1 * 2 ^ n.1.toNat - 1) = true then minOf ds
  else ds.getD 0 0
theorem minOf_two {a b M : Int} (h : M ∈ [a, b]) (h' : ∀ x, x ∈ [a, b] → M ≤ x) : M = minOf [a, b] := by
  have h1 := h' a (.head _)
  have h2 := h' b (.tail _ (.head _))
  simp only [List.mem_cons, List.not_mem_nil, or_false] at h
  simp only [minOf]
  omega
theorem minOf_three {a b c M : Int} (h : M ∈ [a, b, c]) (h' : ∀ x, x ∈ [a, b, c] → M ≤ x) : M = minOf [a, b, c] := by
  have h1 := h' a (.head _)
  have h2 := h' b (.tail _ (.head _))
  have h3 := h' c (.tail _ (.tail _ (.head _)))
  simp only [List.mem_cons, List.not_mem_nil, or_false] at h
  simp only [minOf]
  omega

section
variable {prog : Program} {w : World} {A : Around} {E : Value → Shared → Prop} {s : Shared} {h₀ : Heap} {L : Addr} {m : Str → Option Value} {news : List (Addr × Obj)}
/-- the least of a tuple of ints -/
theorem min_tuple {t : Addr} {vs : List Value} {ns : List Int} {c : Nat} {Q : Value → Shared → Prop} (hh : A.handled = none) (F : Fr h₀ L s.heap m) (N : News h₀ L s.heap news)
    (hm : (t, ({ cls := .type "tuple", data := .seq vs.toArray c } : Obj)) ∈ news) (hi : IntsAre vs ns) (hne : 0 < ns.length)
    (ret : ∀ h' M (u : Tok) tk, Fr h₀ L h' m → News h₀ L h' news → M ∈ ns → (∀ a, a ∈ ns → M ≤ a) → Q (.int M u) { s with heap := h', toks := tk }) :
    wpAny (model prog w) A (call (.builtin "min") [.ref t]) Q E s := by
  obtain ⟨xs, e⟩ := hi.allInts.items
  have hns : ns = xs.toList.map (·.1) := by rw [← hi.numsOf, ← nums_intItems, ← e]
  have hlen : xs.size = ns.length := by rw [hns, List.length_map, Array.length_toList]
  have ht : s.heap.IsTuple t (intItems xs) := e ▸ ⟨_, (N _ hm).1, rfl, c, rfl⟩
  have hlt : t < s.heap.objs.size := Heap.lt_size (N _ hm).1
  have hne' : t ≠ s.heap.objs.size := Nat.ne_of_lt hlt
  refine call_min_walk (wpAny_pyIter_tuple ht ?_)
  refine ⟨s.heap.objs.size, [s.heap.objs.size, t], [s.heap.objs.size], (intItems xs).size, _, _, _, rfl, Walks.tuple (A := A.in1) hh _ t hne' (intItems xs), ⟨⟨_, Heap.get?_push_size _ rfl, rfl, rfl⟩, ht.push _⟩, ?_, ?_, CmpOf.ints_lt (numAt xs) (fun _ _ => intItems_at), ?_⟩
  · intro b hb
    show b < (s.heap.push _).objs.size
    rw [Heap.size_push]
    simp only [List.mem_cons, List.not_mem_nil, or_false] at hb
    rcases hb with rfl | rfl
    · exact Nat.lt_succ_self _
    · exact Nat.lt_succ_of_lt hlt
  · simp only [intItems, Array.size_map]; omega
  · intro v h' tk hP hk
    have hold : ∀ b o, s.heap.get? b = some o → h'.get? b = some o := fun b o eb =>
      hk b o (fun hb => absurd (Heap.lt_size eb) (by rw [List.mem_singleton.mp hb]; exact Nat.lt_irrefl _)) (Heap.get?_push_of_some _ eb)
    obtain ⟨u, rfl⟩ := intItems_at hP
    have hs : (intItems xs).size = xs.size := by simp [intItems]
    rw [hs]
    obtain ⟨h1, h2⟩ := argBest_lt (numAt xs) (xs.size - 1)
    refine ret h' _ u tk (F.grownK hold) (N.grown hold) ?_ fun a ha => ?_
    · rw [hns, numAt_eq]
      exact getD_mem (by rw [List.length_map, Array.length_toList]; omega)
    · rw [hns] at ha
      obtain ⟨j, hj, rfl⟩ := mem_getD ha
      rw [List.length_map, Array.length_toList] at hj
      rw [← numAt_eq]
      exact h2 j (by omega)
end

theorem pick_spec {w : World} {mean : ExcName → Option Value} {mg mb : Str → Option Value} {gd : Option (List Code)} {cn : Str} {cs : Scope} {a : Addr} {ccd : Value} {cl : List (Str × Addr)} {outer : List Env}
    {A₀ : Around} {base h₀ : Heap} {L : Addr} {m : Str → Option Value} {rest : List (Addr × Obj)} {s : Shared} {d o n : Addr} {us : List Value} {ds : List Int} {ow ol oh nw nl nh : Int} {t1 t2 t3 t4 t5 t6 : Tok} {Q E : Value → Shared → Prop}
    (B : Below A₀ base outer h₀) (F : Fr h₀ L s.heap m) (X : (hd.heap_39 w.params).In h₀)
    (N : News h₀ L s.heap ((d, { cls := .type "tuple", data := .seq us.toArray }) :: (o, { cls := .type "tuple", data := .seq #[.int ow t1, .int ol t2, .int oh t3] }) :: (n, { cls := .type "tuple", data := .seq #[.int nw t4, .int nl t5, .int nh t6] }) :: rest))
    (T : Top hd.view_39 (looseW hd.view_39 []) mean mg mb h₀) (hk : cs.kind = .function) (hI : IntsAre us ds) (hf : ds.length ≤ 3) (hw1 : 1 ≤ nw) (hw8 : nw ≤ 8)

    (ret : ∀ t h' tk', Fr h₀ L h' m → News h₀ L h' ((d, { cls := .type "tuple", data := .seq us.toArray }) :: (o, { cls := .type "tuple", data := .seq #[.int ow t1, .int ol t2, .int oh t3] }) :: (n, { cls := .type "tuple", data := .seq #[.int nw t4, .int nl t5, .int nh t6] }) :: rest) → Q (.int (pickV ds (ow, ol, oh) (nw, nl, nh)) t) { s with heap := h', toks := tk' }) :
    wpAny (model Challenge.rw_nn0291_01.row.prog w) (ktrTop 302 7 gd cn cs L a ccd cl outer) (call (.ref 56) [.ref d, .ref o, .ref n]) Q E s := by
  w_top off
  revert X; k_fill; intro X
  have kMark : KstMark := kstMark
  refine wpAny_call ?_
  k_dflt cell_enter
  rename Fr h₀ L _ m => FG
  rename Below _ _ _ _ => BG
  rename Frag.In _ _ => XG
  rename Top _ _ _ _ _ _ => TG
  cases hI with
  | nil =>
    k_steps
    all_goals (
      rename News h₀ L _ _ => N8
      refine cb_retI ret ?_ (by assumption) (cb_drop N8 ?_)
      · simp [pickV]
      · intro p hp
        exact hp)
  | cons d1 v1 hI =>
  cases hI with
  | nil =>
    k_steps
    all_goals (
      rename News h₀ L _ _ => N8
      refine cb_retI ret ?_ (by assumption) (cb_drop N8 ?_)
      · unfold pickV
        repeat (first | rw [if_pos (by first | assumption | rfl)] | rw [if_neg (by first | exact Bool.eq_false_iff.mp (by assumption) | simp)])
        try rfl
      · intro p hp
        exact hp)
  | cons d2 v2 hI =>
  cases hI with
  | nil =>
    k_steps
    all_goals (try (
      rename Fr _ _ _ _ => F9
      rename News _ _ _ _ => N9
      refine' min_tuple (vs := [.int d1 v1, .int d2 v2]) rfl F9 N9 ?km (.cons d1 v1 (.cons d2 v2 .nil)) (Nat.succ_pos _) ?_
      case km => k_mem
      clear F9 N9
      intro h9 M u tk9 F9 N9 hM hle
      obtain rfl := minOf_two hM hle
      k_steps))
    all_goals (
      rename News h₀ L _ _ => N8
      refine cb_retI ret ?_ (by assumption) (cb_drop N8 ?_)
      · unfold pickV
        repeat (first | rw [if_pos (by first | assumption | rfl)] | rw [if_neg (by first | exact Bool.eq_false_iff.mp (by assumption) | simp)])
        try rfl
      · intro p hp
        repeat (first | exact hp | refine List.Mem.tail _ ?_))
  | cons d3 v3 hI =>
  cases hI with
  | nil =>
    k_steps
    all_goals (try (
      rename Fr _ _ _ _ => F9
      rename News _ _ _ _ => N9
      refine' min_tuple (vs := [.int d1 v1, .int d2 v2, .int d3 v3]) rfl F9 N9 ?km (.cons d1 v1 (.cons d2 v2 (.cons d3 v3 .nil))) (Nat.succ_pos _) ?_
      case km => k_mem
      clear F9 N9
      intro h9 M u tk9 F9 N9 hM hle
      obtain rfl := minOf_three hM hle
      k_steps))
    all_goals (
      rename News h₀ L _ _ => N8
      refine cb_retI ret ?_ (by assumption) (cb_drop N8 ?_)
      · unfold pickV
        repeat (first | rw [if_pos (by first | assumption | rfl)] | rw [if_neg (by first | exact Bool.eq_false_iff.mp (by assumption) | simp)])
        try rfl
      · intro p hp
        repeat (first | exact hp | refine List.Mem.tail _ ?_))
  | cons d4 v4 hI =>
    simp only [List.length_cons] at hf
    omega

section
variable {prog : Program} {w : World} {A : Around} {h₀ : Heap} {L : Addr} {m : Str → Option Value} {env : Env} {elt : Expr} {x : Str} {scope : Scope} {cl : List (Str × Addr)} {s : Shared} {S : List (Addr × Obj) → Prop} {P : Nat → Value → Prop} {Fin : List Value → List (Addr × Obj) → Prop}
/-- a comprehension whose element changes the ledger: by what holds between its turns -/
theorem compRest_inv {n : Nat} (J : Nat → List Value → List (Addr × Obj) → Prop)
    (turn : ∀ i ys news v I oI C oC D m₂ h tk (E' : Value → Shared → Prop), i < n → J i ys news → P i v → LCg.NsObj oC m₂ → m₂ x = some v → Fr h₀ L h m → News h₀ L h ((I, oI) :: (C, oC) :: (D, LCg.lst ys) :: news) → LCg.Off3 I C D news → ((@Ne Nat I C) ∧ (@Ne Nat I D) ∧ (@Ne Nat C D)) →
      wpAny (model prog w) A (eval elt (compEnvC scope cl C env)) (LCg.CompEnd h₀ L m { s with heap := h, toks := tk } I oI C oC D (LCg.lst ys) S (fun y news' => J (i + 1) (ys ++ [y]) news')) E' { s with heap := h, toks := tk })
    (fin : ∀ ys news, J n ys news → Fin ys news) :
    ∀ j i ys news, i + j = n → J i ys news → LCg.CompRest prog w A h₀ L m env elt x scope cl s S P Fin j i ys news := by
  intro j
  induction j with
  | zero =>
    intro i ys news hi hJ
    obtain rfl : i = n := hi
    exact LCg.CompRest.zero (fin ys news hJ)
  | succ j ih =>
    intro i ys news hi hJ
    refine LCg.CompRest.succ ?_
    intro v I oI C oC D m₂ h tk E' hv hC hx F N off ne
    refine wpAny_mono (turn i ys news v I oI C oC D m₂ h tk E' (by omega) hJ hv hC hx F N off ne) (fun y s₂ hq => ?_) fun _ _ e => e
    obtain ⟨h', tk', nw, e, F', N', off', hS, hr⟩ := hq
    exact ⟨h', tk', nw, e, F', N', off', hS, ih (i + 1) _ nw (by omega) hr⟩
end

/-- the delay that the law reckons -/
def dueV (ds one two : List Int) : Int :=
  if ds = [] then 0
  else if one = two then 0
  else if two.count (two.getD 0 0) < two.length then ds.getD 0 0
  else if two.getD 0 0 = 1 then ds.getD 0 0
  else if ds.length = 1 then ds.getD 0 0
  else if two.getD 0 0 = 0 then ds.getD 1 0
  else if two.getD 0 0 = 2 ∧ ds.length = 3 then ds.getD 2 0
  else minOf ds

theorem minOf_is {ds : List Int} {M : Int} (h3 : ds.length ≤ 3) (hM : M ∈ ds) (hle : ∀ a, a ∈ ds → M ≤ a) : M = minOf ds := by
  match ds, h3, hM, hle with
  | [], _, hM, _ => cases hM
  | [a], _, hM, _ => rw [List.mem_singleton.mp hM, minOf]
  | [_, _], _, hM, hle => exact minOf_two hM hle
  | [_, _, _], _, hM, hle => exact minOf_three hM hle
  | _ :: _ :: _ :: _ :: _, h3, _, _ => simp only [List.length_cons] at h3; omega

section
variable {ds one two : List Int} {wd : Int}
theorem due_nil (h : ds = []) : 0 = dueV ds one two := by unfold dueV; rw [if_pos h]
theorem due_same (hd : ¬ ds = []) (h : one = two) : 0 = dueV ds one two := by unfold dueV; rw [if_neg hd, if_pos h]
theorem due_mixed (hd : ¬ ds = []) (ho : ¬ one = two) (hl : (two.length : Int) = wd) (h : ((two.count (two.getD (Int.toNat 0) 0) : Nat) : Int) < wd) : ds.getD (Int.toNat 0) 0 = dueV ds one two := by
  have h' : two.count (two.getD 0 0) < two.length := by
    have : (two.count (two.getD 0 0) : Int) < wd := h
    omega
  unfold dueV
  rw [if_neg hd, if_neg ho, if_pos h']
  rfl
theorem due_one (hd : ¬ ds = []) (ho : ¬ one = two) (hl : (two.length : Int) = wd) (h : ¬ ((two.count (two.getD (Int.toNat 0) 0) : Nat) : Int) < wd) (h1 : two.getD (Int.toNat 0) 0 = 1) : ds.getD (Int.toNat 0) 0 = dueV ds one two := by
  have h' : ¬ two.count (two.getD 0 0) < two.length := by
    have : ¬ (two.count (two.getD 0 0) : Int) < wd := h
    omega
  unfold dueV
  rw [if_neg hd, if_neg ho, if_neg h', if_pos (show two.getD 0 0 = 1 from h1)]
  rfl
theorem due_len (hd : ¬ ds = []) (ho : ¬ one = two) (hl : (two.length : Int) = wd) (h : ¬ ((two.count (two.getD (Int.toNat 0) 0) : Nat) : Int) < wd) (h1 : two.getD (Int.toNat 0) 0 ≠ 1) (h2 : (ds.length : Int) = 1) : ds.getD (Int.toNat 0) 0 = dueV ds one two := by
  have h' : ¬ two.count (two.getD 0 0) < two.length := by
    have : ¬ (two.count (two.getD 0 0) : Int) < wd := h
    omega
  unfold dueV
  rw [if_neg hd, if_neg ho, if_neg h', if_neg (show ¬ two.getD 0 0 = 1 from h1), if_pos (show ds.length = 1 by omega)]
  rfl
theorem due_zero (hd : ¬ ds = []) (ho : ¬ one = two) (hl : (two.length : Int) = wd) (h : ¬ ((two.count (two.getD (Int.toNat 0) 0) : Nat) : Int) < wd) (h1 : two.getD (Int.toNat 0) 0 ≠ 1) (h2 : (ds.length : Int) ≠ 1) (h3 : two.getD (Int.toNat 0) 0 = 0) : ds.getD (Int.toNat 1) 0 = dueV ds one two := by
  have h' : ¬ two.count (two.getD 0 0) < two.length := by
    have : ¬ (two.count (two.getD 0 0) : Int) < wd := h
    omega
  unfold dueV
  rw [if_neg hd, if_neg ho, if_neg h', if_neg (show ¬ two.getD 0 0 = 1 from h1), if_neg (show ¬ ds.length = 1 by omega), if_pos (show two.getD 0 0 = 0 from h3)]
  rfl
theorem due_off (hd : ¬ ds = []) (ho : ¬ one = two) (hl : (two.length : Int) = wd) (h : ¬ ((two.count (two.getD (Int.toNat 0) 0) : Nat) : Int) < wd) (h1 : two.getD (Int.toNat 0) 0 ≠ 1) (h2 : (ds.length : Int) ≠ 1) (h3 : two.getD (Int.toNat 0) 0 ≠ 0) (h4 : two.getD (Int.toNat 0) 0 = 2) (h5 : (ds.length : Int) = 3) : ds.getD (Int.toNat 2) 0 = dueV ds one two := by
  have h' : ¬ two.count (two.getD 0 0) < two.length := by
    have : ¬ (two.count (two.getD 0 0) : Int) < wd := h
    omega
  unfold dueV
  rw [if_neg hd, if_neg ho, if_neg h', if_neg (show ¬ two.getD 0 0 = 1 from h1), if_neg (show ¬ ds.length = 1 by omega), if_neg (show ¬ two.getD 0 0 = 0 from h3), if_pos ⟨(show two.getD 0 0 = 2 from h4), by omega⟩]
  rfl
theorem due_least {M : Int} (hd : ¬ ds = []) (ho : ¬ one = two) (hl : (two.length : Int) = wd) (h : ¬ ((two.count (two.getD (Int.toNat 0) 0) : Nat) : Int) < wd) (h1 : two.getD (Int.toNat 0) 0 ≠ 1) (h2 : (ds.length : Int) ≠ 1) (h3 : two.getD (Int.toNat 0) 0 ≠ 0)
    (h4 : ¬ (two.getD 0 0 = 2 ∧ ds.length = 3)) (hl3 : ds.length ≤ 3) (hM : M ∈ ds) (hle : ∀ a, a ∈ ds → M ≤ a) : M = dueV ds one two := by
  have h' : ¬ two.count (two.getD 0 0) < two.length := by
    have : ¬ (two.count (two.getD 0 0) : Int) < wd := h
    omega
  unfold dueV
  rw [if_neg hd, if_neg ho, if_neg h', if_neg (show ¬ two.getD 0 0 = 1 from h1), if_neg (show ¬ ds.length = 1 by omega), if_neg (show ¬ two.getD 0 0 = 0 from h3), if_neg h4]
  exact minOf_is hl3 hM hle
end

/-! ### what the codes tell -/
theorem code_inj : ∀ {xs ys : List Int}, xs.length = ys.length → (∀ x ∈ xs, 0 ≤ x ∧ x ≤ 3) → (∀ y ∈ ys, 0 ≤ y ∧ y ≤ 3) → lowOf xs = lowOf ys → highOf xs = highOf ys → xs = ys
  | [], [], _, _, _, _, _ => rfl
  | [], _ :: _, h, _, _, _, _ => by cases h
  | _ :: _, [], h, _, _, _, _ => by cases h
  | x :: r, y :: q, h, hx, hy, hl, hh => by
    have hx0 := hx x (.head _)
    have hy0 := hy y (.head _)
    simp only [lowOf] at hl
    simp only [highOf] at hh
    have e : x = y := by omega
    have e1 : lowOf r = lowOf q := by omega
    have e2 : highOf r = highOf q := by omega
    rw [e, code_inj (Nat.succ.inj h) (fun z hz => hx z (.tail _ hz)) (fun z hz => hy z (.tail _ hz)) e1 e2]
theorem low_rep (k : Int) : ∀ n : Nat, lowOf (List.replicate n k) = k % 2 * (2 ^ n - 1)
  | 0 => by simp [lowOf]
  | n + 1 => by
    rw [List.replicate_succ, lowOf, low_rep k n, Int.pow_succ]
    rcases (show k % 2 = 0 ∨ k % 2 = 1 by omega) with h | h <;> rw [h] <;> omega
theorem high_rep {k : Int} (h0 : 0 ≤ k) (h3 : k ≤ 3) : ∀ n : Nat, highOf (List.replicate n k) = k / 2 * (2 ^ n - 1)
  | 0 => by simp [highOf]
  | n + 1 => by
    rw [List.replicate_succ, highOf, high_rep h0 h3 n, Int.pow_succ]
    rcases (show k / 2 = 0 ∨ k / 2 = 1 by omega) with h | h <;> rw [h] <;> omega
theorem rep_is {two : List Int} {n : Nat} {k lo hi : Int} (hn : two.length = n) (h2 : ∀ z ∈ two, 0 ≤ z ∧ z ≤ 3) (h0 : 0 ≤ k) (h3 : k ≤ 3) (hlo : k % 2 * (2 ^ n - 1) = lo) (hhi : k / 2 * (2 ^ n - 1) = hi) :
    ((lowOf two == lo && highOf two == hi) = true) ↔ two = List.replicate n k := by
  rw [Bool.and_eq_true, beq_iff_eq, beq_iff_eq]
  constructor
  · rintro ⟨h1, h4⟩
    refine code_inj (by rw [hn, List.length_replicate]) h2 (fun z hz => ?_) ?_ ?_
    · rw [List.eq_of_mem_replicate hz]; exact ⟨h0, h3⟩
    · rw [h1, low_rep, hlo]
    · rw [h4, high_rep h0 h3, hhi]
  · rintro rfl
    exact ⟨by rw [low_rep, hlo], by rw [high_rep h0 h3, hhi]⟩
theorem count_rep {two : List Int} {n : Nat} {k : Int} (h : two = List.replicate n k) (hn : 0 < n) : two.getD 0 0 = k ∧ ¬ two.count (two.getD 0 0) < two.length := by
  subst h
  have e : (List.replicate n k).getD 0 0 = k := by
    cases n with
    | zero => cases hn
    | succ n => rfl
  rw [e, List.count_replicate_self, List.length_replicate]
  exact ⟨rfl, Nat.lt_irrefl _⟩
theorem rep_count {two : List Int} (h : ¬ two.count (two.getD 0 0) < two.length) : two = List.replicate two.length (two.getD 0 0) := by
  have hle := List.count_le_length (a := two.getD 0 0) (l := two)
  have he : two.count (two.getD 0 0) = two.length := by omega
  rw [List.count_eq_length] at he
  exact List.eq_replicate_iff.mpr ⟨rfl, fun b hb => (he b hb).symm⟩

theorem pick_is_due {ds one two : List Int} {n : Nat} (hn0 : 0 < n) (h1 : one.length = n) (h2 : two.length = n) (hz1 : ∀ z ∈ one, 0 ≤ z ∧ z ≤ 3) (hz2 : ∀ z ∈ two, 0 ≤ z ∧ z ≤ 3) :
    pickV ds ((one.length : Int), lowOf one, highOf one) ((two.length : Int), lowOf two, highOf two) = dueV ds one two := by
  have hz0 : 0 ≤ two.getD 0 0 ∧ two.getD 0 0 ≤ 3 := by
    cases two with
    | nil => simp only [List.length_nil] at h2; omega
    | cons z r => exact hz2 z (.head _)
  have b0 : ((((one.length : Int) == (two.length : Int)) && (lowOf one == lowOf two && highOf one == highOf two)) = true) ↔ one = two := by
    rw [h1, h2, beq_self_eq_true, Bool.true_and, Bool.and_eq_true, beq_iff_eq, beq_iff_eq]
    constructor
    · rintro ⟨a, b⟩
      exact code_inj (by rw [h1, h2]) hz1 hz2 a b
    · rintro rfl
      exact ⟨rfl, rfl⟩
  have b1 := rep_is (k := 0) (lo := 0) (hi := 0) h2 hz2 (by omega) (by omega) (by omega) (by omega)
  have b2 := rep_is (k := 2) (lo := 0) (hi := 1 * 2 ^ (two.length : Int).toNat - 1) h2 hz2 (by omega) (by omega) (by omega) (by rw [Int.toNat_natCast, h2]; omega)
  have b3 := rep_is (k := 3) (lo := 1 * 2 ^ (two.length : Int).toNat - 1) (hi := 1 * 2 ^ (two.length : Int).toNat - 1) h2 hz2 (by omega) (by omega) (by rw [Int.toNat_natCast, h2]; omega) (by rw [Int.toNat_natCast, h2]; omega)
  unfold pickV dueV
  dsimp only
  simp only [b0, b1, b2, b3, List.length_eq_zero_iff]
  by_cases hd : ds = []
  · rw [if_pos hd, if_pos hd]
  rw [if_neg hd, if_neg hd]
  by_cases ho : one = two
  · rw [if_pos ho, if_pos ho]
  rw [if_neg ho, if_neg ho]
  by_cases hc : two.count (two.getD 0 0) < two.length
  · rw [if_pos hc]
    have no : ∀ k, ¬ two = List.replicate n k := fun k e => (count_rep e hn0).2 hc
    rw [if_neg (no 0), if_neg (no 2), if_neg (no 3)]
    split <;> rfl
  rw [if_neg hc]
  have hr := rep_count hc
  rw [h2] at hr
  have key : ∀ k, two = List.replicate n k ↔ two.getD 0 0 = k := fun k => ⟨fun e => (count_rep e hn0).1, fun e => e ▸ hr⟩
  simp only [key]
  by_cases e1 : two.getD 0 0 = 1
  · rw [if_pos e1, if_neg (by omega : ¬ two.getD 0 0 = 0), if_neg (by omega : ¬ two.getD 0 0 = 2), if_neg (by omega : ¬ two.getD 0 0 = 3)]
    split <;> rfl
  rw [if_neg e1]
  by_cases hl : ds.length = 1
  · rw [if_pos hl, if_pos hl]
  rw [if_neg hl, if_neg hl]
  by_cases e0 : two.getD 0 0 = 0
  · rw [if_pos e0, if_pos e0]
  rw [if_neg e0, if_neg e0]
  by_cases e2 : two.getD 0 0 = 2
  · rw [if_pos e2]
    by_cases h3 : ds.length = 3
    · rw [if_pos h3, if_pos ⟨e2, h3⟩]
    · rw [if_neg h3, if_neg (fun h => h3 h.2)]
  · rw [if_neg e2, if_pos (by omega : two.getD 0 0 = 3), if_neg (fun h => e2 h.1)]
theorem pick_same {ds : List Int} {t : Int × Int × Int} : pickV ds t t = 0 := by
  unfold pickV
  simp

theorem led_rot3 {α : Type} {a b c d : α} {r : List α} : ∀ p ∈ d :: a :: b :: c :: r, p ∈ a :: b :: c :: d :: r := by
  intro p hp
  simp only [List.mem_cons] at hp ⊢
  rcases hp with h | h | h | h | h <;> simp [h]
theorem led_rot3' {α : Type} {a b c d : α} {r : List α} : ∀ p ∈ a :: b :: c :: d :: r, p ∈ d :: a :: b :: c :: r := by
  intro p hp
  simp only [List.mem_cons] at hp ⊢
  rcases hp with h | h | h | h | h <;> simp [h]
theorem led_pick {α : Type} {a b c d e f g h s0 s1 s2 s3 : α} : ∀ p ∈ [a, b, c, d, e, f, g, h], p ∈ [b, s3, c, s2, d, s1, e, s0, a, f, g, h] := by
  intro p hp
  simp only [List.mem_cons, List.not_mem_nil, or_false] at hp ⊢
  rcases hp with h | h | h | h | h | h | h | h <;> simp [h]
theorem menu6 {a0 a1 a2 a3 a4 a5 : Addr} {u0 u1 u2 u3 u4 u5 : List Value} {x0 x1 x2 x3 x4 x5 : List Int} {c0 c1 c2 c3 c4 c5 : Nat} {k : Int} {P : List Int → Prop} (h0 : 0 ≤ k) (h6 : k < 6)
    (I0 : IntsAre u0 x0) (I1 : IntsAre u1 x1) (I2 : IntsAre u2 x2) (I3 : IntsAre u3 x3) (I4 : IntsAre u4 x4) (I5 : IntsAre u5 x5) (p0 : P x0) (p1 : P x1) (p2 : P x2) (p3 : P x3) (p4 : P x4) (p5 : P x5)
    {led : List (Addr × Obj)} {h₀ h : Heap} {L : Addr} (_N : News h₀ L h led) (m0 : (a0, listOf u0.toArray c0) ∈ led) (m1 : (a1, listOf u1.toArray c1) ∈ led) (m2 : (a2, listOf u2.toArray c2) ∈ led) (m3 : (a3, listOf u3.toArray c3) ∈ led) (m4 : (a4, listOf u4.toArray c4) ∈ led) (m5 : (a5, listOf u5.toArray c5) ∈ led) :
    ∃ tw us zs c, (#[Value.ref a0, Value.ref a1, Value.ref a2, Value.ref a3, Value.ref a4, Value.ref a5] : Array Value)[k.toNat]? = some (.ref tw) ∧ (tw, listOf us.toArray c) ∈ led ∧ IntsAre us zs ∧ P zs := by
  have hk : k.toNat = 0 ∨ k.toNat = 1 ∨ k.toNat = 2 ∨ k.toNat = 3 ∨ k.toNat = 4 ∨ k.toNat = 5 := by omega
  rcases hk with h | h | h | h | h | h <;> rw [h]
  · exact ⟨a0, u0, x0, c0, rfl, m0, I0, p0⟩
  · exact ⟨a1, u1, x1, c1, rfl, m1, I1, p1⟩
  · exact ⟨a2, u2, x2, c2, rfl, m2, I2, p2⟩
  · exact ⟨a3, u3, x3, c3, rfl, m3, I3, p3⟩
  · exact ⟨a4, u4, x4, c4, rfl, m4, I4, p4⟩
  · exact ⟨a5, u5, x5, c5, rfl, m5, I5, p5⟩
theorem news_dup {h₀ h : Heap} {L : Addr} {news : List (Addr × Obj)} {p : Addr × Obj} (N : News h₀ L h news) (hp : p ∈ news) : News h₀ L h (p :: news) := by
  intro q hq
  rcases List.mem_cons.mp hq with rfl | hq
  · exact N _ hp
  · exact N q hq
theorem rep_of {n : Nat} {a : Int} {wd : Int} (h0 : 0 ≤ wd) (hn : wd.toNat = n) (ha : 0 ≤ a) (ha3 : a ≤ 3) : ((List.replicate n a).length : Int) = wd ∧ ∀ z ∈ List.replicate n a, 0 ≤ z ∧ z ≤ 3 := by
  refine ⟨by rw [List.length_replicate]; omega, fun z hz => ?_⟩
  rw [List.eq_of_mem_replicate hz]
  exact ⟨ha, ha3⟩
theorem led_keep {α : Type} {t a b c d e f g h i j : α} : ∀ p ∈ [t, h, i, j], p ∈ [t, a, b, c, d, e, f, g, h, i, j] := by
  intro p hp
  simp only [List.mem_cons, List.not_mem_nil, or_false] at hp ⊢
  rcases hp with h | h | h | h <;> simp [h]
/-- an int stands under a name, all else of the frame and the ledger as before -/
def DueAt (h₀ : Heap) (L : Addr) (m : Str → Option Value) (news : List (Addr × Obj)) (s : Shared) (y : Str) (v : Int) (fl : Flow) (s' : Shared) : Prop :=
  fl = .next ∧ ∃ h tk t9 m', s' = { s with heap := h, toks := tk } ∧ Fr h₀ L h m' ∧ m' y = some (.int v t9) ∧ (∀ z, z ≠ y → m' z = m z) ∧ News h₀ L h news
theorem due_intro {h₀ : Heap} {L : Addr} {m m' : Str → Option Value} {news : List (Addr × Obj)} {s : Shared} {y : Str} {v v' : Int} {h : Heap} {tk t9 : Nat} (F : Fr h₀ L h m') (N : News h₀ L h news) (hy : m' y = some (.int v' t9)) (hv : v' = v) (hm : ∀ z, z ≠ y → m' z = m z) :
    DueAt h₀ L m news s y v .next { s with heap := h, toks := tk } := by
  subst hv
  exact ⟨rfl, h, tk, t9, m', rfl, F, hy, hm, N⟩
theorem due_join {M : Model} {A : Around} {t : Sem Flow} {Q : Flow → Shared → Prop} {E : Value → Shared → Prop} {s : Shared} {h₀ : Heap} {L : Addr} {m : Str → Option Value} {news : List (Addr × Obj)} (y : Str) (v : Int) (_F : Fr h₀ L s.heap m) (_N : News h₀ L s.heap news)
    (mid : wpAny M A t (DueAt h₀ L m news s y v) E s)
    (rest : ∀ h tk t9, Fr h₀ L h (fun z => if z = y then some (.int v t9) else m z) → News h₀ L h news → Q .next { s with heap := h, toks := tk }) : wpAny M A t Q E s := by
  refine wpAny_mono mid (fun fl s' hq => ?_) fun _ _ e => e
  obtain ⟨rfl, h, tk, t9, m', rfl, F', hy, hm, N'⟩ := hq
  refine rest h tk t9 ?_ N'
  have e : (fun z => if z = y then some (.int v t9) else m z) = m' := by
    funext z
    by_cases hz : z = y
    · rw [if_pos hz, hz, hy]
    · rw [if_neg hz, hm z hz]
  rw [e]
  exact F'
theorem led_a {α : Type} {a b c : α} {r : List α} : ∀ p ∈ c :: a :: b :: r, p ∈ a :: b :: c :: r := by
  intro p hp
  simp only [List.mem_cons] at hp ⊢
  rcases hp with h | h | h | h <;> simp [h]
theorem led_b {α : Type} {a b c d e : α} {r : List α} : ∀ p ∈ e :: c :: a :: b :: d :: r, p ∈ a :: b :: c :: d :: e :: r := by
  intro p hp
  simp only [List.mem_cons] at hp ⊢
  rcases hp with h | h | h | h | h | h <;> simp [h]
theorem led_c {α : Type} {a b c d e : α} {r : List α} : ∀ p ∈ d :: r, p ∈ a :: b :: c :: d :: e :: r := by
  intro p hp
  simp only [List.mem_cons] at hp ⊢
  rcases hp with h | h <;> simp [h]
theorem led_d {α : Type} {a b c d : α} {r : List α} : ∀ p ∈ d :: c :: a :: b :: r, p ∈ a :: b :: c :: d :: r := by
  intro p hp
  simp only [List.mem_cons] at hp ⊢
  rcases hp with h | h | h | h | h <;> simp [h]
theorem law_holds : PySem.Challenge.rw_nn0291_01.Holds := hd (by
  w_top off
  w_strict (
    k_go0
    all_goals try k_fold
    have kMark : KstMark := kstMark
    iterate 9 (first | (k_unfold; (try dsimp only)) | (k_end; wrow_close) | walk1 | (dsimp only; walk1) | (leave1; walk_say "STEP leave1"; try dsimp only) | fail "no step")
    rename Shared => sA
    rename Below _ _ _ _ => BG
    rename Frag.In _ _ => XG
    rename Top _ _ _ _ _ _ => TG
    rename Fr _ _ _ _ => F1
    rename News _ _ _ _ => N1
    refine row_spec BG F1 XG N1 TG rfl (by assumption) (by assumption) (by omega) (by decide) (by decide) ?_
    intro lr vr nr cr h1 tk1 hIr hlr hoffr F2 N2
    clear F1 N1
    iterate 16 (first | (k_unfold; (try dsimp only)) | (k_end; wrow_close) | walk1 | (dsimp only; walk1) | (leave1; walk_say "STEP leave1"; try dsimp only) | fail "no step")
    rename_i nX hC oC F3 N3 dC
    clear nX
    have hcl := hoffr _ (.head _)
    refine next_spec (rest := [(_, _)]) BG F3 XG N3 TG rfl hIr hlr (by intro p hp; rw [List.mem_singleton.mp hp]; exact Nat.ne_of_lt hcl) (by decide) (by decide) ?_
    intro v tv vr2 nr2 cr2 h2 tk2 hIr2 hlr2 F4 N4
    clear F3 N3
    iterate 4 (first | (k_unfold; (try dsimp only)) | (k_end; wrow_close) | walk1 | (dsimp only; walk1) | (leave1; walk_say "STEP leave1"; try dsimp only) | fail "no step")
    rename Fr _ _ _ _ => F5
    rename News _ _ _ _ => N5
    rename IsRange _ _ _ _ _ _ _ _ => rgX
    have hv0 := fmod_lo v (by omega : (0:Int) < 4)
    have hv4 := fmod_hi v (by omega : (0:Int) < 4)
    refine LCg.CompSrc.range (by rfl) F5 N5 rgX (small_one (by omega) (by omega) (by omega) (by omega)) (rangeSize_nat _ _) (by rw [sizeLine_eq]; omega) ?_
    intro g5
    refine compRest_inv (fun i ys nw => ∃ vr nr cr ds, nw = [(lr, listOf vr.toArray cr), (_, oC)] ∧ IntsAre vr nr ∧ nr.length ≤ 2000 ∧ IntsAre ys ds ∧ ds.length = i) ?_ ?_ _ 0 [] _ (Nat.zero_add _) ⟨_, _, _, [], rfl, hIr2, by omega, .nil, rfl⟩
    · rintro i ys news u I oI Cc oCc D m₂ h6 tk6 E' hi ⟨vr3, nr3, cr3, ds, rfl, hIr3, hlr3, hys, hdl⟩ hv hNs hx F6 N6 off ne
      simp only [LCg.Off3, and_true] at off
      clear F5 N5
      iterate 8 (first | (k_unfold; (try dsimp only)) | (k_end; wrow_close) | walk1 | (dsimp only; walk1) | (leave1; walk_say "STEP leave1"; try dsimp only) | fail "no step")
      refine next_spec BG F6 XG (cb_drop N6 led_rot3) TG rfl hIr3 hlr3 ?_ (by decide) (by decide) ?_
      · intro p hp
        simp only [List.mem_cons, List.not_mem_nil, or_false] at hp
        rcases hp with rfl | rfl | rfl | rfl
        · exact Ne.symm off.1.1
        · exact Ne.symm off.1.2.1
        · exact Ne.symm off.1.2.2
        · exact Nat.ne_of_lt hcl
      intro v7 t7 vr7 nr7 cr7 h7 tk7 hIr7 hlr7 F7 N7
      refine LCg.CompEnd.intro F7 N7 ((lr, listOf vr7.toArray cr7) :: _) led_rot3' ?_ trivial ⟨vr7, nr7, cr7, ds ++ [v7], rfl, hIr7, by omega, IntsAre.append hys (.cons _ _ .nil), by rw [List.length_append, List.length_singleton, hdl]⟩
      simp only [LCg.Off3, and_true]
      exact off
    · rintro ys news ⟨vr3, nr3, cr3, ds, rfl, hIr3, hlr3, hys, hdl⟩
      clear F5 N5
      unfold LCg.FinA
      intro D h6 tk6 F6 N6 off6
      simp only [LCg.Off1, and_true] at off6
      dsimp only
      iterate 12 (first | (k_unfold; (try dsimp only)) | (k_end; wrow_close) | walk1 | (dsimp only; walk1) | (leave1; walk_say "STEP leave1"; try dsimp only) | fail "no step")
      refine next_spec BG F6 XG (cb_drop N6 led_swap) TG rfl hIr3 hlr3 ?_ (by decide) (by decide) ?_
      · intro p hp
        simp only [List.mem_cons, List.not_mem_nil, or_false] at hp
        rcases hp with rfl | rfl
        · exact Ne.symm off6.1
        · exact Nat.ne_of_lt hcl
      intro v8 t8 vr8 nr8 cr8 h8 tk8 hIr8 hlr8 F8 N8
      clear F6 N6
      have hw0 := fmod_lo v8 (by omega : (0:Int) < 8)
      have hw8 := fmod_hi v8 (by omega : (0:Int) < 8)
      iterate 16 (first | (k_unfold; (try dsimp only)) | (k_end; wrow_close) | walk1 | (dsimp only; walk1) | (leave1; walk_say "STEP leave1"; try dsimp only) | fail "no step")
      rename Fr _ _ _ _ => F9
      rename News _ _ _ _ => N9
      refine bits_spec BG F9 XG N9 TG rfl hIr8 (by omega) ?_ (by omega) (by omega) (by decide) (by decide) ?_
      · intro p hp
        simp only [List.mem_cons, List.not_mem_nil, or_false] at hp
        rcases hp with rfl | rfl
        · exact Ne.symm off6.1
        · exact Nat.ne_of_lt hcl
      intro lb1 bs1 zs1 cb1 vr9 nr9 cr9 h9 tk9 hB1 hlen1 hz1 hIr9 hlr9 hlt1 hlt1' F10 N10
      clear F9 N9
      iterate 12 (first | (k_unfold; (try dsimp only)) | (k_end; wrow_close) | walk1 | (dsimp only; walk1) | (leave1; walk_say "STEP leave1"; try dsimp only) | fail "no step")
      rename Fr _ _ _ _ => F9
      rename News _ _ _ _ => N9
      refine next_spec BG F9 XG (cb_drop N9 led_swap) TG rfl hIr9 (by omega) ?_ (by decide) (by decide) ?_
      · intro p hp
        simp only [List.mem_cons, List.not_mem_nil, or_false] at hp
        rcases hp with rfl | rfl | rfl
        · exact Nat.ne_of_gt hlt1
        · exact Ne.symm off6.1
        · exact Nat.ne_of_lt hcl
      intro v10 t10 vr10 nr10 cr10 h10 tk10 hIr10 hlr10 F10 N10
      clear F9 N9
      iterate 16 (first | (k_unfold; (try dsimp only)) | (k_end; wrow_close) | walk1 | (dsimp only; walk1) | (leave1; walk_say "STEP leave1"; try dsimp only) | fail "no step")
      (first | (k_unfold; (try dsimp only)) | (k_end; wrow_close) | walk1 | (dsimp only; walk1) | (leave1; walk_say "STEP leave1"; try dsimp only) | fail "no step")
      rename_i D0 g0 FD0 ND0 iD0 n0 z0 e0 q0 r0 l0
      iterate 8 (first | (k_unfold; (try dsimp only)) | (k_end; wrow_close) | walk1 | (dsimp only; walk1) | (leave1; walk_say "STEP leave1"; try dsimp only) | fail "no step")
      (first | (k_unfold; (try dsimp only)) | (k_end; wrow_close) | walk1 | (dsimp only; walk1) | (leave1; walk_say "STEP leave1"; try dsimp only) | fail "no step")
      rename_i D1 g1 FD1 ND1 iD1 n1 z1 e1 q1 r1 l1
      iterate 8 (first | (k_unfold; (try dsimp only)) | (k_end; wrow_close) | walk1 | (dsimp only; walk1) | (leave1; walk_say "STEP leave1"; try dsimp only) | fail "no step")
      (first | (k_unfold; (try dsimp only)) | (k_end; wrow_close) | walk1 | (dsimp only; walk1) | (leave1; walk_say "STEP leave1"; try dsimp only) | fail "no step")
      rename_i D2 g2 FD2 ND2 iD2 n2 z2 e2 q2 r2 l2
      iterate 8 (first | (k_unfold; (try dsimp only)) | (k_end; wrow_close) | walk1 | (dsimp only; walk1) | (leave1; walk_say "STEP leave1"; try dsimp only) | fail "no step")
      (first | (k_unfold; (try dsimp only)) | (k_end; wrow_close) | walk1 | (dsimp only; walk1) | (leave1; walk_say "STEP leave1"; try dsimp only) | fail "no step")
      rename_i D3 g3 FD3 ND3 iD3 n3 z3 e3 q3 r3 l3
      iterate 12 (first | (k_unfold; (try dsimp only)) | (k_end; wrow_close) | walk1 | (dsimp only; walk1) | (leave1; walk_say "STEP leave1"; try dsimp only) | fail "no step")
      have y0 : lr < D0 := l0.2.1
      have y1 : lr < D1 := l1.2.2.2.1
      have y2 : lr < D2 := l2.2.2.2.2.2.1
      have y3 : lr < D3 := l3.2.2.2.2.2.2.2.1
      rw [List.flatten_replicate_singleton, List.flatten_replicate_singleton] at iD0 iD1 iD2 iD3
      simp only [List.flatten_replicate_singleton] at ND3
      generalize hwn : (1 + v8.fmod 8).toNat = wn at iD0 iD1 iD2 iD3 ND3
      replace ND3 := cb_drop ND3 led_pick
      refine bits_spec BG FD3 XG ND3 TG rfl hIr10 (by omega) ?_ (by omega) (by omega) (by decide) (by decide) ?_
      · intro p hp
        simp only [List.mem_cons, List.not_mem_nil, or_false] at hp
        rcases hp with rfl | rfl | rfl | rfl | rfl | rfl | rfl
        · exact Nat.ne_of_gt y3
        · exact Nat.ne_of_gt y2
        · exact Nat.ne_of_gt y1
        · exact Nat.ne_of_gt y0
        · exact Nat.ne_of_gt hlt1
        · exact Ne.symm off6.1
        · exact Nat.ne_of_lt hcl
      intro lb2 bs2 zs2 cb2 vr11 nr11 cr11 h11 tk11 hB2 hlen2 hz2 hIr11 hlr11 hlt2 hlt2' F11 N11
      clear FD3 ND3
      iterate 3 (first | (k_unfold; (try dsimp only)) | (k_end; wrow_close) | walk1 | (dsimp only; walk1) | (leave1; walk_say "STEP leave1"; try dsimp only) | fail "no step")
      rename Fr _ _ _ _ => F12
      rename News _ _ _ _ => N12
      have hy0 := fmod_lo v10 (by omega : (0:Int) < 6)
      have hy6 := fmod_hi v10 (by omega : (0:Int) < 6)
      obtain ⟨tw, us, zs, cw, hx, hm, hIw, hPw⟩ := menu6 (P := fun zs => (zs.length : Int) = 1 + v8.fmod 8 ∧ ∀ z ∈ zs, 0 ≤ z ∧ z ≤ 3) hy0 hy6 iD0 iD1 iD2 iD3 hB1 hB2
        (rep_of (by omega) hwn (by omega) (by omega)) (rep_of (by omega) hwn (by omega) (by omega)) (rep_of (by omega) hwn (by omega) (by omega)) (rep_of (by omega) hwn (by omega) (by omega)) ⟨hlen1, hz1⟩ ⟨hlen2, hz2⟩
        N12 (.tail _ (.tail _ (.tail _ (.tail _ (.tail _ (.tail _ (.head _))))))) (.tail _ (.tail _ (.tail _ (.tail _ (.tail _ (.head _)))))) (.tail _ (.tail _ (.tail _ (.tail _ (.head _))))) (.tail _ (.tail _ (.tail _ (.head _)))) (.tail _ (.tail _ (.tail _ (.tail _ (.tail _ (.tail _ (.tail _ (.head _)))))))) (.tail _ (.head _))
      refine item_listR (News.isList N12 (.head _)) hy0 (by omega) hx ?_
      replace N12 := cb_drop (news_dup N12 hm) led_keep
      obtain ⟨hlenw, hzw⟩ := hPw
      iterate 7 (first | (k_unfold; (try dsimp only)) | (k_end; wrow_close) | walk1 | (dsimp only; walk1) | (leave1; walk_say "STEP leave1"; try dsimp only) | fail "no step")
      rename Fr _ _ _ _ => F13
      rename News _ _ _ _ => N13
      have hdl3 : ds.length ≤ 3 := by omega
      clear hdl
      refine due_join (Str.ofString "due") (dueV ds zs1 zs) F13 N13 ?_ ?_
      · iterate 7 (first | (k_unfold; (try dsimp only)) | (k_end; wrow_close) | walk1 | (dsimp only; walk1) | (leave1; walk_say "STEP leave1"; try dsimp only) | fail "no step")
        refine ke_ne_ints (ns := ds) (ms := []) (by is_list) (by is_list) hys IntsAre.nil (by units_room) ?_
        by_cases hds : ds = []
        · rw [decide_eq_true hds]
          iterate 5 (first | (k_unfold; (try dsimp only)) | (k_end; wrow_close) | walk1 | (dsimp only; walk1) | (leave1; walk_say "STEP leave1"; try dsimp only) | fail "no step")
          rename Fr _ _ _ _ => F9
          rename News _ _ _ _ => N9
          exact due_intro F9 (cb_drop N9 fun p hp => .tail _ hp) rfl (due_nil hds) (fun _ _ => rfl)
        rw [decide_eq_false hds]
        have hpos : 0 < ds.length := List.length_pos_iff.mpr hds
        iterate 6 (first | (k_unfold; (try dsimp only)) | (k_end; wrow_close) | walk1 | (dsimp only; walk1) | (leave1; walk_say "STEP leave1"; try dsimp only) | fail "no step")
        refine ke_ne_ints (ns := zs1) (ms := zs) (by is_list) (by is_list) hB1 hIw (by units_room) ?_
        by_cases hot : zs1 = zs
        · rw [decide_eq_true hot]
          iterate 5 (first | (k_unfold; (try dsimp only)) | (k_end; wrow_close) | walk1 | (dsimp only; walk1) | (leave1; walk_say "STEP leave1"; try dsimp only) | fail "no step")
          rename Fr _ _ _ _ => F9
          rename News _ _ _ _ => N9
          exact due_intro F9 (cb_drop N9 fun p hp => .tail _ hp) rfl (due_same hds hot) (fun _ _ => rfl)
        rw [decide_eq_false hot]
        k_steps
        all_goals (
          rename Fr _ _ _ _ => F9
          rename News _ _ _ _ => N9
          refine due_intro F9 (cb_drop N9 fun p hp => .tail _ hp) (by with_unfolding_all rfl) ?_ (fun z hz => if_neg hz)
          first
            | exact due_mixed hds hot hlenw (by assumption)
            | exact due_one hds hot hlenw (by assumption) (by assumption)
            | exact due_len hds hot hlenw (by assumption) (by assumption) (by assumption)
            | exact due_zero hds hot hlenw (by assumption) (by assumption) (by assumption) (by assumption)
            | exact due_off hds hot hlenw (by assumption) (by assumption) (by assumption) (by assumption) (by assumption) (by assumption)
            | exact due_least hds hot hlenw (by assumption) (by assumption) (by assumption) (by assumption) (fun h => absurd (congrArg Int.ofNat h.2) (by assumption)) hdl3 (by assumption) (by assumption)
            | exact due_least hds hot hlenw (by assumption) (by assumption) (by assumption) (by assumption) (fun h => absurd h.1 (by assumption)) hdl3 (by assumption) (by assumption))
      · intro h14 tk14 t14 F14 N14
        clear F13 N13
        dsimp only
        iterate 23 (first | (k_unfold; (try dsimp only)) | (k_end; wrow_close) | walk1 | (dsimp only; walk1) | (leave1; walk_say "STEP leave1"; try dsimp only) | fail "no step")
        rename Fr _ _ _ _ => F15
        rename News _ _ _ _ => N15
        have hl18 : zs1.length ≤ 8 := by omega
        have hlw8 : zs.length ≤ 8 := by omega
        refine made_spec BG F15 XG (cb_drop N15 led_a) TG rfl hB1 hl18 hz1 (by decide) (by decide) ?_
        intro ta a1 a2 a3 h16 tk16 la la' F16 N16
        clear F15 N15
        iterate 8 (first | (k_unfold; (try dsimp only)) | (k_end; wrow_close) | walk1 | (dsimp only; walk1) | (leave1; walk_say "STEP leave1"; try dsimp only) | fail "no step")
        rename Fr _ _ _ _ => F15
        rename News _ _ _ _ => N15
        refine made_spec BG F15 XG (cb_drop N15 led_rot3) TG rfl hIw hlw8 hzw (by decide) (by decide) ?_
        intro tb b1 b2 b3 h17 tk17 lb lb' F17 N17
        clear F15 N15
        iterate 2 (first | (k_unfold; (try dsimp only)) | (k_end; wrow_close) | walk1 | (dsimp only; walk1) | (leave1; walk_say "STEP leave1"; try dsimp only) | fail "no step")
        rename Fr _ _ _ _ => F15
        rename News _ _ _ _ => N15
        refine pick_spec BG F15 XG (cb_drop N15 led_b) TG rfl hys hdl3 (by omega) (by omega) ?_
        intro tp h18 tk18 F18 N18
        clear F15 N15
        replace N18 := cb_drop N18 led_c
        rw [pick_is_due (n := zs1.length) (by omega) rfl (by omega) hz1 hzw]
        iterate 2 (first | (k_unfold; (try dsimp only)) | (k_end; wrow_close) | walk1 | (dsimp only; walk1) | (leave1; walk_say "STEP leave1"; try dsimp only) | fail "no step")
        rw [beq_self_eq_true]
        iterate 23 (first | (k_unfold; (try dsimp only)) | (k_end; wrow_close) | walk1 | (dsimp only; walk1) | (leave1; walk_say "STEP leave1"; try dsimp only) | fail "no step")
        rename Fr _ _ _ _ => F15
        rename News _ _ _ _ => N15
        refine made_spec BG F15 XG (cb_drop N15 led_swap) TG rfl hIw hlw8 hzw (by decide) (by decide) ?_
        intro ta' a1' a2' a3' h19 tk19 la9 la9' F16 N16
        clear F15 N15
        iterate 8 (first | (k_unfold; (try dsimp only)) | (k_end; wrow_close) | walk1 | (dsimp only; walk1) | (leave1; walk_say "STEP leave1"; try dsimp only) | fail "no step")
        rename Fr _ _ _ _ => F15
        rename News _ _ _ _ => N15
        refine made_spec BG F15 XG (cb_drop N15 led_swap) TG rfl hIw hlw8 hzw (by decide) (by decide) ?_
        intro tb' b1' b2' b3' h20 tk20 lb9 lb9' F17 N17
        clear F15 N15
        iterate 2 (first | (k_unfold; (try dsimp only)) | (k_end; wrow_close) | walk1 | (dsimp only; walk1) | (leave1; walk_say "STEP leave1"; try dsimp only) | fail "no step")
        rename Fr _ _ _ _ => F15
        rename News _ _ _ _ => N15
        refine pick_spec BG F15 XG (cb_drop N15 led_d) TG rfl hys hdl3 (by omega) (by omega) ?_
        intro tp' h21 tk21 F21 N21
        clear F15 N15
        rw [pick_same]
        k_steps))
end Mine
theorem PySem.Challenge.cw_nn0291_01_holds : PySem.Challenge.rw_nn0291_01.Holds := by
  exact Mine.law_holds
