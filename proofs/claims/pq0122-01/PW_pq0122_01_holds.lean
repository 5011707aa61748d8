import PyProof.Rows.All
import Wide.All
import OpenK.AllK
import Wide.FinOn
import Lean
import PySem.Challenge.RW_pq0122_01
open PySem PySem.W PyProof.Rows
set_option Elab.async false
set_option maxRecDepth 100000
set_option maxHeartbeats 8000000
set_option linter.all false
set_option rowWalk.seconds 0
namespace Mine
theorem regC : True := by
  k_with "c121" => first | (((with_reducible rename Fr h₀ L _ _ => kF); (with_reducible rename News h₀ L _ _ => kN); (repeat (with_reducible rename _ ∧ _ => hc; obtain ⟨_, _⟩ := hc)); exact hok _ _ _ _ _ _ _ _ (by k_extra "c4") kF (rd_end kN (by k_extra "c3") (by k_extra "c8")) (by k_extra "c1") (by k_extra "c39"))) | fail
  k_with "c122" => first | (first | exact .head _ | k_mem) | fail
  k_with "c123" => first | (simp only [sumC, sumL, List.map_cons, List.map_nil, List.sum_cons, List.sum_nil] at hyl9 hkk) | fail
  k_with "c124" => first | (refine setF (s := { s with heap := h₁ }) b₁ f₁ t₁ fun h₂ b₂ f₂ t₂ u₂ => ?_) | fail
  k_with "c125" => first | (obtain ⟨h', tk, i, ys, m', news', rfl, hi, rfl, hst', F', hn', N', off', hS', R'⟩ := hh9) | fail
  k_with "c126" => first | (have F₃ : Fr h₀ L h₃ m := fr_but (fr_but F' hk₂ hIL hI₀) hs₃ (Ne.symm hCL) hC₀) | fail
  k_with "c127" => first | (refine wpAny_newObj_type (wpAny_newFunctionEnv hcell (by intro y hy; simp at hy) ?_ hkind)) | fail
  k_with "c128" => first | (refine wpAny_assign_Name (wpAny_storeName_local hz F'.ns (fun h₂ hn₂ hs₂ => ?_) hpz)) | fail
  k_with "c129" => first | (obtain ⟨tkT, T, pcs, o1, hm1, hm2, hm3, hT, hsq, hwd, hend, hz, hasc, rfl, hP1⟩ := hh9) | fail
  k_with "c130" => first | (have hC₀ : h₀.get? H2.objs.size = none := fresh₀ _ (by rw [hC]; exact Nat.le_succ _)) | fail
  k_with "c131" => first | (rcases List.mem_cons.mp h with rfl | h) | fail
  k_with "c132" => first | (have hst : (A.deeper env).frames = some (env :: outer) := Around.frames_deeper K.stack) | fail
  k_with "c133" => first | (simp only [tmWords, List.mem_cons, List.mem_append, List.not_mem_nil, or_false] at hy) | fail
  k_with "c134" => first | (simp only [Option.bind_some, Array.getD, hlt, dif_pos, Array.getElem?_eq_getElem hlt]) | fail
  k_with "c135" => first | (rw [pPaper_unf h0 h1 op_kind.2.2.2.1, pBody_turn]) | fail
  k_with "c136" => first | (obtain ⟨⟨s0, h0⟩, ⟨s1, h1⟩, ha⟩ := ha) | fail
  k_with "c137" => first | (simp only [sumC, List.map_cons, List.map_nil, List.sum_cons, List.sum_nil] at c8 hk9) | fail
  k_with "c138" => first | (exact herr _ _ _ _ _ (by assumption) (by assumption) (by assumption) (by assumption)) | fail
  k_with "c139" => first | (have hC : H2.objs.size = s₂.heap.objs.size + 1 := by rw [← hH2, Heap.size_push]) | fail
  k_with "c140" => first | (have zC := (N₄ (H2.objs.size, oC) (List.mem_cons_of_mem _ List.mem_cons_self)).1) | fail
  k_with "c141" => first | (have hst₄ : St (i + 1) h₄ := hSt _ _ _ _ _ hst₃ heI zI F₄.keep N₄' hS₄) | fail
  k_with "c142" => first | (have hp : p < 20000 := Nat.lt_of_lt_of_le (List.getElem?_eq_some_iff.mp hy).1 hwl) | fail
  k_with "c143" => first | (all_goals (repeat (with_reducible rename _ ∧ _ => hc; obtain ⟨_, _⟩ := hc))) | fail
  k_with "c144" => first | (simp only [List.map_cons, List.map_nil, joinZ_cons, joinZ_nil, ppZ] at hz ⊢; omega) | fail
  k_with "c145" => first | (simp only [sumL, List.map_cons, List.map_nil, List.sum_cons, List.sum_nil] at z8) | fail
  k_with "c146" => first | (intro w mean mg mb x dx W t1 t2 t3 t4 u2 u3 u4 p d mst ws y news hx hdx hW hy hp) | fail
  k_with "c147" => first | (have zz : h₂.get? p.1 = some p.2 := hs₂.extBut _ _ (N' p hp).2.1 (N' p hp).1) | fail
  k_with "c148" => first | (obtain ⟨t, n, y, yt, tm, e1, hm, hp, e2, hT⟩ := hpv i us[i] (by simp [hiu])) | fail
  k_with "c149" => first | (obtain ⟨b, t, u, n', hv, hb⟩ := hat p y hy) | fail
  k_with "c150" => first | (have hD₀ : h₀.get? s₂.heap.objs.size = none := fresh₀ _ (Nat.le_refl _)) | fail
  k_with "c151" => first | (obtain rfl := List.mem_singleton.mp hq; exact ih _ (by omega) (by omega) g.2.2) | fail
  k_with "c152" => first | (exact codeAny_compStart_list (loop _ rfl) (W.self 0 _ _ _ hst₁ (loop _ rfl))) | fail
  k_with "c153" => first | (have hDf : s₂.heap.objs.size ∉ fp := fun hm => Nat.lt_irrefl _ (hfp _ hm)) | fail
  k_with "c154" => first | (have e := pTerm_ok f a (p + 1 + 1) g2 (by simp only [tmDepth] at h; omega) ha) | fail
  k_with "c155" => first | (exact p1.sub _ (.tail _ (p2.sub _ (.head _)))) | fail
  k_with "c61" => first | (all_goals (first | exact ⟨hns (by k_extra "c4")⟩ | exact ⟨herr _ _ _ _ _ (by k_extra "c4") (by assumption) (by assumption) (by assumption)⟩ | exact (want_noerr (by assumption) (by assumption) (by assumption)).elim | exact ⟨(want_noerr (by assumption) (by assumption) (by assumption)).elim⟩ | exact (want_nostuck (by assumption) (by assumption)).elim | exact ⟨want_nostuck (by assumption) (by assumption)⟩ | exact ⟨absurd (by k_extra "c4") hns⟩)) | fail
  k_with "c62" => first | (all_goals try (first | exact ⟨hns (by k_extra "c4")⟩ | exact ⟨herr _ _ _ _ _ (by k_extra "c4") (by assumption) (by assumption) (by assumption)⟩ | exact (want_noerr (by assumption) (by assumption) (by assumption)).elim | exact ⟨(want_noerr (by assumption) (by assumption) (by assumption)).elim⟩ | exact (want_nostuck (by assumption) (by assumption)).elim | exact ⟨want_nostuck (by assumption) (by assumption)⟩ | exact ⟨absurd (by k_extra "c4") hns⟩)) | fail
  k_with "c63" => first | (first | (simp only [pPapers, lpar, rpar, nils, pWord, Res.bind, Bool.false_eq_true, if_false, if_true, *]; done) | (simp only [pPapers, lpar, rpar, nils, pWord, Res.bind, Bool.false_eq_true, if_false, if_true, *]; rfl)) | fail
  k_with "c64" => first | (first | (simp only [pTerm, lpar, rpar, nils, pWord, Res.bind, Bool.false_eq_true, if_false, if_true, *]; done) | (simp only [pTerm, lpar, rpar, nils, pWord, Res.bind, Bool.false_eq_true, if_false, if_true, *]; rfl)) | fail
  k_with "c65" => first | ((repeat (with_reducible rename _ ∧ _ => hc; obtain ⟨_, _⟩ := hc))) | fail
  k_with "c66" => first | ((with_reducible rename Fr h₀ L _ _ => kF); (with_reducible rename News h₀ L _ _ => kN)) | fail
  k_with "c67" => first | (obtain ⟨nw, hN, hO⟩ := pen_end (P := P) (R := R) (news := news) (o := o) kN (by k_extra "c3") (by k_extra "c8") (by k_extra "c1") (by assumption) (Rel := fun nw r => IsPp nw r (.rule (ruleOps.getD (drawAt row (genT row 1 (genT row 1 (k + 1)).2).2 2).toNat "a") (List.take (drawAt row ((genT row 1 (genT row 1 (k + 1)).2).2 + 1) 3).toNat [("?x", (genT row 1 (k + 1)).1), ("?y", (genT row 1 (genT row 1 (k + 1)).2).1)]), (genT row 1 (genT row 1 (k + 1)).2).2 + 2).1) (by k_extra "c42")) | fail
  k_with "c68" => first | (exact hret _ _ _ _ kF (sub_news kN (by k_extra "c8")) ⟨_, rfl, rfl⟩) | fail
  k_with "c69" => first | (obtain ⟨nw, hN, hO⟩ := outG_end (w := w) (P := P) (R := R) (news := news) (o := o) (k := k) (c := 1) (W := fun ws => ∃ qs, (qs = ps ∨ (plain = false ∧ qs = ps.reverse)) ∧ ws = lpar :: kRule :: l :: (rowWords qs ++ [rpar])) kN (by k_extra "c3") (by k_extra "c8") (by k_extra "c2") (by assumption) (by omega) (by k_extra "c122") (.cons _ _ (.cons _ _ (.cons _ _ (StrsAre.append (by assumption) (.cons _ _ .nil))))) ⟨ps, .inl rfl, rfl⟩) | fail
  k_with "c70" => first | (obtain ⟨nw, hN, hO⟩ := outG_end (w := w) (P := P) (R := R) (news := news) (o := o) (k := k) (c := sumC [_]) (W := fun ws => ∃ w1, ws = lpar :: kTurn :: (w1 ++ [rpar]) ∧ PartsW plain [_] w1) kN (by k_extra "c3") (by k_extra "c8") (by k_extra "c2") (by assumption) (by omega) (by k_extra "c122") (.cons _ _ (.cons _ _ (StrsAre.append (by assumption) (.cons _ _ .nil)))) ⟨_, rfl, by assumption⟩) | fail
  k_with "c71" => first | (obtain ⟨nw, hN, hO⟩ := pen_end (P := P) (R := R) (news := news) (o := o) kN (by k_extra "c3") (by k_extra "c8") (by k_extra "c1") (by assumption) (Rel := fun nw r => IsPp nw r (.same (genT row 2 (k + 1)).1, (genT row 2 (k + 1)).2).1) (by exact .same (.head _) rfl (T9.mono (fun p hp => by simp only [List.mem_cons, List.mem_append, hp, true_or, or_true])))) | fail
  k_with "c72" => first | (obtain ⟨nw, hN, hO⟩ := pen_end (P := P) (R := R) (news := news) (o := o) kN (by k_extra "c3") (by k_extra "c8") (by k_extra "c1") (by assumption) (Rel := fun nw r => IsPp nw r (.told (toldOps.getD (drawAt row (k + 1) 3).toNat "a"), k + 1 + 1).1) (by exact .told (.head _) rfl)) | fail
  k_with "c73" => first | (refine src_parts (P := P) (R := R) plain (by rfl) (by k_asm) (by k_asm) (by k_extra "c3") (by assumption) (by k_mem) (.inl ⟨_, rfl⟩) (PpsAre.mono (.cons hI1 hU1) (fun p hp => by simp only [List.mem_cons, List.mem_append, hp, true_or, or_true])) (by rfl) ?_ ?_) | fail
  k_with "c74" => first | (refine hasg H2.objs.size i v h₂ tk₂ m' news' _ _ hPv hst₂ (hn'.at' fun o e => hk₂ _ o (by simpa using Ne.symm hCI) e) (fun p hp => N₂ p (List.mem_cons_of_mem _ hp)) hS' ?_) | fail
  k_with "c75" => first | (refine C v all hv hl dp un gd cn cs a ccd cl outer A₀ base h₀ L m s Q E B F X N T hk hd hu ?_) | fail
  k_with "c76" => first | (have other : ∀ b, b ≠ T → (s.heap.update T (Obj.mapFields (·.setIfInBounds 3 Value.none))).get? b = s.heap.get? b := fun b hb => Heap.get?_update_other _ _ (Ne.symm hb)) | fail
  k_with "c77" => first | (have off₀ : Off3 I H2.objs.size s₂.heap.objs.size news := Off3.of fun p hp => ⟨off p hp, (below _ (Heap.lt_size (N p hp).1)).1, (below _ (Heap.lt_size (N p hp).1)).2⟩) | fail
  k_with "c78" => first | (rw [pPaper_unf h0 h1 op_kind.2.2.2.2.2, pBody_under]) | fail
  k_with "c79" => first | (simp only [List.length_cons, List.length_nil]; omega) | fail
  k_with "c80" => first | (obtain ⟨⟨s0, h0⟩, ⟨s1, h1⟩, ⟨s2, h2⟩, ha⟩ := ha) | fail
  k_with "c81" => first | (obtain ⟨m, rfl⟩ : ∃ m, n = m + 1 := ⟨n - 1, by omega⟩) | fail
  k_with "c82" => first | (exact fun i h h' oo nw st e e' _ N' hm' => ⟨by obtain ⟨o', q, r⟩ := st.1; rw [e] at q; cases q; exact ⟨oo, e', r⟩, ⟨_, (N' _ hm').1, rfl, _, rfl⟩⟩) | fail
  k_with "c83" => first | (have nT : ∀ b o, s.heap.get? b = some o → (∀ vs, o.data ≠ .fields vs) → b ≠ T := fun b o q n z => by rw [z, hT] at q; cases q; exact n ts hdT) | fail
  k_with "c84" => first | ((try simp only [List.length_cons, List.length_nil] at hyl9)) | fail
  k_with "c85" => first | (refine wpAny_mono (R' I oI H2.objs.size oC s₂.heap.objs.size m₂ h₃ tk₃ _ hoC hG F₃ N₃ off' ⟨hCI, hDI, Ne.symm hDC⟩) ?_ fun _ _ e => e) | fail
  k_with "c86" => first | (simp only [List.mem_cons, List.not_mem_nil, or_false] at h) | fail
  k_with "c87" => first | (have hacc : h₁.get? s₂.heap.objs.size = some (lst []) := hsb₁.extBut _ _ hDC (Heap.get?_push_of_some _ (hH2 ▸ Heap.get?_push_size _ rfl))) | fail
  k_with "c88" => first | (all_goals repeat (with_reducible rename _ ∧ _ => hc; obtain ⟨_, _⟩ := hc)) | fail
  k_with "c89" => first | (refine ⟨hs''.extBut _ _ ?_ (N' p hp).1, (N' p hp).2⟩) | fail
  k_with "c90" => first | (have old3 : ∀ b o, b ≠ H2.objs.size → h₂.get? b = some o → h₃.get? b = some o := fun b o hb e => hs₃ b o (by simpa using hb) e) | fail
  k_with "c91" => first | (exact Nat.lt_of_succ_le (far2 l (Nat.succ_le_of_lt k) (by simp +arith only))) | fail
  k_with "c92" => first | (exact ws_turn (by k_asm) (by k_asm) (by omega) (by assumption) (by assumption) (by assumption) hj hnl hab htl hws hcat hl' (by assumption)) | fail
  k_with "c93" => first | (simp only [joinZ_cons, joinZ_nil, ppZ] at hz ⊢; omega) | fail
  k_with "c94" => first | (have h0 : okC (t.cps.getD j 0) = false := by rw [← isOpS_one]; assumption) | fail
  k_with "c95" => first | (have N₄' : News h₀ L h₄ news₄ := fun p hp => N₄ p (List.mem_cons_of_mem _ (List.mem_cons_of_mem _ (List.mem_cons_of_mem _ hp)))) | fail
  k_with "c96" => first | (generalize hH2 : s₂.heap.push { cls := .type "list", dict := none, data := .seq ([] : List Value).toArray } = H2 at hns₁ hsb₁ ⊢) | fail
  k_with "c97" => first | ((with_reducible rename News _ _ _ _ => N9)) | fail
  k_with "c98" => first | (have hCf : H2.objs.size ∉ fp := fun hm => by have := hfp _ hm; rw [hC] at this; exact Nat.lt_irrefl _ (Nat.lt_of_succ_lt this)) | fail
  k_with "c99" => first | (refine refused_use (by k_asm) (by k_asm) (by k_asm) (by k_asm) (by k_asm) (by k_extra "c9") hb (by ktr_room) (by ktr_units) ?_) | fail
  k_with "c100" => first | (simp only [joinZ, List.map_cons, List.map_nil, List.sum_cons, List.sum_nil, List.length_cons, List.length_nil, lenS] at zj) | fail
  k_with "c101" => first | (simp only [joinZ, List.map_cons, List.map_nil, List.sum_cons, List.sum_nil, List.length_cons, List.length_nil, lenS] at h2) | fail
  k_with "c102" => first | (have hst₃ : St (i + 1) h₃ := W.frame _ _ _ hst₂ fun b hb o e => old3 b o (fun q => hCf (by rw [← q]; exact hb)) e) | fail
  k_with "c103" => first | (simp only [List.length_cons] at he) | fail
  k_with "c104" => first | (have zD := (N₄ (s₂.heap.objs.size, lst ys) (List.mem_cons_of_mem _ (List.mem_cons_of_mem _ List.mem_cons_self))).1) | fail
  k_with "c105" => first | (rw [pPaper_unf h0 h1 op_kind.2.2.1, pBody_rule]) | fail
  k_with "c106" => first | (refine ⟨m', hn.sameBut hs₂ hCL, fun h'' hs'' => fin D h'' _ (F₂.change hs'' hCL hC₀) (fun p hp => ?_) o1⟩) | fail
  k_with "c107" => first | (have h : ¬ (Str.ofString "?y" = Str.ofString "?x") := by decide) | fail
  k_with "c108" => first | (have h : ¬ (Str.ofString "?x" = Str.ofString "?y") := by decide) | fail
  k_with "c109" => first | (refine wpAny_bind (wpAny_standAt (wpAny_bind (wpAny_mono (turn n s hI) (fun r s₁ h₁ => ?_) fun _ _ h' => h')))) | fail
  k_with "c110" => first | (have hcB : (Value.ref C :: bm).contains (.type "Exception") = true := by rw [List.contains_cons, hB, Bool.or_true]) | fail
  k_with "c111" => first | (obtain ⟨hj9, a9, k9, t9, rest9, n9, rfl, hm9, hk9⟩ := hh9) | fail
  k_with "c112" => first | (exact asc_of (by decide +kernel) c hc) | fail
  k_with "c113" => first | (exact p1.sub _ (.tail _ (p2.sub _ (.tail _ (p3.sub _ hp))))) | fail
  k_with "c114" => first | (refine set_plain X I hs (x_osa_open (s := { s with toks := s.toks + 1 }) X I hc hr hobj ht fun b => ?_)) | fail
  k_with "c115" => first | (have hDC : s₂.heap.objs.size ≠ H2.objs.size := by rw [hC]; exact Nat.ne_of_lt (Nat.lt_succ_self _)) | fail
  k_with "c116" => first | (have hyl : ys.length ≤ ps.length := by rw [hS.length, List.length_map, List.length_take]; omega) | fail
  k_with "c117" => first | (have hiu : i < us.length := by rw [hU.length]; exact hi) | fail
  k_with "c118" => first | (have hdy : tmDepth y + 1 ≤ tmDepth (Tm.two op x y) := Nat.succ_le_succ (Nat.le_max_right _ _)) | fail
  k_with "c119" => first | (have hdx : tmDepth x + 1 ≤ tmDepth (Tm.two op x y) := Nat.succ_le_succ (Nat.le_max_left _ _)) | fail
  k_with "c120" => first | (rcases g with rfl | ⟨t, ⟨g1, g2⟩, rfl⟩ | ⟨t, t', ⟨g1, g2⟩, ⟨g3, g4⟩, rfl⟩) | fail
  k_with "c1" => first | (repeat' (first | exact Above.nil | (refine Above.cons (lt_cons (by first | assumption | exact Nat.ne_of_lt (by assumption) | exact Nat.ne_of_lt (Nat.lt_succ_of_lt (by assumption)) | exact Nat.ne_of_lt (Nat.lt_succ_of_lt (Nat.lt_succ_of_lt (by assumption))) | omega) (fun q hq => by first | exact Nat.ne_of_lt (ktn_ltOf (by assumption) q hq) | exact off1_mem (by assumption) q hq | exact Nat.ne_of_lt (ktn_ltOf (l := _ ++ _) (by assumption) q (by k_mem)) | exact off1_mem (l := _ ++ _) (by assumption) q (by k_mem) | exact Nat.ne_of_lt (Nat.lt_succ_of_lt (ktn_ltOf (by assumption) q hq)) | exact Nat.ne_of_lt (Nat.lt_succ_of_lt (Nat.lt_succ_of_lt (ktn_ltOf (by assumption) q hq))))) ?_) | (refine Above.app (Above.sub2 (by assumption) (fun q hq => by k_mem)) ?_))) | fail
  k_with "c2" => first | (repeat' (first | exact Above.nil | (refine Above.consA (by with_reducible assumption) (by k_mem) (fun q hq => by k_mem) ?_) | (refine Above.consO (by with_reducible assumption) (by k_mem) (fun q hq => by k_mem) ?_) | (refine Above.consSS (by with_reducible assumption) (by with_reducible assumption) ?_) | (refine Above.consS (by with_reducible assumption) (by with_reducible assumption) ?_) | (refine Above.cons (lt_cons (by first | assumption | exact ne_ofL (by with_reducible assumption) (by k_mem) | exact Nat.ne_of_lt (by assumption) | exact Nat.ne_of_lt (Nat.lt_succ_of_lt (by assumption)) | exact Nat.ne_of_lt (Nat.lt_succ_of_lt (Nat.lt_succ_of_lt (by assumption))) | omega) (fun q hq => by first | exact Nat.ne_of_lt (ktn_ltOf (by assumption) q hq) | exact off1_mem (by assumption) q hq | exact Nat.ne_of_lt (ktn_ltOf (l := _ ++ _) (by assumption) q (by k_mem)) | exact off1_mem (l := _ ++ _) (by assumption) q (by k_mem) | exact Nat.ne_of_lt (Nat.lt_succ_of_lt (ktn_ltOf (by assumption) q hq)) | exact Nat.ne_of_lt (Nat.lt_succ_of_lt (Nat.lt_succ_of_lt (ktn_ltOf (by assumption) q hq))) | exact ne_allW (by assumption) q (by k_mem))) ?_) | (refine Above.app (Above.subA (by with_reducible assumption) (by k_mem) (fun q hq => by k_mem)) ?_) | (refine Above.app (Above.sub2 (by assumption) (fun q hq => by k_mem)) ?_))) | fail
  k_with "c3" => first | (repeat (first | exact Pick.here | apply Pick.there | apply Pick.app)) | fail
  k_with "c4" => first | (first | (simp only [pPlaces, lpar, rpar, nils, pWord, Res.bind, Bool.false_eq_true, if_false, if_true, *]; done) | (simp only [pPlaces, lpar, rpar, nils, pWord, Res.bind, Bool.false_eq_true, if_false, if_true, *]; rfl)) | fail
  k_with "c5" => first | (first | (simp only [pPaper, pBody, kSame, kTold, kRule, kTurn, kJoin, kUnder, lpar, rpar, nils, pWord, Res.bind, Bool.false_eq_true, if_false, if_true, *]; done) | (simp only [pPaper, pBody, kSame, kTold, kRule, kTurn, kJoin, kUnder, lpar, rpar, nils, pWord, Res.bind, Bool.false_eq_true, if_false, if_true, *]; rfl)) | fail
  k_with "c6" => first | (repeat' (first | exact True.intro | with_reducible assumption | exact off3_tail (by with_reducible assumption) | (refine off3_cons (by with_reducible assumption) (.head _) ?_) | (refine off3_newR (by with_reducible assumption) (by k_mem) (by k_mem) (by k_mem) ?_) | (refine And.intro ⟨by k_ne, by k_ne, by k_ne⟩ ?_) | (refine off_app ?_ ?_) | exact off_above (by assumption) (by k_mem) (by k_mem) (by k_mem))) | fail
  k_with "c7" => first | (all_goals (first | exact ⟨hns (by k_extra "c63")⟩ | exact ⟨herr _ _ _ _ _ (by k_extra "c63") (by assumption) (by assumption) (by assumption)⟩ | exact (want_noerr (by assumption) (by assumption) (by assumption)).elim | exact ⟨(want_noerr (by assumption) (by assumption) (by assumption)).elim⟩ | exact (want_nostuck (by assumption) (by assumption)).elim | exact ⟨want_nostuck (by assumption) (by assumption)⟩)) | fail
  k_with "c8" => first | (repeat (first | exact Tail.here | apply Tail.cons | apply Tail.app)) | fail
  k_with "c9" => first | (first | with_reducible assumption | rfl) | fail
  k_with "c10" => first | (((with_reducible rename Fr h₀ L _ _ => kF); (with_reducible rename News h₀ L _ _ => kN); (repeat (with_reducible rename _ ∧ _ => hc; obtain ⟨_, _⟩ := hc)))) | fail
  k_with "c11" => first | (have hK : (fun (_ : OpenLaw) (_ : Params → Frag) => True) LAW hd.heap_39 := by k_fill; trivial) | fail
  k_with "c12" => first | (all_goals (first | exact ⟨hns (by k_extra "c64")⟩ | exact ⟨herr _ _ _ _ _ (by k_extra "c64") (by assumption) (by assumption) (by assumption)⟩ | exact (want_noerr (by assumption) (by assumption) (by assumption)).elim | exact ⟨(want_noerr (by assumption) (by assumption) (by assumption)).elim⟩ | exact (want_nostuck (by assumption) (by assumption)).elim | exact ⟨want_nostuck (by assumption) (by assumption)⟩)) | fail
  k_with "c13" => first | (first | exact ⟨by k_mem, trivial⟩ | exact s_use (by assumption) (fun p hp => by simp only [List.mem_cons, List.mem_append, hp, true_or, or_true])) | fail
  k_with "c14" => first | (intro dp un gd cn cs a ccd cl outer A₀ base h₀ L m s Q E B F X N T hk hd hu hret) | fail
  k_with "c15" => first | (repeat' (first | exact Above.nil | (refine Above.cons (lt_cons (by omega) (fun q hq => by first | exact Nat.ne_of_lt (ktn_ltOf (by assumption) q hq) | exact off1_mem (by assumption) q hq | exact Nat.ne_of_lt (ktn_ltOf (l := _ ++ _) (by assumption) q (by k_mem)) | exact off1_mem (l := _ ++ _) (by assumption) q (by k_mem) | exact Nat.ne_of_lt (Nat.lt_succ_of_lt (ktn_ltOf (by assumption) q hq)) | exact Nat.ne_of_lt (Nat.lt_succ_of_lt (Nat.lt_succ_of_lt (ktn_ltOf (by assumption) q hq))))) ?_) | (refine Above.app (Above.sub2 (by assumption) (fun q hq => by k_mem)) ?_))) | fail
  k_with "c16" => first | ((try simp only [List.length_append, List.length_cons, List.length_nil]); omega) | fail
  k_with "c17" => first | ((with_reducible rename _ = Data.cell _ => dc9); replace dc9 := cell_is (v' := some (.ref P)) dc9 (by with_unfolding_all rfl); revert dc9; (with_reducible rename _ = Data.cell _ => dc8); replace dc8 := cell_is (v' := some (.bool plain)) dc8 (by with_unfolding_all rfl); intro dc9) | fail
  k_with "c18" => first | (intro dp un gd cn cs a ccd cl outer A₀ base h₀ L m s Q E u2 u3 news B F X N T hk hx hW hne hd hu hok herr hns) | fail
  k_with "c19" => first | (repeat' (first | exact Above.nil | (refine Above.cons (fun q hq => by first | exact Nat.ne_of_lt (ktn_ltOf (by assumption) q hq) | exact off1_mem (by assumption) q hq | exact Nat.ne_of_lt (ktn_ltOf (l := _ ++ _) (by assumption) q (by k_mem)) | exact off1_mem (l := _ ++ _) (by assumption) q (by k_mem) | exact ne_allW (by assumption) q (by k_mem)) ?_) | (refine Above.app (Above.monoW (by assumption) (fun q hq => by k_mem)) ?_))) | fail
  k_with "c20" => first | (first | with_reducible assumption | exact wz_of (by k_asm) (by k_asm) | exact Nat.le_of_ble_eq_true rfl) | fail
  k_with "c21" => first | (simp only [joinZ, List.map_append, List.map_cons, List.map_nil, List.sum_append, List.sum_cons, List.sum_nil, List.length_append, List.length_cons, List.length_nil, lenS, sz_sp] at zj hz) | fail
  k_with "c22" => first | (rcases List.mem_cons.mp hp with rfl | hp) | fail
  k_with "c23" => first | (intro _; with_unfolding_all rfl) | fail
  k_with "c24" => first | (first | (simp only [pRead, lpar, rpar, nils, pWord, Res.bind, Bool.false_eq_true, if_false, if_true, *]; done) | (simp only [pRead, lpar, rpar, nils, pWord, Res.bind, Bool.false_eq_true, if_false, if_true, *]; rfl)) | fail
  k_with "c25" => first | (first | (simp only [pRow, lpar, rpar, nils, pWord, Res.bind, Bool.false_eq_true, if_false, if_true, *]; done) | (simp only [pRow, lpar, rpar, nils, pWord, Res.bind, Bool.false_eq_true, if_false, if_true, *]; rfl)) | fail
  k_with "c26" => first | (obtain ⟨kz1, kz2, kz3, kz4, kz5, kz6⟩ := kind_sz) | fail
  k_with "c27" => first | ((try simp only [joinZ, List.map_append, List.map_cons, List.map_nil, List.sum_append, List.sum_cons, List.sum_nil, List.length_append, List.length_cons, List.length_nil, lenS, sz_sp]); omega) | fail
  k_with "c28" => first | (exact row_next (hn9 I9 C9 D9 oI9 oC9 (lst ys9) _ _ (row_step (by with_reducible assumption) (by with_reducible assumption) (by with_reducible assumption) (by with_reducible assumption) (by with_reducible assumption) (by with_reducible assumption)) (.cons _ _ (by assumption)))) | fail
  k_with "c29" => first | (refine src_bent (by rfl) (by k_asm) (by k_asm) (by k_mem) (by exact .inl ⟨_, rfl⟩) (by repeat' (first | exact .nil | apply IsBent.cons (by k_mem))) (by rfl) (by rfl) (by decide) ?_ ?_) | fail
  k_with "c30" => first | (rcases List.mem_cons.mp hq with rfl | hq) | fail
  k_with "c31" => first | (exact hn9 _ _ _ _ _ _ _ _ _ _ _ (by assumption) (by assumption) (by assumption) (by assumption) (by assumption) (by assumption)) | fail
  k_with "c32" => first | (first | with_reducible assumption | exact wo_of (by k_asm) (by k_asm)) | fail
  k_with "c33" => first | (simp only [List.drop_succ_cons, List.drop_zero]; rfl) | fail
  k_with "c34" => first | (repeat' (first | exact True.intro | assumption | (refine And.intro ⟨by k_ne, by k_ne, by k_ne⟩ ?_) | (refine off_app ?_ ?_) | exact off_above (by assumption) (by k_mem) (by k_mem) (by k_mem))) | fail
  k_with "c35" => first | (have up : ∀ b o, s₁.heap.get? b = some o → (s₁.heap.push oi).get? b = some o := fun b o e => Heap.get?_push_of_some _ e) | fail
  k_with "c36" => first | (cases b <;> simpa only [ppW, ppTx, List.cons_append, List.nil_append] using this) | fail
  k_with "c37" => first | (refine ⟨_, _, _, _, _, _, rfl, rfl, by k_asm, by k_asm, by k_mem, .inr ⟨_, rfl⟩, .name rfl, trivial, ?_⟩; intro g) | fail
  k_with "c38" => first | (cases b <;> (simp only [ppTx, joinZ_cons, joinZ_nil, ppZ] at this ⊢; omega)) | fail
  k_with "c39" => first | (exact ⟨_, _, _, rfl, by k_mem, .cons (by k_mem) (IsTm.mono (by assumption) (fun p hp => by simp only [List.mem_cons, List.mem_append, hp, true_or, or_true])) (.cons (by k_mem) (IsTm.mono (by assumption) (fun p hp => by simp only [List.mem_cons, List.mem_append, hp, true_or, or_true])) .nil)⟩) | fail
  k_with "c40" => first | (refine C dp un gd cn cs a ccd cl outer A₀ base h₀ L m s Q E u2 u3 rest B F X (News.sub N pk.sub) T hk hx hW hne hd hu ?_ herr (fun h => (hst h).h)) | fail
  k_with "c41" => first | (rcases List.mem_cons.mp hx with rfl | hx) | fail
  k_with "c42" => first | (exact .rule (.head _) rfl (by k_mem) (IsRow.take (.cons (by k_mem) (T9.mono (fun p hp => by simp only [List.mem_cons, List.mem_append, hp, true_or, or_true])) (.cons (by k_mem) (T8.mono (fun p hp => by simp only [List.mem_cons, List.mem_append, hp, true_or, or_true])) .nil)) _)) | fail
  k_with "c43" => first | (have hC : hh.get? 76 = some _ := X 76 (excClassObj _ _ _ _ _ _ _ _ _ _ _ _ _ _ _ _ _ _) rfl) | fail
  k_with "c44" => first | (have hlen : us.toArray.size = ps.length := by rw [List.size_toArray]; exact hU.length) | fail
  k_with "c45" => first | (repeat' (first | assumption | exact .nil | apply StrsAre.cons | apply StrsAre.append)) | fail
  k_with "c46" => first | (refine ⟨ax, us.toArray, oS, rest, _, _, rfl, hh, F, N, hax, hO, .pair pv hx hx₂ hxx, fun i v e => ?_, fun g => ?_⟩) | fail
  k_with "c47" => first | (refine src_rows (ps := ps) (by rfl) (by k_asm) (by k_asm) (by k_mem) (.inl ⟨_, rfl⟩) (IsRow.mono hU (fun p hp => by simp only [List.mem_cons, List.mem_append, hp, true_or, or_true])) (by rfl) (by rfl) (by decide) ?_ ?_) | fail
  k_with "c48" => first | (refine ⟨m', hn, fun h'' hs'' => fin D h'' tk (F'.change hs'' hCL hC₀) ?_ o1⟩) | fail
  k_with "c49" => first | (obtain ⟨ax, its, o, news, S, G, rfl, hh, F, N, hm, ho, tg, hS, R⟩ := h₁) | fail
  k_with "c50" => first | (have old : ∀ b o, s₂.heap.get? b = some o → h₁.get? b = some o := fun b o e => hsb₁.extBut b o (below b (Heap.lt_size e)).1 (Heap.get?_push_of_some _ (hH2 ▸ Heap.get?_push_of_some _ e))) | fail
  k_with "c51" => first | (have F₂ : Fr h₀ env.locals h₂ (fun x => if x = z then some (.ref D) else m x) := ⟨hn₂, fun b o e => hs₂.extBut b o (fun q => by rw [q, hL₀] at e; cases e) (F'.keep b o e), F'.above⟩) | fail
  k_with "c52" => first | (refine wpAny_comprehension_free (use := none) rfl hs hclos hkind hnames (wpAny_mono h ?_ fun _ _ e => e)) | fail
  k_with "c53" => first | (exact wpAny_bind (wpAny_bind (wpAny_mono h₂ (fun x s₄ h₄ => wpAny_bind (wpAny_mono h₄ (fun _ s₅ h₅ => wpAny_pure (wpAny_pure ⟨rfl, h₅⟩)) fun _ _ h' => h')) fun _ _ h' => h'))) | fail
  k_with "c54" => first | (all_goals ((with_reducible rename Fr h₀ L _ _ => kF); (with_reducible rename News h₀ L _ _ => kN))) | fail
  k_with "c55" => first | (intro D C h' tk m' ys news' F' N' o1 hn hC₀ hD₀ hCL hDL hCD offC fin) | fail
  k_with "c56" => first | (have below : ∀ b, b < s₂.heap.objs.size → b ≠ H2.objs.size ∧ b ≠ s₂.heap.objs.size := fun b hb => ⟨by rw [hC]; exact Nat.ne_of_lt (Nat.lt_succ_of_lt hb), Nat.ne_of_lt hb⟩) | fail
  k_with "c57" => first | (k_dflt ((try simp only [size_app, sz_sp, sz_nil, sz_lp, sz_rp]); omega)) | fail
  k_with "c58" => first | (first | decide | (simp only [List.length_cons, List.length_nil]; omega)) | fail
  k_with "c59" => first | (rcases hp9 with ⟨rfl, rfl⟩ | ⟨rfl, rfl⟩ | ⟨rfl, rfl⟩ | ⟨rfl, rfl⟩ | ⟨rfl, rfl⟩ | ⟨rfl, rfl⟩ | ⟨rfl, rfl⟩ | ⟨rfl, rfl⟩ | ⟨rfl, rfl⟩ | ⟨rfl, rfl⟩) | fail
  k_with "c60" => first | (first | omega | (simp only [List.length_cons, List.length_nil]; omega)) | fail
  trivial
end Mine
namespace Mine
/-- the program with the statements that are kept -/
noncomputable abbrev mkV {a0 a1 a2 a3 a4 a5 a6 a7 a8 a9 a10 a11 a12 a13 a14 a15 a16 a17 a18 a19 a20 a21 a22 a23 a24 a25 a26 a27 a28 a29 a30 a31 : Stmt} (_ : PySem.Challenge.pw_pq0122_01.main.body = [a0, a1, a2, a3, a4, a5, a6, a7, a8, a9, a10, a11, a12, a13, a14, a15, a16, a17, a18, a19, a20, a21, a22, a23, a24, a25, a26, a27, a28, a29, a30, a31]) : Program :=
  { PySem.Challenge.pw_pq0122_01 with main := { PySem.Challenge.pw_pq0122_01.main with body := [a0, a2, a3, a4, a6, a7, a8, a9, a11, a13, a14, a15, a16, a17, a18, a19, a20, a22, a23, a24, a25, a26, a27, a28, a29, a30, a31] } }
noncomputable def view : Program := mkV rfl
theorem regTop : True := by
  k_with "oh" => (refine holds_open (q := Mine.view) (loose := []) (Xt := fun s => xlAt Mine.view [] s && recOk (RowW.records (OpenRow.toRowW PySem.Challenge.rw_pq0122_01.row)) s) (XP := XL Mine.view []) (Yf := Hook.obs ?HH) (Ya := Hook.val ?HH) (YP := Hook.says ?HH) (N := 4744) ?hl (Hook.of ?HH) (Hook.keeps ?HH) (fun s e => xl_of s (Bool.and_eq_true_iff.mp e).1) XL.keeps (by rfl) (by rfl) (by rfl) (fun s e => recFacts_of (Bool.and_eq_true_iff.mp e).2) (by rfl) (by first | assumption | decide +kernel) (by decide +kernel) ⟨rfl, rfl, rfl, rfl, rfl, by decide +kernel⟩ ?hw ?hc)
  k_with "oi" => (case hl => intro w; kernel_rfl)
  trivial
set_option hygiene false in
local macro_rules | `(tactic| o_head $H) => `(tactic| (k_extra "oh"; (case HH => exact $H); k_extra "oi"))
open_top hd for PySem.Challenge.rw_pq0122_01
end Mine
open PySem.Spec PySem.Calls
namespace Mine
def stripS (n : Nat) (s : Lean.Syntax) : Lean.Syntax :=
  (List.range n).foldl (fun s _ => let cs := s.getArgs.filter fun c => !c.isNone; if cs.size = 1 then cs[0]! else s) s
open Lean in
def idS (s : Syntax) : Option Ident := if s.isIdent then (if s.getId == `rfl then none else some ⟨s⟩) else if s.isAtom || s.isOfKind `Lean.Parser.Term.hole then some (mkIdent `hzz) else none
set_option hygiene false in
open Lean in
def gens (t : Term) (xs : List Ident) : MacroM (List (TSyntax `tactic)) := do
  let r ← xs.foldlM (init := (([] : List (TSyntax `tactic)), t, xs.length)) fun r x => do
    let t := r.2.1
    if r.2.2 ≤ 1 then
      let a ← `(tactic| try generalize $t = $x:ident)
      return (r.1 ++ [a], t, 0)
    else
      let a ← `(tactic| try generalize Prod.fst $t = $x:ident)
      let t' ← `(Prod.snd $t)
      return (r.1 ++ [a], t', r.2.2 - 1)
  return r.1
set_option hygiene false in
open Lean in
def introA (all : List Term) (k : Nat) : MacroM (TSyntax `tactic) :=
  if k < all.length then do let r := (all.drop k).toArray; `(tactic| intro $r:term*) else `(tactic| skip)
set_option hygiene false in
open Lean in
def inAlts (all : List Term) (x0 : Ident) (xs : List Ident) (n : Nat) : MacroM (List (TSyntax `Lean.Parser.Tactic.tacticSeq)) := do
  let as ← (List.range n).reverse.mapM fun k => do
    let t ← `($(mkIdent (.mkSimple s!"e{k+1}")) ..)
    let gs ← gens t (xs.take (k+1))
    let w : TSyntax `str := Syntax.mkStrLit s!"E{k+1}"
    let af ← introA all (k+1)
    let ga := gs.toArray
    `(tacticSeq| k_extra $w; $[$ga];*; $af:tactic)
  let af ← introA all 1
  let b ← `(tacticSeq| intros $x0:ident; $af:tactic)
  let c ← `(tacticSeq| k_extra "E0"; intros $x0:ident; $af:tactic)
  return c :: (as ++ [b])
set_option hygiene false in
open Lean in
def introM (all : List Term) : MacroM Syntax := do
  match (all.map fun x => idS x.raw).takeWhile Option.isSome |>.filterMap id with
  | [] => Macro.throwUnsupported
  | x0 :: xs =>
    let alts ← inAlts all x0 (x0 :: xs) (min 8 (xs.length + 1))
    let aa := alts.toArray
    `(tactic| (k_extra "eps"; first $[| $aa:tacticSeq]*))
set_option hygiene false in
open Lean in
def obtainM (ps : Array (TSyntax `Lean.Parser.Tactic.rcasesPatLo)) (h : Term) : MacroM Syntax := do
  if ps.size ≤ 1 then Macro.throwUnsupported
  let p0 := idS (stripS 9 ps[0]!)
  let p1 := if ps.size > 2 then none else idS (stripS 9 ps[1]!)
  let i := p0.getD (mkIdent `hzz8)
  let j := p1.getD (mkIdent `hzz9)
  let t1 ← if p1.isSome then `(tactic| skip) else if ps.size > 2 then `(tactic| obtain ⟨$(ps.extract 1 ps.size),*⟩ := hzz9) else `(tactic| obtain $(⟨ps[1]!.raw[0]⟩):rcasesPatMed := hzz9)
  let t0 ← if p0.isSome then `(tactic| skip) else `(tactic| obtain $(⟨ps[0]!.raw[0]⟩):rcasesPatMed := hzz8)
  let clr ← if h.raw.isIdent then `(tactic| try clear $(⟨h.raw⟩):ident) else `(tactic| skip)
  `(tactic| (k_extra "eps"; first | ((first | (refine ex_take (by k_extra "ne") $h ?_; $clr:tactic; try generalize exc _ _ = $i:ident) | (refine and_take $h ?_; $clr:tactic; intros $i:ident)); intros $j:ident; $t1:tactic; $t0:tactic) | rcases $h:term with ⟨$ps,*⟩))
namespace Z
theorem z0 : True := trivial
end Z
namespace Z.F
theorem z0 : True := trivial
end Z.F
theorem far0 {g g' : Nat} (h : g ≤ g') : g ≤ g' := h
theorem far1 {g g' l1 r1 : Nat} (h1 : l1 ≤ r1) (h : r1 + g ≤ l1 + g') : g ≤ g' := Nat.le_of_add_le_add_left (Nat.le_trans (Nat.add_le_add_right h1 g) h)
theorem far2 {g g' l1 r1 l2 r2 : Nat} (h1 : l1 ≤ r1) (h2 : l2 ≤ r2) (h : r1 + r2 + g ≤ l1 + l2 + g') : g ≤ g' := far1 h2 (far1 h1 ((Nat.add_assoc _ _ _ ▸ Nat.add_assoc _ _ _ ▸ h)))
theorem far3 {g g' l1 r1 l2 r2 l3 r3 : Nat} (h1 : l1 ≤ r1) (h2 : l2 ≤ r2) (h3 : l3 ≤ r3) (h : r1 + r2 + r3 + g ≤ l1 + l2 + l3 + g') : g ≤ g' := far1 h3 (far2 h1 h2 ((Nat.add_assoc _ _ _ ▸ Nat.add_assoc _ _ _ ▸ h)))
theorem ub_end {a A b : Nat} (h : a ≤ A) (k : Nat.ble A b = true) : a ≤ b := Nat.le_trans h (Nat.le_of_ble_eq_true k)
theorem ub_lt {a A b : Nat} (h : a ≤ A) (k : Nat.ble (A + 1) b = true) : a < b := Nat.lt_of_le_of_lt h (Nat.le_of_ble_eq_true k)
theorem bd_lit (n : Nat) : @OfNat.ofNat Nat n (instOfNatNat n) ≤ @OfNat.ofNat Nat n (instOfNatNat n) := Nat.le_refl _
theorem bd_h {a n : Nat} (h : a ≤ @OfNat.ofNat Nat n (instOfNatNat n)) : a ≤ @OfNat.ofNat Nat n (instOfNatNat n) := h
theorem bd_hl {a n : Nat} (h : a < @OfNat.ofNat Nat n (instOfNatNat n)) : a ≤ @OfNat.ofNat Nat n (instOfNatNat n) - 1 := Nat.le_sub_one_of_lt h
theorem bd_he {a n : Nat} (h : a = @OfNat.ofNat Nat n (instOfNatNat n)) : a ≤ @OfNat.ofNat Nat n (instOfNatNat n) := Nat.le_of_eq h
theorem bd_hs {a n : Nat} (h : a + 1 ≤ @OfNat.ofNat Nat n (instOfNatNat n)) : a ≤ @OfNat.ofNat Nat n (instOfNatNat n) - 1 := Nat.le_sub_one_of_lt h
theorem bd_ha {a k n : Nat} (h : a + k ≤ @OfNat.ofNat Nat n (instOfNatNat n)) : a ≤ @OfNat.ofNat Nat n (instOfNatNat n) := Nat.le_trans (Nat.le_add_right _ _) h
theorem bd_te {a b B : Nat} (h : a = b) (k : b ≤ B) : a ≤ B := h ▸ k
theorem bd_min {a b B : Nat} (k : b ≤ B) : min a b ≤ B := Nat.le_trans (Nat.min_le_right _ _) k
theorem bd_sub {a b B : Nat} (k : a ≤ B) : a - b ≤ B := Nat.le_trans (Nat.sub_le _ _) k
theorem bx_base (x : Nat) : x ≤ x + 0 := Nat.le_refl _
theorem bx_add {s x e t f : Nat} (h : s ≤ x + e) (k : t ≤ f) : s + t ≤ x + (e + f) := by rw [← Nat.add_assoc]; exact Nat.add_le_add h k
theorem rm_end {s x e a R : Nat} (h : s ≤ x + e) (k : x + a < R) (l : Nat.ble e a = true) : s < R := Nat.lt_of_le_of_lt (Nat.le_trans h (Nat.add_le_add_left (Nat.le_of_ble_eq_true l) x)) k
theorem ub_one {k : Nat} : k ≤ k + 1 := Nat.le_add_right _ _
theorem ne_p1 {p q : Nat} {B : Prop} (h : p < q ∧ B) : q ≠ p := Nat.ne_of_gt h.1
theorem ne_p2 {p q : Nat} {A B : Prop} (h : A ∧ p < q ∧ B) : q ≠ p := Nat.ne_of_gt h.2.1
theorem ne_p3 {p q : Nat} {A1 A B : Prop} (h : A1 ∧ A ∧ p < q ∧ B) : q ≠ p := Nat.ne_of_gt h.2.2.1
theorem ne_p4 {p q : Nat} {A2 A1 A B : Prop} (h : A2 ∧ A1 ∧ A ∧ p < q ∧ B) : q ≠ p := Nat.ne_of_gt h.2.2.2.1
theorem ne_p5 {p q : Nat} {A3 A2 A1 A B : Prop} (h : A3 ∧ A2 ∧ A1 ∧ A ∧ p < q ∧ B) : q ≠ p := Nat.ne_of_gt h.2.2.2.2.1
theorem ilt_h {a n m : Int} (h : a < n) (k : n ≤ m) : a < m := Int.lt_of_lt_of_le h k
theorem rm_0 {x a R : Nat} (k : x + a < R) : x < R := Nat.lt_of_le_of_lt (Nat.le_add_right _ _) k
theorem rm_1 {x e a R : Nat} (k : x + a < R) (l : Nat.ble e a = true) : x + e < R := Nat.lt_of_le_of_lt (Nat.add_le_add_left (Nat.le_of_ble_eq_true l) x) k
theorem rm_2 {x e f a R : Nat} (k : x + a < R) (l : Nat.ble (e + f) a = true) : x + e + f < R := by rw [Nat.add_assoc]; exact rm_1 k l
theorem rm_d {x d D a b j R : Nat} (h : x + (D + a) < R) (hd : d + 1 ≤ D) (l : Nat.ble (j + b) (a + 1) = true) : x + j + (d + b) < R := by
  have l := Nat.le_of_ble_eq_true l
  exact Nat.lt_of_succ_le (far3 l (Nat.succ_le_of_lt h) hd (by simp +arith only))
theorem un_d {x d D a b j c R : Nat} (h : x + c * (D + a) < R) (hd : d + 1 ≤ D) (l : Nat.ble (j + c * b) (c * a + c) = true) : x + j + c * (d + b) < R := by
  have l := Nat.le_of_ble_eq_true l
  have e : c * (d + 1) ≤ c * D := Nat.mul_le_mul_left c hd
  rw [Nat.mul_add] at h ⊢
  rw [Nat.mul_add, Nat.mul_one] at e
  exact Nat.lt_of_succ_le (far3 (Nat.succ_le_of_lt h) l e (by simp +arith only))
theorem rm_3 {x e a A R : Nat} (k : x + a < R) (b : A ≤ a) (l : Nat.ble e A = true) : x + e < R := Nat.lt_of_le_of_lt (Nat.add_le_add_left (Nat.le_trans (Nat.le_of_ble_eq_true l) b) x) k
theorem rm_4 {x e f a A R : Nat} (k : x + a < R) (b : A ≤ a) (l : Nat.ble (e + f) A = true) : x + e + f < R := by rw [Nat.add_assoc]; exact rm_3 k b l
theorem rm_f {x a c f b j R : Nat} (k : x + (a + c * (f + 1)) < R) (l : Nat.ble (j + b) (a + c) = true) : x + j + (b + c * f) < R := by
  have l := Nat.le_of_ble_eq_true l
  rw [Nat.mul_add, Nat.mul_one] at k
  k_extra "c91"
theorem un_s {x c d a b j R : Nat} (k : x + c * (d + 1 + a) < R) (l : Nat.ble (j + c * b) (c * (1 + a)) = true) : x + j + c * (d + b) < R := by
  have l := Nat.le_of_ble_eq_true l
  rw [Nat.add_assoc d, Nat.mul_add] at k
  rw [Nat.mul_add]
  k_extra "c91"
theorem rm_s {x d a b j R : Nat} (k : x + (d + 1 + a) < R) (l : Nat.ble (j + b) (a + 1) = true) : x + j + (d + b) < R := by
  have l := Nat.le_of_ble_eq_true l
  k_extra "c91"
theorem rl_2 {x a b e M : Nat} (k : x + a + b ≤ M) (l : Nat.ble e b = true) : x + e ≤ M := by
  have l := Nat.le_of_ble_eq_true l
  exact far2 l k (by simp +arith only)
theorem bd_hb {a k n : Nat} (h : k + a ≤ @OfNat.ofNat Nat n (instOfNatNat n)) : a ≤ @OfNat.ofNat Nat n (instOfNatNat n) := Nat.le_trans (Nat.le_add_left _ _) h
theorem int2_or {v : Int} (a : 0 ≤ v) (b : v < 2) : v = 0 ∨ v = 1 := if h : v ≤ 0 then Or.inl (Int.le_antisymm h a) else Or.inr (Int.le_antisymm (Int.le_of_lt_add_one b) (Int.not_le.mp h))
theorem int3_or {v : Int} (a : 0 ≤ v) (b : v < 3) : v = 0 ∨ v = 1 ∨ v = 2 := if h : v < 2 then (int2_or a h).elim Or.inl (fun e => Or.inr (Or.inl e)) else Or.inr (Or.inr (Int.le_antisymm (Int.le_of_lt_add_one b) (Int.not_lt.mp h)))
theorem int3_no {v : Int} (a : 0 ≤ v) (b : v < 3) (h0 : v ≠ 0) (h1 : v ≠ 1) (h2 : v ≠ 2) : False := (int3_or a b).elim h0 (fun o => o.elim h1 h2)
end Mine
set_option linter.all false
namespace Mine
theorem far4 {g g' l1 r1 l2 r2 l3 r3 l4 r4 : Nat} (h1 : l1 ≤ r1) (h2 : l2 ≤ r2) (h3 : l3 ≤ r3) (h4 : l4 ≤ r4) (h : r1 + r2 + r3 + r4 + g ≤ l1 + l2 + l3 + l4 + g') : g ≤ g' := far1 h4 (far3 h1 h2 h3 ((Nat.add_assoc _ _ _ ▸ Nat.add_assoc _ _ _ ▸ h)))
theorem far5 {g g' l1 r1 l2 r2 l3 r3 l4 r4 l5 r5 : Nat} (h1 : l1 ≤ r1) (h2 : l2 ≤ r2) (h3 : l3 ≤ r3) (h4 : l4 ≤ r4) (h5 : l5 ≤ r5) (h : r1 + r2 + r3 + r4 + r5 + g ≤ l1 + l2 + l3 + l4 + l5 + g') : g ≤ g' := far1 h5 (far4 h1 h2 h3 h4 ((Nat.add_assoc _ _ _ ▸ Nat.add_assoc _ _ _ ▸ h)))
theorem far6 {g g' l1 r1 l2 r2 l3 r3 l4 r4 l5 r5 l6 r6 : Nat} (h1 : l1 ≤ r1) (h2 : l2 ≤ r2) (h3 : l3 ≤ r3) (h4 : l4 ≤ r4) (h5 : l5 ≤ r5) (h6 : l6 ≤ r6) (h : r1 + r2 + r3 + r4 + r5 + r6 + g ≤ l1 + l2 + l3 + l4 + l5 + l6 + g') : g ≤ g' := far1 h6 (far5 h1 h2 h3 h4 h5 ((Nat.add_assoc _ _ _ ▸ Nat.add_assoc _ _ _ ▸ h)))
theorem far7 {g g' l1 r1 l2 r2 l3 r3 l4 r4 l5 r5 l6 r6 l7 r7 : Nat} (h1 : l1 ≤ r1) (h2 : l2 ≤ r2) (h3 : l3 ≤ r3) (h4 : l4 ≤ r4) (h5 : l5 ≤ r5) (h6 : l6 ≤ r6) (h7 : l7 ≤ r7) (h : r1 + r2 + r3 + r4 + r5 + r6 + r7 + g ≤ l1 + l2 + l3 + l4 + l5 + l6 + l7 + g') : g ≤ g' := far1 h7 (far6 h1 h2 h3 h4 h5 h6 ((Nat.add_assoc _ _ _ ▸ Nat.add_assoc _ _ _ ▸ h)))
theorem far8 {g g' l1 r1 l2 r2 l3 r3 l4 r4 l5 r5 l6 r6 l7 r7 l8 r8 : Nat} (h1 : l1 ≤ r1) (h2 : l2 ≤ r2) (h3 : l3 ≤ r3) (h4 : l4 ≤ r4) (h5 : l5 ≤ r5) (h6 : l6 ≤ r6) (h7 : l7 ≤ r7) (h8 : l8 ≤ r8) (h : r1 + r2 + r3 + r4 + r5 + r6 + r7 + r8 + g ≤ l1 + l2 + l3 + l4 + l5 + l6 + l7 + l8 + g') : g ≤ g' := far1 h8 (far7 h1 h2 h3 h4 h5 h6 h7 ((Nat.add_assoc _ _ _ ▸ Nat.add_assoc _ _ _ ▸ h)))
theorem far9 {g g' l1 r1 l2 r2 l3 r3 l4 r4 l5 r5 l6 r6 l7 r7 l8 r8 l9 r9 : Nat} (h1 : l1 ≤ r1) (h2 : l2 ≤ r2) (h3 : l3 ≤ r3) (h4 : l4 ≤ r4) (h5 : l5 ≤ r5) (h6 : l6 ≤ r6) (h7 : l7 ≤ r7) (h8 : l8 ≤ r8) (h9 : l9 ≤ r9) (h : r1 + r2 + r3 + r4 + r5 + r6 + r7 + r8 + r9 + g ≤ l1 + l2 + l3 + l4 + l5 + l6 + l7 + l8 + l9 + g') : g ≤ g' := far1 h9 (far8 h1 h2 h3 h4 h5 h6 h7 h8 ((Nat.add_assoc _ _ _ ▸ Nat.add_assoc _ _ _ ▸ h)))
theorem fk1 {a0 : Nat} (h0 : a0 < 100000) : 0 ≤ (↑a0 : Int) := (show ((0 : Nat) : Int) ≤ (((a0) : Nat) : Int) from Int.ofNat_le.mpr (far0  (by simp +arith only)))
theorem fk2 {a0 : Nat} {a1 : Nat} (h0 : (↑a0 : Int) < (↑a1 : Int)) : a0 < a1 := Nat.lt_of_succ_le (far1 (Nat.succ_le_of_lt (Int.ofNat_lt.mp (show (((a0) : Nat) : Int) < (((a1) : Nat) : Int) from h0))) (by simp +arith only))
theorem fk3 {a0 : Int} (h0 : 2 ≤ a0 ∧ a0 ≤ 6) : a0 ≠ 0 := by first | exact fun z => absurd (z ▸ h0.1) (by decide) | omega
theorem fk4 {a0 : Int} (h0 : 2 ≤ a0 ∧ a0 ≤ 6) : 0 < a0 := by first | exact Int.lt_of_lt_of_le (by decide) h0.1 | omega
theorem fk5 {a0 : Int} {a1 : Nat} {a2 : Int} (h1 : a0 < (↑a1 : Int)) (h0 : 0 ≤ a0) (h2 : a0 < a2) : a0.toNat < a1 := by first | exact (Int.toNat_lt h0).mpr h1 | omega
theorem fk6 {a0 : Nat} {a1 : Nat} (h0 : 0 + a0 = a1) : a0 = a1 := Nat.le_antisymm (far1 (Nat.le_of_eq h0) (by simp +arith only)) (far1 (Nat.le_of_eq h0.symm) (by simp +arith only))
theorem fk7 {a0 : Nat} {a1 : Nat} {a2 : Nat} (h0 : a0 + 1 + a1 = a2) : a1 < a2 := Nat.lt_of_succ_le (far1 (Nat.le_of_eq h0) (by simp +arith only))
theorem fk8 {a0 : Nat} {a1 : Nat} {a2 : Nat} (h0 : a0 + 1 + a1 = a2) : a0 + (a1 + 1) = a2 := Nat.le_antisymm (far1 (Nat.le_of_eq h0) (by simp +arith only)) (far1 (Nat.le_of_eq h0.symm) (by simp +arith only))
theorem fk9 {a0 : Nat} {a1 : Nat} (h0 : a0 ≤ a1) (h1 : a0 < a1) : a1 - a0 = a1 - a0 - 1 + 1 := by first | exact (Nat.sub_add_cancel (Nat.sub_pos_of_lt h1)).symm | omega
theorem fk10 {a0 : Nat} {a1 : Nat} (h0 : a0 ≤ a1) (h1 : a0 < a1) : a1 + 1 - (a0 + 1) < a1 + 1 - a0 := by first | exact Nat.sub_lt_sub_left (Nat.lt_succ_of_le h0) (Nat.lt_succ_self a0) | omega
theorem fk11 {a0 : Nat} {a1 : Nat} {a2 : Nat} {a3 : Nat} {a4 : Nat} (h0 : a0 + a1 ≤ a2) (h1 : a3 < a1) (h2 : a4 ≤ a3) : a0 + a4 ≤ a2 := (far3 h0 h2 (Nat.succ_le_of_lt h1) (by simp +arith only))
theorem fk12 {a0 : Nat} {a1 : Nat} {a2 : Nat} (h0 : a0 ≤ a1) (h1 : a0 < a1) (h2 : a1 - a0 = a2 + 1) : a1 + 1 - (a0 + 1) < a1 + 1 - a0 := by first | exact Nat.sub_lt_sub_left (Nat.lt_succ_of_le h0) (Nat.lt_succ_self a0) | omega
theorem fk13 {a0 : Nat} {a1 : Nat} {a2 : Nat} (h2 : a1 - a0 = a2 + 1) (h0 : a0 ≤ a1) (h1 : a0 < a1) : a1 - (a0 + 1) = a2 := by first | (rw [Nat.sub_add_eq, h2]; rfl) | omega
theorem fk14 {a0 : Nat} (h0 : 2 ≤ a0) : 2 ≤ 2 * a0 := (far1 h0 (by simp +arith only))
theorem fk15 {a0 : PySem.Addr} {a1 : PySem.Addr} (h0 : a0 < a1) : a0 ≠ a1 + 1 + 1 := fun hz => Nat.not_succ_le_zero 0 (far2 (g := 0 + 1) (Nat.succ_le_of_lt h0) (Nat.le_of_eq hz.symm) (by simp +arith only))
theorem fk16 {a0 : Nat} {a1 : Nat} {a2 : Nat} {a3 : Nat} (h2 : a2 + 1 ≤ a3 + 1 + a1) (h0 : a0 = 2 * a1) (h1 : 2 ≤ a1) : a2 + 1 ≤ a3 + a0 := (far3 h2 (Nat.le_of_eq h0.symm) h1 (by simp +arith only))
theorem fk17 {a0 : Nat} {a1 : Nat} {a2 : Nat} {a3 : Nat} {a4 : Nat} (h0 : a0 = 2 * a1) (h1 : a2 + 1 ≤ a3 + 1 + a1) (h2 : a4 + 1 ≤ a2 + a1) : a4 + 1 ≤ a3 + a0 := (far3 h2 (Nat.le_of_eq h0.symm) h1 (by simp +arith only))
theorem fk18 {a0 : PySem.Addr} {a1 : PySem.Addr} (h0 : a0 < a1) : a0 ≠ a1 + 1 := fun hz => Nat.not_succ_le_zero 0 (far2 (g := 0 + 1) (Nat.succ_le_of_lt h0) (Nat.le_of_eq hz.symm) (by simp +arith only))
theorem fk19 {a0 : Nat} {a1 : Nat} {a2 : Nat} (h0 : a0 = 2 * a1) (h1 : 2 ≤ a1) : a2 + 2 + 1 ≤ a2 + a0 := (far2 (Nat.mul_le_mul_left 2 h1) (Nat.le_of_eq h0.symm) (by simp +arith only))
theorem fk20 {a0 : Nat} {a1 : Nat} {a2 : Nat} {a3 : Nat} (h2 : a3 + 1 ≤ a2 + 1 + a1) (h0 : a0 = 2 * a1) (h1 : a2 + a0 ≤ 50000) : a3 + a1 ≤ 50000 := (far3 (Nat.le_of_eq h0.symm) h1 h2 (by simp +arith only))
theorem fk21 {a0 : Nat} (h0 : a0 + 1 ≤ 2) : 0 < (↑(a0 + 1) : Int) := (show ((0 : Nat) : Int) < (((a0 + 1) : Nat) : Int) from Int.ofNat_lt.mpr (far0  (by simp +arith only)))
theorem fk22 {a0 : Int} (h0 : a0 = 2) (h1 : a0 < 2) : False := by first | exact int3_no h0 h1 h2 h3 h4 | exact absurd h1 (by rw [h0]; decide) | omega
theorem fk23 {a0 : PySem.Addr} {a1 : PySem.Addr} {p2 : Prop} (h0 : a0 < a1 ∧ p2) : a1 + 1 + 1 ≠ a0 := fun hz => Nat.not_succ_le_zero 0 (far2 (g := 0 + 1) (Nat.succ_le_of_lt h0.1) (Nat.le_of_eq hz) (by simp +arith only))
theorem fk24 {a0 : PySem.Addr} {a1 : PySem.Addr} {p2 : Prop} (h0 : a0 < a1 ∧ p2) : a1 + 1 ≠ a0 := fun hz => Nat.not_succ_le_zero 0 (far2 (g := 0 + 1) (Nat.succ_le_of_lt h0.1) (Nat.le_of_eq hz) (by simp +arith only))
theorem fk25 {a0 : Int} {a1 : Int} (h0 : a0 = a1) (h1 : 0 ≤ a1) (h2 : a1 < 4) (h3 : a1 < 2) : a0 < 2 := by first | exact h0 ▸ h3 | omega
theorem fk26 {a0 : Nat} : (↑(a0 + 1) : Int) - 1 = (↑a0 : Int) := by first | exact show ((a0 : Int) + 1) - 1 = a0 from Int.add_sub_cancel _ _ | omega
theorem fk27 {a0 : Int} (h0 : a0 = 3) (h1 : a0 < 2) : False := by first | exact int3_no h0 h1 h2 h3 h4 | exact absurd h1 (by rw [h0]; decide) | omega
theorem fk28 {a0 : Int} (h0 : ¬a0 < 2) (h1 : a0 < 4) : a0 = 2 ∨ a0 = 3 := by first | exact if h : a0 < 3 then Or.inl (Int.le_antisymm (Int.le_of_lt_add_one h) (Int.not_lt.mp h0)) else Or.inr (Int.le_antisymm (Int.le_of_lt_add_one h1) (Int.not_lt.mp h)) | omega
theorem fk29 {a0 : Nat} {a1 : Nat} {a2 : Nat} (h1 : 2 ≤ a1) (h0 : a0 = 2 * a1) (h2 : a2 + a0 ≤ 50000) : a2 + 1 + a1 ≤ 50000 := (far3 h2 (Nat.le_of_eq h0.symm) h1 (by simp +arith only))
theorem fk30 {a0 : Nat} {a1 : Nat} {a2 : Nat} (h0 : a0 ≤ a1 + a2) : a0 ≤ a1 + max 10 (2 * a2 + 2) := (far2 h0 (Nat.le_max_right (10) (2 * a2 + 2)) (by simp +arith only))
theorem fk31 {a0 : Nat} {a1 : Nat} : a0 + 1 ≤ a0 + max 10 (2 * a1 + 2) := (far1 (Nat.le_max_left (10) (2 * a1 + 2)) (by simp +arith only))
theorem fk32 {a0 : Nat} {a1 : Nat} {a2 : Nat} {a3 : Nat} (h0 : a0 ≤ a1 + a2) (h1 : a3 ≤ a0 + a2) : a3 ≤ a1 + max 10 (2 * a2 + 2) := (far3 h1 h0 (Nat.le_max_right (10) (2 * a2 + 2)) (by simp +arith only))
theorem fk33 {a0 : Nat} {a1 : Nat} {a2 : Nat} (h0 : a0 ≤ a1 + 1 + max 10 (2 * a2 + 2)) (h1 : 12 ≤ a2) : a0 ≤ a1 + (2 * a2 + 4) := by first | (rw [Nat.max_eq_right (Nat.le_trans (by decide : 10 ≤ 24 + 2) (Nat.add_le_add_right (Nat.mul_le_mul_left 2 h1) 2))] at h0; exact far1 h0 (by simp +arith only)) | omega
theorem fk34 {a0 : Nat} {a1 : Nat} (h0 : a0 ≤ a1 + 1 + max 10 (2 * 0 + 2)) : a0 ≤ a1 + 12 := by first | exact far1 (show a0 ≤ a1 + 1 + 10 from h0) (by simp +arith only) | omega
theorem fk35 {a0 : Nat} {a1 : Nat} {a2 : Nat} (h0 : a0 ≤ a1 + 2 + a2) : a0 ≤ a1 + max 10 (2 * a2 + 2) := (far2 h0 (Nat.le_max_right (10) (2 * a2 + 2)) (by simp +arith only))
theorem fk36 {a0 : Nat} {a1 : Nat} {a2 : Nat} {a3 : Nat} (h0 : a0 ≤ a1 + 2 + a2) (h1 : a3 ≤ a0 + a2) : a3 ≤ a1 + max 10 (2 * a2 + 2) := (far3 h1 (Nat.le_max_right (10) (2 * a2 + 2)) h0 (by simp +arith only))
theorem fk37 {a0 : Int} {a1 : Nat} (h0 : ¬a0.toNat ≤ a1) : a1 ≤ a0.toNat := (far1 (Nat.succ_le_of_lt (Nat.lt_of_not_le h0)) (by simp +arith only))
theorem fk38 {a0 : Nat} (h0 : 12 ≤ a0) : 12 ≤ 2 * a0 + 4 := (far1 h0 (by simp +arith only))
theorem fk39 {a0 : Nat} {a1 : Nat} {a2 : Nat} {a3 : Nat} (h0 : a0 + 1 ≤ a1 + a2) (h1 : a2 = 8) : a0 ≤ a1 + max 10 (2 * a3 + 2) := (far3 h0 (Nat.le_of_eq h1) (Nat.le_max_left (10) (2 * a3 + 2)) (by simp +arith only))
theorem fk40 {a0 : Nat} {a1 : Nat} {a2 : Nat} {a3 : Nat} {a4 : Nat} (h0 : a0 + 1 ≤ a1 + a2) (h1 : a3 + 1 ≤ a0 + a2) (h2 : a2 = 4) : a3 + 2 ≤ a1 + max 10 (2 * a4 + 2) := (far5 h1 (Nat.le_of_eq h2) h0 (Nat.le_of_eq h2) (Nat.le_max_left (10) (2 * a4 + 2)) (by simp +arith only))
theorem fk41 {a0 : Nat} {a1 : Nat} : a0 + 2 ≤ a0 + max 10 (2 * a1 + 2) := (far1 (Nat.le_max_left (10) (2 * a1 + 2)) (by simp +arith only))
theorem fk42 {a0 : Nat} {a1 : Nat} (h0 : a0 < a1 + 1) (h1 : a0 ≥ a1) : a0 = a1 := by first | exact Nat.le_antisymm (Nat.le_of_lt_succ h0) h1 | omega
theorem fk43 {a0 : Nat} {a1 : Nat} (h0 : a0 ≤ a1) : a0 ≤ a1 + 1 := (far1 h0 (by simp +arith only))
theorem fk44 {a0 : Nat} {a1 : Nat} (h0 : a0 < a1) : a0 < a1 + 1 := Nat.lt_of_succ_le (far1 (Nat.succ_le_of_lt h0) (by simp +arith only))
theorem fk45 {a0 : Nat} {a1 : Nat} {a2 : Nat} (h0 : a0 + (a1 + 1) ≤ a2) : a0 + a1 ≤ a2 := (far1 h0 (by simp +arith only))
theorem fk46 {a0 : Nat} {a1 : Nat} {a2 : Nat} (h0 : a0 = a1) (h1 : a2 < a1) : a2 < a0 := Nat.lt_of_succ_le (far2 (Nat.succ_le_of_lt h1) (Nat.le_of_eq h0.symm) (by simp +arith only))
theorem fk47 {a0 : Nat} {a1 : Nat} (h0 : a0 < a1) : ¬a1 - a0 = 0 := by first | exact Nat.sub_ne_zero_of_lt h0 | omega
theorem fk48 {a0 : Nat} {a1 : Nat} {p2 : Prop} (h0 : a0 - a1 ≠ 0) (h1 : a0 - a1 = 0) : p2 := by first | exact absurd h1 h0 | omega
theorem fk49 {a0 : Nat} {a1 : Nat} {p2 : Prop} {a3 : Nat} {p4 : Prop} (h0 : a0 ≤ a1) (h2 : a3 ≤ a1) (h3 : a0 < a3) (h1 : p2) (h4 : p4) : a0 < a1 := Nat.lt_of_succ_le (far2 (Nat.succ_le_of_lt h3) h2 (by simp +arith only))
theorem fk50 {a0 : Nat} {a1 : Nat} (h0 : a0 = a1) : a0 ≤ a1 := (far1 (Nat.le_of_eq h0) (by simp +arith only))
theorem fk51 {a0 : Nat} {a1 : Nat} (h0 : a0 < a1) : a0 ≤ a1 := (far1 (Nat.succ_le_of_lt h0) (by simp +arith only))
theorem fk52 {a0 : Nat} {a1 : Nat} {a2 : Nat} {p3 : Prop} (h0 : ¬a0 < a1) (h1 : a2 ≤ a1) (h2 : a0 < a2) : p3 := by first | exact absurd (Nat.lt_of_lt_of_le h2 h1) h0 | omega
theorem fk53 {a0 : Nat} {a1 : Nat} {a2 : Nat} {p3 : Prop} {p4 : Prop} (h1 : a2 ≤ a1) (h0 : a0 ≤ a1) (h3 : a2 < a0) (h2 : p3) (h4 : p4) : a2 < a1 := Nat.lt_of_succ_le (far2 (Nat.succ_le_of_lt h3) h0 (by simp +arith only))
theorem fk54 {a0 : Nat} {a1 : Nat} {a2 : Nat} {a3 : Nat} (h1 : a2 + a1 ≤ a3) (h0 : a0 < a1) : a2 + 1 + a0 ≤ a3 := (far2 h1 (Nat.succ_le_of_lt h0) (by simp +arith only))
theorem fk55 {a0 : Nat} {a1 : Nat} {a2 : Nat} (h0 : a0 + (a1 + 1) ≤ a2) : a0 + 1 + a1 ≤ a2 := (far1 h0 (by simp +arith only))
theorem fk56 {a0 : Nat} {a1 : Nat} {a2 : Nat} (h0 : max a0 a1 + 1 < a2 + 1) : a0 < a2 := Nat.lt_of_succ_le (far2 (Nat.le_max_left (a0) (a1)) (Nat.succ_le_of_lt h0) (by simp +arith only))
theorem fk57 {a0 : Nat} {a1 : Nat} {a2 : Nat} (h0 : max (max a0 a1 + 1) a2 + 1 ≤ 5) : max a0 a1 + 1 ≤ 5 := (far2 (Nat.le_max_left (max a0 a1 + 1) (a2)) h0 (by simp +arith only))
theorem fk58 {a0 : Nat} {a1 : Nat} {a2 : Nat} (h0 : max a0 a1 + 1 < a2 + 1) : a1 < a2 := Nat.lt_of_succ_le (far2 (Nat.le_max_right (a0) (a1)) (Nat.succ_le_of_lt h0) (by simp +arith only))
theorem fk59 {a0 : Nat} {a1 : Nat} (h0 : a0 + 1 < a1 + 1) : a0 < a1 := Nat.lt_of_succ_le (far1 (Nat.succ_le_of_lt h0) (by simp +arith only))
theorem fk60 {a0 : Nat} {a1 : Nat} {a2 : Nat} (h1 : a1 ≤ a2 - 1) (h2 : a2 ≤ a0) (h0 : a0 ≤ 5) : 5 - a1 + 1 + a1 = 6 := by first | (rw [Nat.add_right_comm, Nat.sub_add_cancel (Nat.le_trans h1 (Nat.le_trans (Nat.sub_le _ _) (Nat.le_trans h2 h0)))]) | omega
theorem fk61 {a0 : Nat} {a1 : Nat} (h0 : a0 < a1 + 1) : a0 ≤ a1 := (far1 (Nat.succ_le_of_lt h0) (by simp +arith only))
theorem fk62 {a0 : Nat} {a1 : Nat} {a2 : Nat} (h0 : max a0 a1 + 1 ≤ a2) : a0 < a2 := Nat.lt_of_succ_le (far2 (Nat.le_max_left (a0) (a1)) h0 (by simp +arith only))
theorem fk63 {a0 : Nat} {a1 : Nat} {a2 : Nat} {a3 : Nat} (h0 : max (max a0 a1 + 1) a2 + 1 ≤ a3) : max a0 a1 + 1 ≤ a3 := (far2 (Nat.le_max_left (max a0 a1 + 1) (a2)) h0 (by simp +arith only))
theorem fk64 {a0 : Nat} {a1 : Nat} {a2 : Nat} (h0 : max (max a0 a1 + 1) a2 + 1 ≤ 5) : a2 ≤ 5 := (far2 (Nat.le_max_right (max a0 a1 + 1) (a2)) h0 (by simp +arith only))
theorem fk65 {a0 : Nat} {a1 : Nat} {a2 : Nat} {a3 : Nat} (h0 : max (max a0 a1 + 1) a2 + 1 ≤ a3) : a2 < a3 := Nat.lt_of_succ_le (far2 (Nat.le_max_right (max a0 a1 + 1) (a2)) h0 (by simp +arith only))
theorem fk66 {a0 : Nat} {a1 : Nat} {a2 : Nat} (h0 : a0 ≤ a1) : a0 + 1 ≤ max a1 a2 + 1 := (far2 h0 (Nat.le_max_left (a1) (a2)) (by simp +arith only))
theorem fk67 {a0 : Nat} {a1 : Nat} (h0 : max a0 a1 + 1 ≤ 5) : a1 ≤ 5 := (far2 (Nat.le_max_right (a0) (a1)) h0 (by simp +arith only))
theorem fk68 {a0 : Nat} {a1 : Nat} {a2 : Nat} (h0 : max a0 a1 + 1 ≤ a2) : a1 < a2 := Nat.lt_of_succ_le (far2 (Nat.le_max_right (a0) (a1)) h0 (by simp +arith only))
theorem fk69 {a0 : Nat} {a1 : Nat} (h0 : a0 ≤ a1 + 1 - 1) : a0 + 1 ≤ a1 + 1 + 1 - 1 := by first | exact Nat.succ_le_succ h0 | omega
theorem fk70 {a0 : Nat} {a1 : Nat} (h0 : max a0 a1 + 1 ≤ 5) : a0 ≤ 5 := (far2 (Nat.le_max_left (a0) (a1)) h0 (by simp +arith only))
theorem fk71 {a0 : Nat} (h0 : a0 + (0 + 1) + 1 + 1 ≤ 1000) : a0 ≤ 1000 := (far1 h0 (by simp +arith only))
theorem fk72 {a0 : Nat} {a1 : Nat} (h0 : a0 + (a1 + (0 + 1)) + 1 + 1 ≤ 1000) : a0 + a1 ≤ 1000 := (far1 h0 (by simp +arith only))
theorem fk73 {a0 : Nat} {a1 : Nat} {a2 : Nat} (h0 : max a0 a1 + 1 + 2 ≤ a2 + 2) : a0 < a2 + 1 := Nat.lt_of_succ_le (far2 (Nat.le_max_left (a0) (a1)) h0 (by simp +arith only))
theorem fk74 {a0 : Nat} {a1 : Nat} (h0 : a0 + 2 ≤ a1) : a1 = a1 - 2 + 2 := by first | exact (Nat.sub_add_cancel (Nat.le_trans (Nat.le_add_left 2 a0) h0)).symm | omega
theorem fk75 {a0 : Nat} {a1 : Nat} (h0 : a0 + 2 ≤ a1 + 2) : a0 ≤ a1 + 1 := (far1 h0 (by simp +arith only))
theorem fk76 {a0 : Nat} {a1 : Nat} (h0 : max a0 a1 + 1 ≤ 4) : a1 ≤ 5 := (far2 (Nat.le_max_right (a0) (a1)) h0 (by simp +arith only))
theorem fk77 {a0 : Nat} {a1 : Nat} (h0 : max a0 a1 + 1 ≤ 4) : a0 ≤ 5 := (far2 (Nat.le_max_left (a0) (a1)) h0 (by simp +arith only))
theorem fk78 {a0 : Nat} {a1 : Nat} (h0 : a0 + 1 + 2 ≤ a1 + 2) : a0 < a1 + 1 := Nat.lt_of_succ_le (far1 h0 (by simp +arith only))
theorem fk79 {a0 : Nat} {a1 : Nat} {a2 : Nat} (h0 : max a0 a1 + 1 + 2 ≤ a2 + 2) : a1 < a2 + 1 := Nat.lt_of_succ_le (far2 (Nat.le_max_right (a0) (a1)) h0 (by simp +arith only))
theorem fk80 {a0 : Nat} {a1 : Nat} {a2 : Nat} {a3 : Nat} (h0 : a0 ≤ a1) (h1 : a2 ≤ a3) : a0 + a2 ≤ a1 + (a3 + 0) := (far2 h1 h0 (by simp +arith only))
theorem fk81 {a0 : Nat} {a1 : Nat} {a2 : Nat} {a3 : Nat} (h0 : a0 + 0 ≤ a1) (h1 : a2 + 0 ≤ a3) : a0 + a2 + 3 ≤ 3 + a1 + a3 := (far2 h0 h1 (by simp +arith only))
theorem fk82 {a0 : Nat} {a1 : Nat} {a2 : Nat} {a3 : Nat} (h0 : a0 + 0 ≤ a1) (h1 : a2 + 0 ≤ a3) : a0 + (a2 + (0 + 1)) + 1 + 1 + 1 + 0 ≤ 4 + a1 + a3 := (far2 h0 h1 (by simp +arith only))
theorem fk83 {a0 : Nat} {a1 : Nat} (h0 : a0 + 0 ≤ a1) : a0 + (0 + 1) + 1 + 1 + 0 ≤ 3 + a1 := (far1 h0 (by simp +arith only))
theorem fk84 {a0 : Nat} {a1 : Nat} {a2 : Nat} (h0 : a0 + a1 ≤ a2) : a0 ≤ a2 := (far1 h0 (by simp +arith only))
theorem fk85 {a0 : Nat} {a1 : Nat} {a2 : Nat} {a3 : Nat} (h0 : a0 + 3 ≤ a1) (h1 : a2 + 0 ≤ a3) : a0 + a2 + 3 ≤ 3 + a1 + a3 := (far2 h1 h0 (by simp +arith only))
theorem fk86 {a0 : Nat} {a1 : Nat} {a2 : Nat} (h0 : a0 ≤ a1) : a0 + 1 ≤ a2 + a1 + 1 := (far1 h0 (by simp +arith only))
theorem fk87 {a0 : Nat} {a1 : Nat} {a2 : Nat} {a3 : Nat} {a4 : Nat} (h0 : a0 ≤ a1 + a2) (h1 : a3 ≤ a0 + a4) : a3 ≤ a1 + (a2 + (a4 + 0)) := (far2 h1 h0 (by simp +arith only))
theorem fk88 {a0 : Nat} {a1 : Nat} {a2 : Nat} {a3 : Nat} {a4 : Nat} (h1 : a2 ≤ a0 + a3) (h2 : a3 + a4 ≤ a1) (h0 : a0 + a1 ≤ 45000) : a2 + a4 ≤ 45000 := (far3 h1 h2 h0 (by simp +arith only))
theorem fk89 {a0 : Nat} {a1 : Nat} {a2 : Nat} {a3 : Nat} (h1 : a1 + (a3 + 0) ≤ 45000) (h0 : a0 ≤ a1 + a2) (h2 : a2 + a3 ≤ a3 + 0) : a0 + a3 ≤ 45000 := (far3 h1 h0 h2 (by simp +arith only))
theorem fk90 {a0 : Nat} {a1 : Nat} {a2 : Nat} {a3 : Nat} {a4 : Nat} {a5 : Nat} (h2 : a2 ≤ a1) (h1 : a1 ≤ a0) (h0 : a0 ≤ 900) (h3 : a3 ≤ a1) (h4 : a4 = a5) (h5 : a5 ≤ a3) : a2 + a4 ≤ 1000000 := (far6 h2 (Nat.le_of_eq h4) h5 h3 (Nat.mul_le_mul_left 2 h1) (Nat.mul_le_mul_left 2 h0) (by simp +arith only))
theorem fk91 {a0 : Nat} {a1 : Nat} {a2 : Nat} {a3 : Nat} {a4 : Nat} {a5 : Nat} {a6 : Nat} (h2 : a4 ≤ a2 + a5) (h3 : a5 + a6 ≤ a3) (h1 : a2 + a3 + 1 ≤ a0 + a1) (h0 : a0 + a1 ≤ 45000) : a4 + a6 ≤ 45000 := (far4 h3 h1 h0 h2 (by simp +arith only))
theorem fk92 {p0 : Prop} {p1 : Prop} {a2 : Nat} {a3 : Nat} {a4 : Nat} (h0 : (p0 ∧ p1) ∧ max a2 a3 + 1 + 1 ≤ a4) : a2 + 1 ≤ a4 := (far2 (Nat.le_max_left (a2) (a3)) h0.2 (by simp +arith only))
theorem fk93 {a0 : Nat} {a1 : Nat} {a2 : Nat} {a3 : Nat} {a4 : Nat} {a5 : Nat} {a6 : Nat} {a7 : Nat} (h3 : a5 ≤ a2 + 1 + a6) (h4 : a6 + a7 ≤ a3) (h2 : a3 = a4 + 1) (h1 : a2 + a3 + 1 ≤ a0 + a1) (h0 : a0 + a1 ≤ 45000) : a5 + a7 ≤ 45000 := (far4 h4 h3 h1 h0 (by simp +arith only))
theorem fk94 {p0 : Prop} {p1 : Prop} {a2 : Nat} {a3 : Nat} {a4 : Nat} (h0 : (p0 ∧ p1) ∧ max a2 a3 + 1 + 1 ≤ a4) : a3 + 1 ≤ a4 := (far2 (Nat.le_max_right (a2) (a3)) h0.2 (by simp +arith only))
theorem fk95 {a0 : Nat} {a1 : Nat} (h0 : a0 + (a1 + 1) ≤ 1000) : a0 + 1 + a1 ≤ 1000 := (far1 h0 (by simp +arith only))
theorem fk96 {a0 : Nat} {a1 : Nat} {a2 : Nat} {a3 : Nat} {a4 : Nat} {a5 : Nat} (h0 : a0 + a1 + 1 ≤ a2 + a3) (h2 : a5 ≤ a0 + 1 + a1) (h1 : a1 = a4 + 1) : a5 ≤ a2 + a3 := (far2 h2 h0 (by simp +arith only))
theorem fk97 {p0 : Prop} {a1 : Nat} {a2 : Nat} {p3 : Prop} {a4 : Nat} {a5 : Nat} (h2 : a5 ≤ a1) (h0 : (p0 ∧ a1 + 1 ≤ a2) ∧ p3 ∧ a4 + 1 ≤ a2) (h1 : a2 ≤ 900) : 0 + 1 + a5 ≤ 1000 := (far3 h2 h0.1.2 h1 (by simp +arith only))
theorem fk98 {a0 : Nat} {a1 : Nat} {a2 : Nat} {a3 : Nat} {a4 : Nat} (h1 : a2 + a3 + 1 ≤ a0 + a1) (h0 : a0 + a1 ≤ 45000) (h2 : a3 = a4 + 1) : a2 < 100000 := Nat.lt_of_succ_le (far2 h1 h0 (by simp +arith only))
theorem fk99 {a0 : Nat} {a1 : Nat} {a2 : Nat} {a3 : Nat} (h0 : 3 + a0 + a1 + a2 ≤ a3) : a0 + (a1 + a2) ≤ a3 := (far1 h0 (by simp +arith only))
theorem fk100 {a0 : Nat} {a1 : Nat} {a2 : Nat} {a3 : Nat} {a4 : Nat} (h0 : a0 + a1 + 1 ≤ a2 + a3) (h1 : a1 = a4 + 1) : a0 + 1 + a4 + 1 ≤ a2 + a3 := (far2 (Nat.le_of_eq h1.symm) h0 (by simp +arith only))
theorem fk101 {a0 : Nat} {a1 : Nat} {a2 : Nat} {a3 : Nat} {a4 : Nat} (h0 : a0 + a1 + 1 ≤ a2 + a3) (h1 : a1 = a4 + 1) : a0 + a4 + 1 ≤ a2 + a3 := (far2 h0 (Nat.le_of_eq h1.symm) (by simp +arith only))
theorem fk102 {a0 : Nat} {a1 : Nat} {a2 : Nat} {a3 : Nat} {a4 : Nat} (h0 : a0 + a1 + 1 ≤ a2 + a3) (h1 : a4 ≤ a0 + a1) : a4 ≤ a2 + a3 := (far2 h1 h0 (by simp +arith only))
theorem fk103 {a0 : Nat} {a1 : Nat} (h0 : 4 + a0 + a1 ≤ 900) : a0 + a1 ≤ 900 := (far1 h0 (by simp +arith only))
theorem fk104 {a0 : Nat} {a1 : Nat} {a2 : Nat} {a3 : Nat} (h1 : a2 ≤ a3 + a0) (h0 : a0 ≤ a1) : a2 ≤ a3 + a1 := (far2 h1 h0 (by simp +arith only))
theorem fk105 {a0 : Nat} {a1 : Nat} : a0 + 1 ≤ max a0 a1 + 1 := (far1 (Nat.le_max_left (a0) (a1)) (by simp +arith only))
theorem fk106 {a0 : Nat} {a1 : Nat} {a2 : Nat} (h0 : max a0 a1 + 1 ≤ a2 + 1) : a0 ≤ a2 := (far2 (Nat.le_max_left (a0) (a1)) h0 (by simp +arith only))
theorem fk107 {a0 : Nat} {a1 : Nat} : a0 + 1 ≤ max a1 a0 + 1 := (far1 (Nat.le_max_right (a1) (a0)) (by simp +arith only))
theorem fk108 {a0 : Nat} {a1 : Nat} {a2 : Nat} (h0 : max a0 a1 + 1 ≤ a2 + 1) : a1 ≤ a2 := (far2 (Nat.le_max_right (a0) (a1)) h0 (by simp +arith only))
theorem fk109 {a0 : Nat} {a1 : Nat} {a2 : Nat} {a3 : Nat} (h0 : max a0 a1 + 1 ≤ a2 + 1) (h1 : a3 + 1 ≤ max a0 a1 + 1) : a3 ≤ a2 := (far2 h1 h0 (by simp +arith only))
theorem fk110 {a0 : Nat} {a1 : Nat} {a2 : Nat} (h0 : a0 + (a1 + 1) ≤ a2) : a0 + a1 < a2 := Nat.lt_of_succ_le (far1 h0 (by simp +arith only))
theorem fk111 {a0 : Nat} {a1 : Nat} (h0 : a0 ≤ a1) : a1 = a0 + (a1 - a0) := by first | exact (Nat.add_sub_cancel' h0).symm | omega
theorem fk112 {a0 : Nat} {a1 : Nat} (h0 : a0 ≠ 0) : a1 < a1 + a0 := by first | exact Nat.lt_add_of_pos_right (Nat.pos_of_ne_zero h0) | omega
theorem fk113 {a0 : Nat} {a1 : Nat} (h0 : a0 ≤ a1) (h1 : ¬(↑a0 : Int) < (↑a1 : Int)) : Int.toNat 0 = a1 - a0 := by first | exact (Nat.sub_eq_zero_of_le (Int.ofNat_le.mp (Int.not_lt.mp h1))).symm | omega
theorem fk114 {a0 : Nat} {a1 : Nat} {a2 : Nat} (h1 : a1 < a0 + a2) (h0 : a0 ≤ a1) : a1 - a0 < a2 := by first | exact Nat.sub_lt_left_of_lt_add h0 h1 | omega
theorem fk115 {a0 : Nat} {a1 : Nat} {a2 : Nat} (h0 : a0 ≤ a1) (h2 : a1 - a0 = a2) (h1 : a1 ≤ a2) : a0 = 0 := by omega
theorem fk116 {a0 : Nat} {a1 : Nat} {a2 : Nat} (h0 : a0 + (a1 + 1) = a2) : a0 + 1 + a1 = a2 := Nat.le_antisymm (far1 (Nat.le_of_eq h0) (by simp +arith only)) (far1 (Nat.le_of_eq h0.symm) (by simp +arith only))
theorem fk117 {a0 : Nat} (h0 : 0 < a0) : a0 - 1 < a0 := by first | exact Nat.sub_lt h0 (Nat.lt_succ_self 0) | omega
theorem fk118 {a0 : Nat} (h0 : 1 ≤ a0) : -1 < (↑a0 : Int) := by omega
theorem fk119 {a0 : Nat} {a1 : Nat} (h1 : a1 ≤ 1000) (h2 : a1 < a0) (h0 : a0 ≤ 1000) : a1 + 1 ≤ 1000 := (far2 (Nat.succ_le_of_lt h2) h0 (by simp +arith only))
theorem fk120 {a0 : Nat} {a1 : Nat} {a2 : Nat} {a3 : Nat} (h0 : a0 ≤ 20 * a1) (h1 : a2 ≤ 10) (h2 : a3 ≤ 1) : a0 + a3 + a2 ≤ 20 * (a1 + 1) := (far3 h1 h2 h0 (by simp +arith only))
theorem fk121 {a0 : Nat} (h0 : 0 < (↑a0 : Int)) : 0 ≤ (↑a0 : Int) - 1 := by first | exact Int.sub_nonneg_of_le h0 | omega
theorem fk122 {a0 : Nat} {a1 : Nat} (h0 : a0 < a1) : (↑a0 : Int) - 1 < (↑a1 : Int) := by omega
theorem fk123 {a0 : Nat} (h0 : ¬0 < (↑a0 : Int)) : a0 = 0 := Nat.le_antisymm (far1 (Int.ofNat_le.mp (show (((a0) : Nat) : Int) ≤ ((0 : Nat) : Int) from Int.not_lt.mp h0)) (by simp +arith only)) (far0  (by simp +arith only))
theorem fk124 {a0 : Nat} {a1 : Nat} {a2 : Nat} {a3 : Nat} {a4 : Nat} (h3 : a3 ≤ 10) (h5 : a4 ≤ 5) (h1 : a1 ≤ 20 * a2 + 5) (h4 : 0 < (↑a2 : Int)) (h2 : a2 < a0) (h0 : a0 ≤ 1000) : a1 + a4 + a3 ≤ 1000000 := (far5 h3 h5 h1 (Nat.mul_le_mul_left 20 (Nat.succ_le_of_lt h2)) (Nat.mul_le_mul_left 20 h0) (by simp +arith only))
theorem fk125 {a0 : Nat} {a1 : Nat} {a2 : Nat} {a3 : Nat} (h1 : a2 ≤ 10) (h3 : a3 ≤ 5) (h0 : a0 ≤ 20 * a1 + 5) (h2 : ¬0 < (↑a1 : Int)) : a0 + a3 + a2 ≤ 1000000 := (far4 h0 h1 (Nat.mul_le_mul_left 20 (Int.ofNat_le.mp (show (((a1) : Nat) : Int) ≤ ((0 : Nat) : Int) from Int.not_lt.mp h2))) h3 (by simp +arith only))
theorem fk126 {a0 : Nat} : a0 - 1 = ((↑a0 : Int) - 1).toNat := by first | exact (Int.toNat_sub a0 1).symm | omega
theorem fk127 {a0 : Nat} {a1 : Nat} {a2 : Nat} (h1 : a1 ≤ 45000) (h3 : 0 < (↑a2 : Int)) (h2 : a2 < a0) (h0 : a0 ≤ 1000) : a1 + 1 + a2 < 100000 := Nat.lt_of_succ_le (far3 (Nat.succ_le_of_lt h2) h1 h0 (by simp +arith only))
theorem fk128 {a0 : Nat} {a1 : Nat} (h0 : a0 ≤ 45000) (h1 : ¬0 < (↑a1 : Int)) : a0 + 1 + a1 < 100000 := Nat.lt_of_succ_le (far2 (Int.ofNat_le.mp (show (((a1) : Nat) : Int) ≤ ((0 : Nat) : Int) from Int.not_lt.mp h1)) h0 (by simp +arith only))
theorem fk129 {a0 : Nat} {a1 : Nat} {a2 : Nat} (h0 : a0 ≤ 20 * a1 + 5) (h1 : a2 ≤ 5) : a0 + a2 ≤ 20 * a1 + 10 := (far2 h1 h0 (by simp +arith only))
theorem fk130 {a0 : Nat} {a1 : Nat} {a2 : Nat} {a3 : Nat} (h0 : a0 ≤ 20 * a1 + 5) (h1 : a2 ≤ 5) (h2 : a3 ≤ 10) : a0 + a2 + a3 ≤ 20 * (a1 + 1) + 5 := (far3 h0 h2 h1 (by simp +arith only))
theorem fk131 {a0 : Nat} {a1 : Nat} {a2 : Nat} (h2 : a2 ≤ 5) (h0 : a0 ≤ 20 * a1 + 5) (h1 : ¬0 < (↑a1 : Int)) : a0 + a2 ≤ 1000000 := (far3 h0 (Nat.mul_le_mul_left 20 (Int.ofNat_le.mp (show (((a1) : Nat) : Int) ≤ ((0 : Nat) : Int) from Int.not_lt.mp h1))) h2 (by simp +arith only))
theorem fk132 {a0 : Nat} {a1 : Nat} {a2 : Nat} {a3 : Nat} (h4 : a3 ≤ 5) (h1 : a1 ≤ 20 * a2 + 5) (h3 : 0 < (↑a2 : Int)) (h2 : a2 < a0) (h0 : a0 ≤ 1000) : a1 + a3 ≤ 1000000 := (far4 h4 h1 (Nat.mul_le_mul_left 20 (Nat.succ_le_of_lt h2)) (Nat.mul_le_mul_left 20 h0) (by simp +arith only))
theorem fk133 {a0 : Nat} {a1 : Nat} {a2 : Nat} {a3 : Nat} {a4 : Nat} (h0 : a0 ≤ a1) (h2 : a4 + a1 + a3 ≤ 100000) (h1 : a2 ≤ a3) : a4 + (a0 + (a2 + 0)) + (0 + 1 + 1 + 1) ≤ 1000000 := (far3 h2 h0 h1 (by simp +arith only))
theorem fk134 {a0 : Nat} {a1 : Nat} {a2 : Nat} {a3 : Nat} (h1 : a2 ≤ a3 + (a0 + 0) + (0 + 1 + 1)) (h0 : a0 ≤ a1) : 1 + a2 + 1 ≤ a3 + a1 + 4 := (far2 h1 h0 (by simp +arith only))
theorem fk135 {a0 : Nat} {a1 : Nat} {a2 : Nat} {a3 : Nat} {a4 : Nat} {a5 : Nat} (h0 : a0 ≤ a1) (h2 : a4 ≤ a5 + (a0 + (a2 + 0)) + (0 + 1 + 1 + 1)) (h1 : a2 ≤ a3) : 1 + a4 + 1 ≤ a5 + a1 + a3 + 5 := (far3 h2 h0 h1 (by simp +arith only))
theorem fk136 {a0 : Nat} {a1 : Nat} (h0 : a0 + a1 ≤ 1000000) : a0 + a1 ≤ 1048576 := (far1 h0 (by simp +arith only))
theorem fk137 {a0 : Nat} {a1 : Nat} {a2 : Nat} {a3 : Nat} {a4 : Nat} {a5 : Nat} (h3 : a5 ≤ a4 + (a0 + (a2 + 0)) + (0 + 1 + 1 + 1)) (h0 : a0 ≤ a1) (h2 : a4 + a1 + a3 ≤ 100000) (h1 : a2 ≤ a3) : 1 + a5 ≤ 1000000 := (far4 h3 h0 h2 h1 (by simp +arith only))
theorem fk138 {a0 : Nat} {a1 : Nat} {a2 : Nat} (h0 : a0 + a1 + a2 + 5 ≤ 100000) (h1 : a1 ≤ 100000) : a2 ≤ 100000 := (far1 h0 (by simp +arith only))
theorem fk139 {a0 : Nat} {a1 : Nat} {a2 : Nat} {a3 : Nat} {a4 : Nat} {a5 : Nat} (h3 : a5 ≤ a4 + (a0 + (a2 + 0)) + (0 + 1 + 1 + 1)) (h0 : a0 ≤ a1) (h2 : a4 + a1 + a3 ≤ 100000) (h1 : a2 ≤ a3) : 1 + a5 + 1 ≤ 1000000 := (far4 h3 h2 h1 h0 (by simp +arith only))
theorem fk140 {a0 : Nat} {a1 : Nat} {a2 : Nat} (h0 : a0 + a1 + a2 + 5 ≤ 100000) : a1 ≤ 100000 := (far1 h0 (by simp +arith only))
theorem fk141 {a0 : Nat} {a1 : Nat} (h0 : a0 + a1 + 4 ≤ 100000) : a1 ≤ 100000 := (far1 h0 (by simp +arith only))
theorem fk142 {a0 : Nat} {a1 : Nat} (h0 : a0 ≤ a1 + 1) : a0 + 1 ≤ a1 + 1 + 1 := (far1 h0 (by simp +arith only))
theorem fk143 {a0 : PySem.Addr} {a1 : PySem.Addr} {a2 : PySem.Addr} {p3 : Prop} (h0 : a0 < a1 ∧ a2 < a1 ∧ p3) : a0 ≠ a1 := fun hz => Nat.not_succ_le_zero 0 (far2 (g := 0 + 1) (Nat.succ_le_of_lt h0.1) (Nat.le_of_eq hz.symm) (by simp +arith only))
theorem fk144 {a0 : PySem.Addr} {a1 : PySem.Addr} {a2 : PySem.Addr} {p3 : Prop} (h0 : a0 < a1 ∧ a2 < a1 ∧ p3) : a2 ≠ a1 := fun hz => Nat.not_succ_le_zero 0 (far2 (g := 0 + 1) (Nat.succ_le_of_lt h0.2.1) (Nat.le_of_eq hz.symm) (by simp +arith only))
theorem fk145 {a0 : Nat} {a1 : Nat} {a2 : Nat} (h0 : a0 ≤ a1) (h1 : (↑a0 : Int) < (↑a1 : Int)) (h2 : a0 ≤ a2) (h3 : (↑a2 : Int) < (↑a1 : Int)) (h4 : (↑a0 : Int) < (↑a2 : Int)) : a1 - a2 < a1 - a0 := by first | exact Nat.sub_lt_sub_left (Int.ofNat_lt.mp h1) (Int.ofNat_lt.mp h4) | exact Nat.sub_lt_sub_left (Int.ofNat_lt.mp h1) (Nat.lt_of_lt_of_le (Int.ofNat_lt.mp h1) (Int.ofNat_le.mp (Int.not_lt.mp h3))) | omega
theorem fk146 {a0 : Nat} {a1 : Nat} (h0 : a0 ≤ a1) (h1 : ¬(↑a0 : Int) < (↑a1 : Int)) : ¬a0 < a1 := Nat.not_lt_of_le (far1 (Int.ofNat_le.mp (show (((a1) : Nat) : Int) ≤ (((a0) : Nat) : Int) from Int.not_lt.mp h1)) (by simp +arith only))
theorem fk147 {a0 : Nat} {a1 : Nat} (h0 : a0 ≤ a1) (h1 : (↑a0 : Int) < (↑a1 : Int)) : a0 < a1 := Nat.lt_of_succ_le (far1 (Nat.succ_le_of_lt (Int.ofNat_lt.mp (show (((a0) : Nat) : Int) < (((a1) : Nat) : Int) from h1))) (by simp +arith only))
theorem fk148 {a0 : Nat} {a1 : Nat} (h0 : a0 ≤ a1) (h1 : ¬(↑a0 : Int) < (↑a1 : Int)) : a1 = a0 := Nat.le_antisymm (far1 (Int.ofNat_le.mp (show (((a1) : Nat) : Int) ≤ (((a0) : Nat) : Int) from Int.not_lt.mp h1)) (by simp +arith only)) (far1 h0 (by simp +arith only))
theorem fk149 {a0 : Nat} (h0 : a0 ≤ 10000) : a0 ≤ 16777216 := (far1 h0 (by simp +arith only))
theorem fk150 {a0 : Nat} {a1 : Nat} {a2 : Nat} {a3 : Nat} (h2 : a3 = a1) (h1 : a1 + a2 + 0 ≤ a0) (h0 : a0 ≤ 10000) : a3 ≤ 10000 := (far3 (Nat.le_of_eq h2) h1 h0 (by simp +arith only))
theorem fk151 {a0 : Nat} {a1 : Nat} (h0 : a0 ≤ a1) (h1 : (↑a0 : Int) < (↑a1 : Int)) : a0 + 1 ≤ a1 := (far1 (Nat.succ_le_of_lt (Int.ofNat_lt.mp (show (((a0) : Nat) : Int) < (((a1) : Nat) : Int) from h1))) (by simp +arith only))
theorem fk152 {a0 : Nat} {a1 : Nat} {a2 : Nat} (h0 : a0 ≤ a1) (h1 : (↑a0 : Int) < (↑a1 : Int)) (h2 : a2 ≤ a1) (h3 : ¬(↑a2 : Int) < (↑a1 : Int)) : a0 < a2 := Nat.lt_of_succ_le (far2 (Nat.succ_le_of_lt (Int.ofNat_lt.mp (show (((a0) : Nat) : Int) < (((a1) : Nat) : Int) from h1))) (Int.ofNat_le.mp (show (((a1) : Nat) : Int) ≤ (((a2) : Nat) : Int) from Int.not_lt.mp h3)) (by simp +arith only))
theorem fk153 {a0 : Nat} {a1 : Nat} {a2 : Nat} (h0 : a0 ≤ a1) (h1 : (↑a0 : Int) < (↑a1 : Int)) (h2 : a0 ≤ a2) (h3 : ¬(↑a0 : Int) < (↑a2 : Int)) : a2 < a1 := Nat.lt_of_succ_le (far2 (Int.ofNat_le.mp (show (((a2) : Nat) : Int) ≤ (((a0) : Nat) : Int) from Int.not_lt.mp h3)) (Nat.succ_le_of_lt (Int.ofNat_lt.mp (show (((a0) : Nat) : Int) < (((a1) : Nat) : Int) from h1))) (by simp +arith only))
theorem fk154 {a0 : Nat} {a1 : Nat} (h0 : (↑a0 : Int) < (↑a1 : Int)) : a1 - (a0 + 1) < a1 - a0 := by first | exact Nat.sub_lt_sub_left (Int.ofNat_lt.mp h0) (Nat.lt_succ_self a0) | omega
theorem fk155 {a0 : Nat} {a1 : Nat} {a2 : Nat} (h0 : a0 ≤ a1) (h1 : (↑a0 : Int) < (↑a1 : Int)) (h2 : a2 ≤ a1) (h3 : ¬(↑a2 : Int) < (↑a1 : Int)) : a1 - a2 < a1 - a0 := by first | exact Nat.sub_lt_sub_left (Int.ofNat_lt.mp h1) (Int.ofNat_lt.mp h4) | exact Nat.sub_lt_sub_left (Int.ofNat_lt.mp h1) (Nat.lt_of_lt_of_le (Int.ofNat_lt.mp h1) (Int.ofNat_le.mp (Int.not_lt.mp h3))) | omega
theorem fk156 {a0 : Nat} (h0 : a0 ≤ 10) : a0 ≤ 16777216 := (far1 h0 (by simp +arith only))
theorem fk157 {a0 : Nat} {a1 : Nat} {a2 : Nat} (h2 : a2 ≤ a0 + a1 ∧ a0 + a1 ≤ a2) (h0 : a0 ≤ 10) (h1 : a1 = 10) : a2 ≤ 16777216 := (far3 h2.1 (Nat.le_of_eq h1) h0 (by simp +arith only))
theorem fk158 {a0 : Nat} {a1 : Nat} (h0 : a0 + 1 ≤ a1) (h1 : (↑a1 : Int) < (↑a0 : Int) + 1) : False := Nat.not_succ_le_zero 0 (far2 (g := 0 + 1) h0 (Nat.succ_le_of_lt (Int.ofNat_lt.mp (show (((a1) : Nat) : Int) < ((((a0) + 1) : Nat) : Int) from h1))) (by simp +arith only))
theorem fk159 {a0 : Nat} {a1 : Nat} {a2 : Nat} (h0 : a0 + (15 + (a1 + 1)) < a2) : a0 + 1 + (15 + a1) < a2 := Nat.lt_of_succ_le (far1 (Nat.succ_le_of_lt h0) (by simp +arith only))
theorem fk160 {a0 : Nat} {a1 : Nat} {a2 : Nat} (h0 : a0 + (a1 + 1) ≤ a2) : a0 + 1 ≤ a2 := (far1 h0 (by simp +arith only))
theorem fk161 {a0 : PySem.Addr} {a1 : PySem.Addr} {p2 : Prop} (h0 : a0 < a1 ∧ p2) : a0 ≠ a1 := fun hz => Nat.not_succ_le_zero 0 (far2 (g := 0 + 1) (Nat.succ_le_of_lt h0.1) (Nat.le_of_eq hz.symm) (by simp +arith only))
theorem fk162 {a0 : Nat} {a1 : Nat} {a2 : Nat} (h0 : a0 + (23 + 3 * a1) < a2) : a0 + 1 + (22 + 3 * a1) < a2 := Nat.lt_of_succ_le (far1 (Nat.succ_le_of_lt h0) (by simp +arith only))
theorem fk163 {a0 : Nat} {a1 : Nat} {a2 : Nat} (h0 : a0 + (450 + 120 * a1) < a2) : a0 + 3 + (400 + 120 * a1) < a2 := Nat.lt_of_succ_le (far1 (Nat.succ_le_of_lt h0) (by simp +arith only))
theorem fk164 {a0 : PySem.Addr} {a1 : PySem.Addr} {a2 : PySem.Addr} {p3 : Prop} (h0 : a0 + 1 < a1 ∧ a2 < a1 ∧ p3) : a2 ≠ a1 := fun hz => Nat.not_succ_le_zero 0 (far2 (g := 0 + 1) (Nat.succ_le_of_lt h0.2.1) (Nat.le_of_eq hz.symm) (by simp +arith only))
theorem fk165 {a0 : PySem.Addr} {a1 : PySem.Addr} {a2 : PySem.Addr} {p3 : Prop} (h0 : a0 + 1 < a1 ∧ a2 < a1 ∧ p3) : a0 + 1 ≠ a1 := fun hz => Nat.not_succ_le_zero 0 (far2 (g := 0 + 1) (Nat.succ_le_of_lt h0.1) (Nat.le_of_eq hz.symm) (by simp +arith only))
theorem fk166 {a0 : Nat} (h0 : a0 = 2) : a0 ≤ 16777216 := (far1 (Nat.le_of_eq h0) (by simp +arith only))
theorem fk167 {a0 : Nat} {a1 : Nat} {a2 : Nat} (h2 : a2 ≤ a0 + a1 ∧ a0 + a1 ≤ a2) (h0 : a0 = 2) (h1 : a1 = 12) : a2 ≤ 16777216 := (far3 h2.1 (Nat.le_of_eq h1) (Nat.le_of_eq h0) (by simp +arith only))
theorem fk168 {a0 : Nat} {a1 : Nat} {a2 : Nat} (h0 : a0 + (a1 + 1) + 4 ≤ a2) : a0 + 1 + a1 + 4 ≤ a2 := (far1 h0 (by simp +arith only))
theorem fk169 {a0 : Nat} {a1 : Nat} {a2 : Nat} (h2 : a2 ≤ a0 + a1 ∧ a0 + a1 ≤ a2) (h0 : a0 ≤ 10000) (h1 : a1 = 20) : a2 ≤ 16777216 := (far3 h2.1 h0 (Nat.le_of_eq h1) (by simp +arith only))
theorem fk170 {a0 : Nat} {a1 : Nat} {a2 : Nat} (h0 : a0 + (a1 + 1) + 4 ≤ a2) : a0 + 1 + 4 ≤ a2 := (far1 h0 (by simp +arith only))
theorem fk171 {a0 : Nat} {a1 : Nat} {a2 : Nat} (h0 : a0 + (a1 + 1) + 4 ≤ a2) : a0 + 1 + 3 ≤ a2 := (far1 h0 (by simp +arith only))
theorem fk172 {p0 : Prop} {a1 : Nat} {a2 : Nat} {a3 : Nat} (h0 : p0 ∧ a1 ≤ a2) : a1 ≤ a3 + a2 := (far1 h0.2 (by simp +arith only))
theorem fk173 {a0 : Nat} {a1 : Nat} {p2 : Prop} {a3 : Nat} (h2 : p2 ∧ a3 ≤ a1) (h1 : a1 = a0) (h0 : a0 ≤ 10000) : a3 ≤ 10000 := (far3 h2.2 (Nat.le_of_eq h1) h0 (by simp +arith only))
theorem fk174 {a0 : Nat} {a1 : Nat} (h0 : a0 + 1 ≤ a1) : a0 ≤ a1 := (far1 h0 (by simp +arith only))
theorem fk175 {a0 : Nat} {a1 : Nat} {a2 : Nat} (h0 : a0 ≤ a1) : a0 ≤ a2 + a1 := (far1 h0 (by simp +arith only))
theorem fk176 {a0 : Nat} {a1 : Nat} {a2 : Nat} (h1 : a1 ≤ a2) (h0 : 1 ≤ a0) : a1 + 1 ≤ a0 + a2 := (far2 h1 h0 (by simp +arith only))
theorem fk177 {a0 : Nat} (h0 : (↑a0 : Int) < 0) : False := Nat.not_succ_le_zero 0 (far1 (g := 0 + 1) (Nat.succ_le_of_lt (Int.ofNat_lt.mp (show (((a0) : Nat) : Int) < ((0 : Nat) : Int) from h0))) (by simp +arith only))
theorem fk178 {a0 : Nat} {a1 : Nat} (h0 : a0 = a1 + 1) : a1 ≤ a0 := (far1 (Nat.le_of_eq h0.symm) (by simp +arith only))
theorem fk179 {a0 : Nat} {a1 : Nat} {a2 : Nat} {a3 : Nat} {a4 : Nat} {a5 : Nat} {a6 : Nat} (h1 : a1 ≤ a2) (h2 : a3 ≤ a4) (h3 : a5 ≤ a0 + 1 + (a6 + 1 + (a1 + a3)) + 2) (h0 : a0 = 5) : a5 + 1 + 0 ≤ a6 + a2 + a4 + 12 := (far4 h3 h2 (Nat.le_of_eq h0) h1 (by simp +arith only))
theorem fk180 {a0 : Nat} {a1 : Nat} (h0 : a0 ≤ a1) : 1 + a0 + 1 ≤ a1 + 2 := (far1 h0 (by simp +arith only))
theorem fk181 {a0 : Nat} {a1 : Nat} {a2 : Nat} {a3 : Nat} {a4 : Nat} {a5 : Nat} (h1 : a1 ≤ a2) (h2 : a3 ≤ a4) (h3 : a5 ≤ a0 + 1 + (a1 + a3) + 2) (h0 : a0 = 4) : a5 + 1 + 0 ≤ a2 + a4 + 10 := (far4 h3 h2 h1 (Nat.le_of_eq h0) (by simp +arith only))
theorem fk182 {a0 : Nat} {a1 : Nat} {a2 : Nat} {a3 : Nat} {a4 : Nat} (h1 : a1 ≤ a2) (h2 : a3 ≤ a0 + 1 + (a4 + 1 + a1) + 2) (h0 : a0 = 4) : a3 + 1 + 0 ≤ a4 + a2 + 11 := (far3 h2 h1 (Nat.le_of_eq h0) (by simp +arith only))
theorem fk183 {a0 : Nat} {a1 : Nat} {a2 : Nat} (h0 : a0 + 1 + a1 ≤ a2) : a0 ≤ a2 := (far1 h0 (by simp +arith only))
theorem fk184 {a0 : Nat} {a1 : Nat} {a2 : Nat} {a3 : Nat} {a4 : Nat} {a5 : Nat} (h0 : a0 ≤ a1) (h1 : a2 ≤ a3) (h2 : a4 = 1) : a5 + a4 + a2 + 1 + a0 ≤ a5 + a3 + 2 + a1 := (far3 h0 (Nat.le_of_eq h2) h1 (by simp +arith only))
theorem fk185 {a0 : Nat} {a1 : Nat} {a2 : Nat} {a3 : Nat} {a4 : Nat} (h1 : a1 ≤ a2) (h2 : a3 ≤ a0 + 1 + (a4 + 1 + a1) + 2) (h0 : a0 = 5) : a3 + 1 + 0 ≤ a4 + a2 + 12 := (far3 h2 (Nat.le_of_eq h0) h1 (by simp +arith only))
theorem fk186 {a0 : Nat} {a1 : Nat} (h0 : a0 < a1) : min a0 a1 ≤ a1 := by first | exact Nat.min_le_right a0 a1 | omega
theorem fk187 {a0 : Nat} {a1 : Nat} {a2 : Nat} (h1 : a1 ≤ a0 + 1 + (a2 + 1 + 0) + 2) (h0 : a0 = 4) : a1 + 1 + 0 ≤ a2 + 10 := (far2 h1 (Nat.le_of_eq h0) (by simp +arith only))
theorem fk188 {a0 : Nat} {a1 : Nat} {a2 : Nat} {a3 : Nat} (h1 : a1 ≤ a2) (h2 : a3 ≤ a0 + 1 + a1 + 2) (h0 : a0 = 4) : a3 + 1 + 0 ≤ a2 + 10 := (far3 h2 h1 (Nat.le_of_eq h0) (by simp +arith only))
theorem fk189 {a0 : Nat} {a1 : Nat} {a2 : Nat} {a3 : Nat} (h1 : a1 ≤ a2) (h2 : a3 ≤ a0 + 1 + (a1 + 1 + 0) + 2) (h0 : a0 = 4) : a3 + 1 + 0 ≤ a2 + 10 := (far3 h2 h1 (Nat.le_of_eq h0) (by simp +arith only))
theorem fk190 {a0 : Nat} {a1 : Nat} {a2 : Nat} (h1 : a1 ≤ a0 + 1 + (a2 + 1 + 0) + 2) (h0 : a0 = 5) : a1 + 1 + 0 ≤ a2 + 11 := (far2 h1 (Nat.le_of_eq h0) (by simp +arith only))
theorem fk191 {a0 : Nat} {a1 : Nat} {a2 : Nat} {a3 : Nat} (h0 : a0 ≤ a1) (h1 : a2 ≤ a3) : a0 + a2 ≤ a1 + a3 + 10 := (far2 h1 h0 (by simp +arith only))
theorem fk192 {p0 : Prop} {p1 : Prop} {a2 : Nat} {a3 : Nat} {a4 : Nat} {a5 : Nat} {a6 : Nat} (h0 : (p0 ∧ p1) ∧ max a2 a3 + 1 + 1 ≤ a4 ∧ a5 + a6 + 10 + 1 ≤ 100000) : a2 + 1 ≤ a4 := (far2 (Nat.le_max_left (a2) (a3)) h0.2.1 (by simp +arith only))
theorem fk193 {p0 : Prop} {p1 : Prop} {a2 : Nat} {a3 : Nat} {a4 : Nat} {a5 : Nat} {a6 : Nat} (h0 : (p0 ∧ p1) ∧ max a2 a3 + 1 + 1 ≤ a4 ∧ a5 + a6 + 10 + 1 ≤ 100000) : a5 + 1 ≤ 100000 := (far1 h0.2.2 (by simp +arith only))
theorem fk194 {a0 : Nat} {a1 : Nat} {a2 : Nat} {a3 : Nat} (h2 : a3 = a2 + 1 + 1) (h1 : a0 = a2 + 1) (h0 : a0 + a1 ≤ 1000) : 0 + 1 + a3 ≤ 1000000 := (far3 (Nat.le_of_eq h2) (Nat.le_of_eq h1.symm) h0 (by simp +arith only))
theorem fk195 {a0 : Nat} {a1 : Nat} {a2 : Nat} {a3 : Nat} (h2 : a3 ≤ a2 + 1 + 1) (h1 : a0 = a2 + 1) (h0 : a0 + a1 ≤ 1000) : a3 ≤ 1000000 := (far3 h2 (Nat.le_of_eq h1.symm) h0 (by simp +arith only))
theorem fk196 {p0 : Prop} {p1 : Prop} {a2 : Nat} {a3 : Nat} {a4 : Nat} {a5 : Nat} {a6 : Nat} (h0 : (p0 ∧ p1) ∧ max a2 a3 + 1 + 1 ≤ a4 ∧ a5 + a6 + 10 + 1 ≤ 100000) : a6 + 1 ≤ 100000 := (far1 h0.2.2 (by simp +arith only))
theorem fk197 {a0 : Nat} {a1 : Nat} (h0 : a0 + (a1 + 1) ≤ 1000) : a0 + (0 + 1) + a1 ≤ 1000 := (far1 h0 (by simp +arith only))
theorem fk198 {p0 : Prop} {p1 : Prop} {a2 : Nat} {a3 : Nat} {a4 : Nat} {a5 : Nat} {a6 : Nat} (h0 : (p0 ∧ p1) ∧ max a2 a3 + 1 + 1 ≤ a4 ∧ a5 + a6 + 10 + 1 ≤ 100000) : a3 + 1 ≤ a4 := (far2 (Nat.le_max_right (a2) (a3)) h0.2.1 (by simp +arith only))
theorem fk199 {p0 : Prop} {a1 : Nat} {a2 : Nat} {a3 : Nat} {p4 : Prop} {a5 : Nat} {a6 : Nat} {a7 : Nat} (h2 : a7 ≤ a1) (h0 : (p0 ∧ a1 + 1 ≤ a2 ∧ a3 + 1 ≤ 100000) ∧ p4 ∧ a5 + 1 ≤ a2 ∧ a6 + 1 ≤ 100000) (h1 : a2 ≤ 900) : 0 + 1 + a7 ≤ 1000 := (far3 h2 h0.1.2.1 h1 (by simp +arith only))
theorem fk200 {a0 : Nat} {a1 : Nat} (h0 : a0 + a1 + 10 ≤ 100000) : a1 + 1 ≤ 100000 := (far1 h0 (by simp +arith only))
theorem fk201 {a0 : Nat} {a1 : Nat} {a2 : Nat} {a3 : Nat} (h0 : a0 = 5) (h1 : a1 + a2 + 12 ≤ 100000) (h2 : a3 ≤ a2) : a0 + 1 + (a1 + 1 + (a3 + 1 + 0)) ≤ 200000 := (far3 h2 h1 (Nat.le_of_eq h0) (by simp +arith only))
theorem fk202 {a0 : Nat} {a1 : Nat} {a2 : Nat} {a3 : Nat} (h1 : a2 + a3 + 2 ≤ a1) (h0 : a0 + a1 + 11 ≤ 100000) : a2 ≤ 100000 := (far2 h1 h0 (by simp +arith only))
theorem fk203 {a0 : Nat} {a1 : Nat} {a2 : Nat} {a3 : Nat} (h1 : a2 + a3 + a1 + 12 ≤ 100000) (h0 : a0 ≤ a1) : a3 ≤ 100000 := (far1 h1 (by simp +arith only))
theorem fk204 {a0 : Nat} {a1 : Nat} {a2 : Nat} {a3 : Nat} (h0 : a0 ≤ a1) : a0 + 1 ≤ a2 + a3 + 2 + a1 := (far1 h0 (by simp +arith only))
theorem fk205 {a0 : Nat} {a1 : Nat} (h0 : a0 + 1 ≤ a1 + 1) : a0 ≤ a1 := (far1 h0 (by simp +arith only))
theorem fk206 {a0 : Nat} {a1 : Nat} (h0 : a0 + a1 + 12 ≤ 100000) : a1 ≤ 100000 := (far1 h0 (by simp +arith only))
theorem fk207 {a0 : Nat} {a1 : Nat} {a2 : Nat} {a3 : Nat} {a4 : Nat} (h0 : a0 + a1 + 2 ≤ a2) : a0 + a1 + 2 ≤ a3 + a4 + 2 + a2 := (far1 h0 (by simp +arith only))
theorem fk208 {a0 : Nat} {a1 : Nat} {a2 : Nat} {a3 : Nat} {a4 : Nat} {a5 : Nat} (h0 : a0 = 5) (h2 : a4 ≤ a2) (h1 : a1 + a2 + a3 + 12 ≤ 100000) (h3 : a5 ≤ a3) : a0 + 1 + (a1 + 1 + (a4 + 1 + (a5 + 1 + 0))) ≤ 200000 := (far4 h1 h3 (Nat.le_of_eq h0) h2 (by simp +arith only))
theorem fk209 {a0 : Nat} {a1 : Nat} {a2 : Nat} {a3 : Nat} (h0 : a0 = 4) (h1 : a1 + a2 + 11 ≤ 100000) (h2 : a3 ≤ a2) : a0 + 1 + (a1 + 1 + a3) ≤ 200000 := (far3 h2 (Nat.le_of_eq h0) h1 (by simp +arith only))
theorem fk210 {a0 : Nat} {a1 : Nat} {a2 : Nat} {a3 : Nat} (h1 : a2 + a1 + a3 + 12 ≤ 100000) (h0 : a0 ≤ a1) : a3 ≤ 100000 := (far1 h1 (by simp +arith only))
theorem fk211 {a0 : Nat} {a1 : Nat} {a2 : Nat} (h0 : a0 ≤ a1) (h1 : a2 ≤ a1) : 4 + a0 + a2 ≤ 2 * a1 + 4 := (far2 h1 h0 (by simp +arith only))
theorem fk212 {a0 : Nat} {a1 : Nat} {a2 : Nat} {a3 : Nat} (h1 : a3 ≤ a0) (h0 : 16 ≤ a0 ∧ 1 ≤ a1 ∧ 57 ≤ a2) : 3 + a3 ≤ 2 * a0 + 4 := (far1 h1 (by simp +arith only))
theorem fk213 {p0 : Prop} {p1 : Prop} {a2 : Nat} {a3 : Nat} {a4 : Nat} (h1 : a3 ≤ a4) (h0 : p0 ∧ p1 ∧ a2 ≤ 4) : a2 + a3 + 4 ≤ 2 * a4 + 9 := (far2 h0.2.2 h1 (by simp +arith only))
theorem fk214 {p0 : Prop} {p1 : Prop} {a2 : Nat} {a3 : Nat} {a4 : Nat} {a5 : Nat} (h1 : a3 ≤ a4) (h2 : a5 ≤ a4) (h0 : p0 ∧ p1 ∧ a2 ≤ 4) : a2 + a3 + a5 + 12 ≤ 2 * a4 + 16 := (far3 h1 h0.2.2 h2 (by simp +arith only))
theorem fk215 {a0 : Nat} {a1 : Nat} {a2 : Nat} (h0 : 16 ≤ a0 ∧ 1 ≤ a1 ∧ 57 ≤ a2) : 16 ≤ 2 * a0 + 4 := (far1 h0.1 (by simp +arith only))
theorem fk216 {a0 : Nat} {a1 : Nat} {a2 : Nat} (h0 : 16 ≤ a0 ∧ 1 ≤ a1 ∧ 57 ≤ a2) : 57 ≤ 2 * a2 + 16 := (far1 h0.2.2 (by simp +arith only))
theorem fk217 {a0 : Nat} {a1 : Nat} {a2 : Nat} {a3 : Nat} (h1 : a3 ≤ a0) (h0 : 16 ≤ a0 ∧ 1 ≤ a1 ∧ 57 ≤ a2) : 4 + a3 ≤ 2 * a0 + 4 := (far1 h1 (by simp +arith only))
theorem fk218 {a0 : Nat} {a1 : Nat} (h0 : a0 ≤ a1) : a0 + (0 + 1) + 1 + 1 ≤ 2 * a1 + 3 := (far1 h0 (by simp +arith only))
theorem fk219 {a0 : Nat} {a1 : Nat} {a2 : Nat} {a3 : Nat} (h1 : a3 ≤ a1) (h0 : 16 ≤ a0 ∧ 1 ≤ a1 ∧ 57 ≤ a2) : a3 ≤ 2 * a1 + 1 := (far1 h1 (by simp +arith only))
theorem fk220 {a0 : Nat} {a1 : Nat} {a2 : Nat} (h0 : a0 ≤ a1) (h1 : a2 ≤ a1) : 3 + a0 + a2 ≤ 2 * a1 + 4 := (far2 h1 h0 (by simp +arith only))
theorem fk221 {a0 : Nat} {a1 : Nat} {a2 : Nat} {a3 : Nat} (h1 : a3 ≤ a2) (h0 : 16 ≤ a0 ∧ 1 ≤ a1 ∧ 57 ≤ a2) : a3 + 10 ≤ 2 * a2 + 16 := (far1 h1 (by simp +arith only))
theorem fk222 {p0 : Prop} {p1 : Prop} {a2 : Nat} {a3 : Nat} {a4 : Nat} {a5 : Nat} (h1 : a3 ≤ a4) (h2 : a5 ≤ a4) (h0 : p0 ∧ p1 ∧ a2 ≤ 4) : a2 + a3 + a5 + 5 ≤ 2 * a4 + 9 := (far3 h0.2.2 h1 h2 (by simp +arith only))
theorem fk223 {p0 : Prop} {p1 : Prop} {a2 : Nat} (h0 : (p0 ∧ p1) ∧ a2 ≤ 4) : a2 ≤ 10 := (far1 h0.2 (by simp +arith only))
theorem fk224 {a0 : Nat} {a1 : Nat} {a2 : Nat} (h0 : a0 ≤ a1) (h1 : a2 ≤ a1) : 1 + a0 + a2 ≤ 2 * a1 + 1 := (far2 h1 h0 (by simp +arith only))
theorem fk225 {a0 : Int} {p1 : Prop} (h0 : 0 ≤ a0) (h1 : a0 < 3) (h2 : ¬a0 = 0) (h3 : ¬a0 = 1) (h4 : ¬a0 = 2) : p1 := by first | exact (int3_no h0 h1 h2 h3 h4).elim | omega
theorem fk226 {a0 : Nat} {a1 : Nat} {a2 : Nat} (h0 : 16 ≤ a0 ∧ 1 ≤ a1 ∧ 57 ≤ a2) : 16 ≤ 2 * a0 + 4 ∧ 1 ≤ 2 * a1 + 1 ∧ 57 ≤ 2 * a2 + 16 := ⟨(far1 h0.1 (by simp +arith only)), ⟨(far0  (by simp +arith only)), (far1 h0.2.2 (by simp +arith only))⟩⟩
theorem fk227 {a0 : Nat} {a1 : Nat} {a2 : Nat} (h0 : a0 ≤ a1) (h1 : a2 ≤ a1) : a0 + (a2 + (0 + 1)) + 1 + 1 ≤ 2 * a1 + 3 := (far2 h1 h0 (by simp +arith only))
theorem fk228 {a0 : Nat} {a1 : Nat} {a2 : Nat} {p3 : Prop} {p4 : Prop} {a5 : Nat} {a6 : Nat} (h2 : a6 ≤ a2) (h0 : 16 ≤ a0 ∧ 1 ≤ a1 ∧ 57 ≤ a2) (h1 : p3 ∧ p4 ∧ a5 ≤ 4) : a5 + a6 + 12 ≤ 2 * a2 + 16 := (far2 h2 h1.2.2 (by simp +arith only))
theorem fk229 {a0 : Nat} {a1 : Nat} {a2 : Nat} (h0 : a0 ≤ a1) (h1 : a2 ≤ a1) : a0 + a2 + 10 ≤ 2 * a1 + 16 := (far2 h0 h1 (by simp +arith only))
theorem fk230 {a0 : Nat} {a1 : Nat} {a2 : Nat} (h0 : a0 ≤ a1) (h1 : a2 ≤ a1) : a0 + a2 ≤ 2 * a1 + 1 := (far2 h0 h1 (by simp +arith only))
theorem fk231 {a0 : Nat} {a1 : Nat} {a2 : Nat} (h0 : 2 * (max a0 a1 + 1) + 8 ≤ a2 + 1 + 1) : 2 * a0 + 8 ≤ a2 := (far2 (Nat.mul_le_mul_left 2 (Nat.le_max_left (a0) (a1))) h0 (by simp +arith only))
theorem fk232 {a0 : Nat} {a1 : Nat} {a2 : Nat} (h0 : 2 * (max a0 a1 + 1) + 8 ≤ a2 + 1) : a2 = a2 - 1 + 1 := by first | exact (Nat.sub_add_cancel (far1 h0 (by simp +arith only))).symm | omega
theorem fk233 {a0 : Nat} {a1 : Nat} {a2 : Nat} (h0 : 2 * (max a0 a1 + 1) + 8 ≤ a2 + 1) : 2 * a0 + 8 ≤ a2 := (far2 (Nat.mul_le_mul_left 2 (Nat.le_max_left (a0) (a1))) h0 (by simp +arith only))
theorem fk234 {a0 : Nat} {a1 : Nat} {a2 : Nat} (h1 : a2 < 3) (h0 : 2 * a0 + 8 ≤ a1 + 1 + 1) : a2 + 1 < a1 := Nat.lt_of_succ_le (far2 (Nat.succ_le_of_lt h1) h0 (by simp +arith only))
theorem fk235 {a0 : Nat} {a1 : Nat} (h0 : 2 * (a0 + 1) + 8 ≤ a1 + 1) : 2 * a0 + 8 ≤ a1 := (far1 h0 (by simp +arith only))
theorem fk236 {a0 : Nat} {a1 : Nat} (h0 : 2 * (a0 + 1) + 8 ≤ a1 + 1 + 1) : 2 * a0 + 8 ≤ a1 := (far1 h0 (by simp +arith only))
theorem fk237 {a0 : Nat} {a1 : Nat} {a2 : Nat} (h0 : 2 * (max a0 a1 + 1) + 8 ≤ a2 + 1 + 1) : 2 * a1 + 8 ≤ a2 := (far2 (Nat.mul_le_mul_left 2 (Nat.le_max_right (a0) (a1))) h0 (by simp +arith only))
theorem fk238 {a0 : Nat} {a1 : Nat} {a2 : Nat} (h0 : 2 * (max a0 a1 + 1) + 8 ≤ a2 + 1) : 2 * a1 + 8 ≤ a2 := (far2 (Nat.mul_le_mul_left 2 (Nat.le_max_right (a0) (a1))) h0 (by simp +arith only))
theorem fk239 {a0 : Nat} {a1 : Nat} {a2 : Nat} (h1 : a2 < 4) (h0 : 2 * a0 + 8 ≤ a1 + 1) : a2 < a1 := Nat.lt_of_succ_le (far2 (Nat.succ_le_of_lt h1) h0 (by simp +arith only))
theorem fk240 {a0 : Nat} {a1 : Nat} {a2 : Nat} {a3 : Nat} (h2 : a3 ≤ a0 + 1 + a2) (h0 : a0 + a1 ≤ 40000) (h1 : a1 = 2 * a2 + 4) : a3 + a2 ≤ 40000 := (far3 (Nat.le_of_eq h1.symm) h0 h2 (by simp +arith only))
theorem fk241 {a0 : Nat} (h0 : a0 + 1 ≤ 3) : 0 < (↑(a0 + 1) : Int) := (show ((0 : Nat) : Int) < (((a0 + 1) : Nat) : Int) from Int.ofNat_lt.mpr (far0  (by simp +arith only)))
theorem fk242 {a0 : Nat} {a1 : Nat} {a2 : Nat} {a3 : Nat} {a4 : Nat} (h4 : a4 + 1 ≤ a3 + a0) (h0 : a0 = 4) (h3 : a3 + 1 ≤ a1 + 1 + a0) (h1 : a1 + a2 ≤ 40000) (h2 : a2 = 12) : a4 < 100000 := Nat.lt_of_succ_le (far5 h4 (Nat.le_of_eq h0) h3 (Nat.le_of_eq h0) h1 (by simp +arith only))
theorem fk243 {a0 : Nat} {a1 : Nat} {a2 : Nat} (h2 : 12 ≤ a2) (h0 : a0 + a1 ≤ 40000) (h1 : a1 = 2 * a2 + 4) : a0 + 1 + a2 ≤ 40000 := (far2 h0 (Nat.le_of_eq h1.symm) (by simp +arith only))
theorem fk244 {a0 : Int} (h0 : 0 ≤ a0) (h1 : a0 < 3) (h2 : a0 ≠ 0) (h3 : a0 ≠ 1) (h4 : a0 ≠ 2) : False := by first | exact int3_no h0 h1 h2 h3 h4 | exact absurd h1 (by rw [h0]; decide) | omega
theorem fk245 {a0 : Nat} {a1 : Nat} {a2 : Nat} {a3 : Nat} {a4 : Nat} {a5 : Nat} (h5 : a5 + 1 ≤ a4 + a0) (h0 : a0 = 4) (h4 : a4 + 1 ≤ a1 + 1 + a0) (h1 : a1 + a2 ≤ 40000) (h2 : a2 = 2 * a3 + 4) (h3 : 12 ≤ a3) : a5 + 1 < 100000 := Nat.lt_of_succ_le (far4 h5 h4 (Nat.mul_le_mul_left 2 (Nat.le_of_eq h0)) h1 (by simp +arith only))
theorem fk246 {a0 : Nat} {a1 : Nat} {a2 : Nat} {a3 : Nat} {a4 : Nat} (h4 : a4 + 1 ≤ a3 + a0) (h0 : a0 = 4) (h3 : a3 + 1 ≤ a1 + 1 + a0) (h1 : a1 + a2 ≤ 40000) (h2 : a2 = 12) : a4 + 1 < 100000 := Nat.lt_of_succ_le (far4 h4 h3 h1 (Nat.mul_le_mul_left 2 (Nat.le_of_eq h0)) (by simp +arith only))
theorem fk247 {a0 : Nat} {a1 : Nat} {a2 : Nat} {a3 : Nat} {a4 : Nat} (h0 : a0 = 4) (h4 : a4 + 1 ≤ a1 + 1 + a0) (h1 : a1 + a2 ≤ 40000) (h2 : a2 = 2 * a3 + 4) (h3 : 12 ≤ a3) : a4 + a0 ≤ 50000 := (far4 (Nat.le_of_eq h0) h4 (Nat.le_of_eq h0) h1 (by simp +arith only))
theorem fk248 {a0 : Nat} {a1 : Nat} {a2 : Nat} {a3 : Nat} (h2 : a3 ≤ a0 + 1 + 1 + 1 + a2) (h0 : a0 + a1 ≤ 40000) (h1 : a1 = 2 * a2 + 4) : a3 + a2 ≤ 40000 := (far3 (Nat.le_of_eq h1.symm) h0 h2 (by simp +arith only))
theorem fk249 {a0 : Nat} {a1 : Nat} {a2 : Nat} {a3 : Nat} {a4 : Nat} {a5 : Nat} (h5 : a5 + 1 ≤ a4 + a0) (h0 : a0 = 4) (h4 : a4 + 1 ≤ a1 + 1 + a0) (h1 : a1 + a2 ≤ 40000) (h2 : a2 = 2 * a3 + 4) (h3 : 12 ≤ a3) : a5 < 100000 := Nat.lt_of_succ_le (far5 h5 (Nat.le_of_eq h0) h4 (Nat.le_of_eq h0) h1 (by simp +arith only))
theorem fk250 {a0 : Nat} {a1 : Nat} {a2 : Nat} {a3 : Nat} (h0 : a0 = 4) (h3 : a3 + 1 ≤ a1 + 1 + a0) (h1 : a1 + a2 ≤ 40000) (h2 : a2 = 12) : a3 + a0 ≤ 50000 := (far4 (Nat.le_of_eq h0) h3 (Nat.le_of_eq h0) h1 (by simp +arith only))
theorem fk251 {a0 : Nat} {a1 : Nat} {a2 : Nat} (h2 : 12 ≤ a2) (h0 : a0 + a1 ≤ 40000) (h1 : a1 = 2 * a2 + 4) : a0 + 1 + 1 + 1 + a2 ≤ 40000 := (far2 h0 (Nat.le_of_eq h1.symm) (by simp +arith only))
theorem fk252 {a0 : Nat} {a1 : Nat} (h0 : a0 + 1 = a1) : (↑a1 : Int) - 1 = (↑a0 : Int) := by first | (subst h0; exact (show ((a0 : Int) + 1) - 1 = a0 from Int.add_sub_cancel _ _)) | omega
theorem fk253 : 6 = (↑6 : Int) := by first | exact rfl | omega
theorem fk254 {a0 : Nat} {a1 : Nat} (h0 : a0 ≤ 568) (h1 : a1 + 1 = a0) : a0 ≤ 16777216 := (far1 h0 (by simp +arith only))
theorem fk255 {a0 : Nat} (h0 : ¬(↑63 : Int) < (↑a0 : Int)) : a0 ≤ 63 := (far1 (Int.ofNat_le.mp (show (((a0) : Nat) : Int) ≤ (((63) : Nat) : Int) from Int.not_lt.mp h0)) (by simp +arith only))
theorem fk256 {a0 : Nat} {a1 : Nat} (h1 : a1 + 1 = a0) (h0 : a0 ≤ 568) : a1 ≤ 4000 := (far2 (Nat.le_of_eq h1) h0 (by simp +arith only))
end Mine
open Mine Mine.Z
local macro_rules | `(tactic| walk_at $s:str) => `(tactic| k_extra $s)
local macro_rules | `(tactic| k_all) => `(tactic| k_extra "k_all")
local macro_rules | `(tactic| k_in) => `(tactic| k_extra "k_in")
local macro_rules | `(tactic| k_inst) => `(tactic| k_extra "k_inst")
local macro_rules | `(tactic| k_mem) => `(tactic| k_extra "k_mem")
local macro_rules | `(tactic| k_ne) => `(tactic| k_extra "k_ne")
local macro_rules | `(tactic| k_room) => `(tactic| k_extra "k_room")
local macro_rules | `(tactic| ktr_room) => `(tactic| k_extra "ktr_room")
local macro_rules | `(tactic| ktr_units) => `(tactic| k_extra "ktr_units")
local macro_rules | `(tactic| omega) => `(tactic| k_extra "omega")
set_option hygiene false in
open Lean in
local macro_rules
  | `(tactic| k_fold) => `(tactic| first | k_extra "fold" | k_extra "eps")
  | `(tactic| k_unfold) => `(tactic| k_extra "unfold")
  | `(tactic| intro $xs:term*) => introM xs.toList
  | `(tactic| obtain ⟨$ps,*⟩ := $h:term) => obtainM ps.getElems h
namespace Mine
theorem regU : True := by
  k_with "bd0" => first | (first | with_reducible exact bd_lit _ | ((with_reducible apply Nat.add_le_add) <;> k_extra "bd0") | ((with_reducible apply Nat.mul_le_mul) <;> k_extra "bd0") | with_reducible exact bd_h (by with_reducible assumption) | with_reducible exact bd_hl (by with_reducible assumption) | with_reducible exact bd_he (by with_reducible assumption) | with_reducible exact bd_hs (by with_reducible assumption) | with_reducible exact bd_ha (by with_reducible assumption) | with_reducible exact bd_hb (by with_reducible assumption)) | fail
  k_with "bd1" => first | (first | with_reducible exact bd_lit _ | ((with_reducible apply Nat.add_le_add) <;> k_extra "bd1") | ((with_reducible apply Nat.mul_le_mul) <;> k_extra "bd1") | with_reducible exact bd_h (by with_reducible assumption) | with_reducible exact bd_hl (by with_reducible assumption) | ((with_reducible apply bd_te); (with_reducible assumption); k_extra "bd0") | ((with_reducible apply Nat.le_trans); (with_reducible assumption); k_extra "bd0") | with_reducible exact bd_he (by with_reducible assumption) | with_reducible exact bd_hs (by with_reducible assumption) | with_reducible exact bd_ha (by with_reducible assumption) | with_reducible exact bd_hb (by with_reducible assumption) | ((with_reducible apply bd_min); k_extra "bd0") | ((with_reducible apply bd_sub); k_extra "bd0")) | fail
  k_with "bd2" => first | (first | with_reducible exact bd_lit _ | ((with_reducible apply Nat.add_le_add) <;> k_extra "bd2") | ((with_reducible apply Nat.mul_le_mul) <;> k_extra "bd2") | with_reducible exact bd_h (by with_reducible assumption) | with_reducible exact bd_hl (by with_reducible assumption) | ((with_reducible apply bd_te); (with_reducible assumption); k_extra "bd1") | ((with_reducible apply Nat.le_trans); (with_reducible assumption); k_extra "bd1") | with_reducible exact bd_he (by with_reducible assumption) | with_reducible exact bd_hs (by with_reducible assumption) | with_reducible exact bd_ha (by with_reducible assumption) | with_reducible exact bd_hb (by with_reducible assumption) | ((with_reducible apply bd_min); k_extra "bd1") | ((with_reducible apply bd_sub); k_extra "bd1")) | fail
  k_with "bd3" => first | (first | with_reducible exact bd_lit _ | ((with_reducible apply Nat.add_le_add) <;> k_extra "bd3") | ((with_reducible apply Nat.mul_le_mul) <;> k_extra "bd3") | with_reducible exact bd_h (by with_reducible assumption) | with_reducible exact bd_hl (by with_reducible assumption) | ((with_reducible apply bd_te); (with_reducible assumption); k_extra "bd2") | ((with_reducible apply Nat.le_trans); (with_reducible assumption); k_extra "bd2") | with_reducible exact bd_he (by with_reducible assumption) | with_reducible exact bd_hs (by with_reducible assumption) | with_reducible exact bd_ha (by with_reducible assumption) | with_reducible exact bd_hb (by with_reducible assumption) | ((with_reducible apply bd_min); k_extra "bd2") | ((with_reducible apply bd_sub); k_extra "bd2")) | fail
  k_with "lb" => first | (first | with_reducible exact bd_lit _ | ((with_reducible apply Nat.add_le_add) <;> k_extra "lb") | ((with_reducible apply Nat.mul_le_mul) <;> k_extra "lb") | exact Nat.zero_le _) | fail
  k_with "bx" => first | (first | ((with_reducible apply bx_add); k_extra "bx"; k_extra "bd1") | with_reducible exact bx_base _) | fail
  k_with "ubl" => first | (first | with_reducible assumption | with_reducible_and_instances exact Nat.le_of_ble_eq_true (Eq.refl true) | ((with_reducible show List.length _ ≤ _); exact Nat.le_of_ble_eq_true (Eq.refl true)) | ((with_reducible show Str.length _ ≤ _); exact Nat.le_of_ble_eq_true (by decide +kernel)) | with_reducible exact Nat.le_refl _ | with_reducible exact ub_one | ((with_reducible refine rl_2 (by with_reducible assumption) ?_); exact Eq.refl true) | ((with_reducible apply ub_end); k_extra "bd3"; exact Eq.refl true)) | fail
  k_with "ubt" => first | (first | with_reducible assumption | with_reducible_and_instances exact Nat.le_of_ble_eq_true (Eq.refl true) | with_reducible exact rm_0 (by with_reducible assumption) | ((with_reducible refine rm_2 (by with_reducible assumption) ?_); exact Eq.refl true) | ((with_reducible refine rm_1 (by with_reducible assumption) ?_); exact Eq.refl true) | ((with_reducible refine rm_d (by with_reducible assumption) (by with_reducible assumption) ?_); exact Eq.refl true) | ((with_reducible refine un_d (by with_reducible assumption) (by with_reducible assumption) ?_); exact Eq.refl true) | ((with_reducible refine rm_f (by with_reducible assumption) ?_); exact Eq.refl true) | ((with_reducible refine un_s (by with_reducible assumption) ?_); exact Eq.refl true) | ((with_reducible refine rm_s (by with_reducible assumption) ?_); exact Eq.refl true) | ((with_reducible apply rm_4); (with_reducible assumption); k_extra "lb"; exact Eq.refl true) | ((with_reducible apply rm_3); (with_reducible assumption); k_extra "lb"; exact Eq.refl true) | ((with_reducible apply ub_lt); k_extra "bd3"; exact Eq.refl true) | ((with_reducible apply rm_end); k_extra "bx"; (with_reducible assumption); exact Eq.refl true)) | fail
  k_with "ubn" => first | (first | with_reducible assumption | with_reducible exact Nat.ne_of_gt (by with_reducible assumption) | with_reducible exact Nat.ne_of_lt (by with_reducible assumption) | with_reducible exact ne_p1 (by with_reducible assumption) | with_reducible exact ne_p2 (by with_reducible assumption) | with_reducible exact ne_p3 (by with_reducible assumption) | with_reducible exact ne_p4 (by with_reducible assumption) | with_reducible exact ne_p5 (by with_reducible assumption)) | fail
  k_with "ub" => first | (focus (first | ((with_reducible show @LE.le Nat _ _ _); k_extra "ubl") | ((with_reducible show @LT.lt Nat _ _ _); k_extra "ubt") | ((with_reducible show @Ne Nat _ _); k_extra "ubn") | with_reducible assumption | with_reducible exact int2_or (by with_reducible assumption) (by with_reducible assumption) | with_reducible exact int3_or (by with_reducible assumption) (by with_reducible assumption) | with_reducible exact ilt_h (by with_reducible assumption) (by decide))) | fail
  k_with "ne" => first | (first | exact inferInstance | exact ne_world | exact ne_around | exact ne_shared | exact ne_obj | exact ne_itm | exact ne_tm | exact ne_pp | exact ne_res | exact ne_pydata | exact ne_wdata | exact ne_params) | fail
  k_with "E0" => first | (focus (fail_if_success (fail_if_success (with_reducible show ∀ _ : (_ : Prop), _)))) | fail
  k_with "E1" => first | (refine no_implicit_lambda% (eps1 (by k_extra "ne") ?_)) | fail
  k_with "E2" => first | (refine no_implicit_lambda% (eps2 (by k_extra "ne") (by k_extra "ne") ?_)) | fail
  k_with "E3" => first | (refine no_implicit_lambda% (eps3 (by k_extra "ne") (by k_extra "ne") (by k_extra "ne") ?_)) | fail
  k_with "E4" => first | (refine no_implicit_lambda% (eps4 (by k_extra "ne") (by k_extra "ne") (by k_extra "ne") (by k_extra "ne") ?_)) | fail
  k_with "E5" => first | (refine no_implicit_lambda% (eps5 (by k_extra "ne") (by k_extra "ne") (by k_extra "ne") (by k_extra "ne") (by k_extra "ne") ?_)) | fail
  k_with "E6" => first | (refine no_implicit_lambda% (eps6 (by k_extra "ne") (by k_extra "ne") (by k_extra "ne") (by k_extra "ne") (by k_extra "ne") (by k_extra "ne") ?_)) | fail
  k_with "E7" => first | (refine no_implicit_lambda% (eps7 (by k_extra "ne") (by k_extra "ne") (by k_extra "ne") (by k_extra "ne") (by k_extra "ne") (by k_extra "ne") (by k_extra "ne") ?_)) | fail
  k_with "E8" => first | (refine no_implicit_lambda% (eps8 (by k_extra "ne") (by k_extra "ne") (by k_extra "ne") (by k_extra "ne") (by k_extra "ne") (by k_extra "ne") (by k_extra "ne") (by k_extra "ne") ?_)) | fail
  k_with "subscriptTail Name Constant ref int" => first | (k_here; k_dflt (refine' item_tupleT ?zt9 ?za9 ?zb9 ?zc9 ?zd9 ?_; (case zt9 => exact News.isTup (by k_asm) (by k_mem)); (case za9 => decide); (case zb9 => decide); (case zc9 => rfl); (case zd9 => rfl); k_whole)) | fail
  trivial
end Mine
namespace Mine
example : True := by
  k_with "omega" => first | ((fail_if_success have hzz := eom1); (first | k_extra "ub" | (simp +arith only; done) | k_extra "fk" | omega (config := {}))) | fail
  trivial
end Mine
-- Fw
namespace Mine
abbrev Led := List (Addr × Obj)
noncomputable def Tri (_l : OpenLaw) (K : Params → Frag) (w : World) (mean : ExcName → Option Value) (mg mb : Str → Option Value) (f : Addr) (args : List Value) (rm um : Nat) (news : Led) (Out : Value → Led → Prop) : Prop :=
  ∀ (dp un : Nat) (gd : Option (List Code)) (cn : Str) (cs : Scope) (a : Addr) (ccd : Value) (cl : List (Str × Addr)) (outer : List Env) (A₀ : Around) (base h₀ : Heap) (L : Addr) (m : Str → Option Value) (s : Shared) (Q E : Value → Shared → Prop),
    Below A₀ base outer h₀ → Fr h₀ L s.heap m → (K w.params).In h₀ → News h₀ L s.heap news → Top view (looseW view []) mean mg mb h₀ → cs.kind = .function → dp + rm < recursionLimit → un + um < cLine →
    (∀ r news' h' tk', Fr h₀ L h' m → News h₀ L h' news' → Out r news' → Q r { s with heap := h', toks := tk' }) →
    wpAny (model PySem.Challenge.rw_pq0122_01.row.prog w) (ktrTop dp un gd cn cs L a ccd cl outer) (call (.ref f) args) Q E s
theorem News.sub {h₀ h : Heap} {L : Addr} {news news' : Led} (N : News h₀ L h news) (k : ∀ p ∈ news', p ∈ news) : News h₀ L h news' := fun p hp => N p (k p hp)
section
variable {prog : Program} {w : World} {A : Around} {E : Value → Shared → Prop} {s : Shared} {h₀ : Heap} {L : Addr} {news : Led}
theorem m_len {l : Addr} {items : Array Value} {n : Nat} {Q : Value → Shared → Prop} (N : News h₀ L s.heap news) (hm : (l, listOf items n) ∈ news) {k : Nat} (hk : items.size = k) (hz : k ≤ 16384)
    (h : Q (.int (k : Nat) (s.toks + 1)) { s with toks := s.toks + 1 + 1 }) : wpAny (model prog w) A (call (.builtin "len") [.ref l]) Q E s := by
  subst hk
  exact len_list (N.isList hm) (by omega) h
theorem m_lenI {l : Addr} {vs : List Value} {ns : List Int} {n : Nat} {Q : Value → Shared → Prop} (N : News h₀ L s.heap news) (hm : (l, listOf vs.toArray n) ∈ news) (hi : IntsAre vs ns) (hz : ns.length ≤ 16384)
    (h : Q (.int (ns.length : Nat) (s.toks + 1)) { s with toks := s.toks + 1 + 1 }) : wpAny (model prog w) A (call (.builtin "len") [.ref l]) Q E s :=
  m_len N hm (by rw [List.size_toArray, hi.length]) hz h
theorem m_item {value slice : Expr} {l : Addr} {items : Array Value} {n : Nat} {k : Int} {u : Tok} {v : Value} {Q : Value → Shared → Prop} (N : News h₀ L s.heap news) (hm : (l, listOf items n) ∈ news)
    (h0 : 0 ≤ k) (hfit : k < 2 ^ 63) (hx : items[k.toNat]? = some v) (h : Q v s)
    (hs : subscripted slice false (.ref l) (.int k u) = operate [.ref l, .int k u] (getItem (.ref l) (.int k u))) (hg : ∀ r, letTemporaryGo value (.ref l) r = pure ()) :
    wpAny (model prog w) A (subscriptTail value slice (.ref l) (.int k u)) Q E s :=
  item_list (N.isList hm) h0 hfit hx h hs hg
theorem m_itemI {value slice : Expr} {l : Addr} {vs : List Value} {ns : List Int} {n : Nat} {k : Int} {u : Tok} {Q : Value → Shared → Prop} (N : News h₀ L s.heap news) (hm : (l, listOf vs.toArray n) ∈ news) (hi : IntsAre vs ns)
    (h0 : 0 ≤ k) (h1 : k < ns.length) (hfit : k < 2 ^ 63) (h : ∀ t, Q (.int (ns.getD k.toNat 0) t) s)
    (hs : subscripted slice false (.ref l) (.int k u) = operate [.ref l, .int k u] (getItem (.ref l) (.int k u))) (hg : ∀ r, letTemporaryGo value (.ref l) r = pure ()) :
    wpAny (model prog w) A (subscriptTail value slice (.ref l) (.int k u)) Q E s :=
  item_list_ints (N.isList hm) hi h0 h1 hfit h hs hg
end
abbrev LAW := PySem.Challenge.rw_pq0122_01
noncomputable def PenD (w : World) (o : Obj) (R : Addr) (k : Nat) : Prop := ∃ tk, Obj.IsDictOf (strKind PySem.Challenge.rw_pq0122_01.row.prog w) o [("row", .ref R), ("at", .int k tk)]
noncomputable def drawAt (row : List Int) (k : Nat) (many : Int) : Int := if k < row.length then (row.getD k 0).fmod many else ((7 * (k : Int) * k + 3 * k + 11 * row.length + 1).fmod 53).fmod many
end Mine
-- Eps
namespace Mine
noncomputable def e1 {α : Type} (n : Nonempty α) (P : α → Prop) : α := @Classical.epsilon α n fun x => ¬ P x
noncomputable def exc {α : Type} (n : Nonempty α) (P : α → Prop) : α := @Classical.epsilon α n P
theorem eps1 {α : Type} (n : Nonempty α) {P : α → Prop} (h : P (e1 n P)) : ∀ x, P x := fun x => Classical.byContradiction fun hx => (@Classical.epsilon_spec_aux α n (fun x => ¬ P x) ⟨x, hx⟩ : ¬ P (e1 n P)) h
theorem ex_take {α : Type} (n : Nonempty α) {P : α → Prop} {G : Prop} (h : ∃ x, P x) (k : P (exc n P) → G) : G := k (@Classical.epsilon_spec_aux α n P h)
theorem and_take {a b G : Prop} (h : a ∧ b) (k : a → b → G) : G := k h.1 h.2
theorem ne_pair {α β : Type} (a : Nonempty α) (b : Nonempty β) : Nonempty (α × β) := a.elim fun x => b.elim fun y => ⟨(x, y)⟩
noncomputable def e2 {α : Type} {β : Type} (n1 : Nonempty α) (n2 : Nonempty β) (P : α → β → Prop) : α × β := e1 (ne_pair n1 n2) fun t : α × β => P t.1 t.2
theorem eps2 {α : Type} {β : Type} (n1 : Nonempty α) (n2 : Nonempty β) {P : α → β → Prop} (h : P (e2 n1 n2 P).1 (e2 n1 n2 P).2) : ∀ x1 x2, P x1 x2 := fun x1 x2 => eps1 (ne_pair n1 n2) (P := fun t : α × β => P t.1 t.2) h (x1, x2)
noncomputable def e3 {α : Type} {β : Type} {γ : Type} (n1 : Nonempty α) (n2 : Nonempty β) (n3 : Nonempty γ) (P : α → β → γ → Prop) : α × β × γ := e1 (ne_pair n1 (ne_pair n2 n3)) fun t : α × β × γ => P t.1 t.2.1 t.2.2
theorem eps3 {α : Type} {β : Type} {γ : Type} (n1 : Nonempty α) (n2 : Nonempty β) (n3 : Nonempty γ) {P : α → β → γ → Prop} (h : P (e3 n1 n2 n3 P).1 (e3 n1 n2 n3 P).2.1 (e3 n1 n2 n3 P).2.2) : ∀ x1 x2 x3, P x1 x2 x3 := fun x1 x2 x3 => eps1 (ne_pair n1 (ne_pair n2 n3)) (P := fun t : α × β × γ => P t.1 t.2.1 t.2.2) h (x1, x2, x3)
noncomputable def e4 {α : Type} {β : Type} {γ : Type} {δ : Type} (n1 : Nonempty α) (n2 : Nonempty β) (n3 : Nonempty γ) (n4 : Nonempty δ) (P : α → β → γ → δ → Prop) : α × β × γ × δ := e1 (ne_pair n1 (ne_pair n2 (ne_pair n3 n4))) fun t : α × β × γ × δ => P t.1 t.2.1 t.2.2.1 t.2.2.2
theorem eps4 {α : Type} {β : Type} {γ : Type} {δ : Type} (n1 : Nonempty α) (n2 : Nonempty β) (n3 : Nonempty γ) (n4 : Nonempty δ) {P : α → β → γ → δ → Prop} (h : P (e4 n1 n2 n3 n4 P).1 (e4 n1 n2 n3 n4 P).2.1 (e4 n1 n2 n3 n4 P).2.2.1 (e4 n1 n2 n3 n4 P).2.2.2) : ∀ x1 x2 x3 x4, P x1 x2 x3 x4 := fun x1 x2 x3 x4 => eps1 (ne_pair n1 (ne_pair n2 (ne_pair n3 n4))) (P := fun t : α × β × γ × δ => P t.1 t.2.1 t.2.2.1 t.2.2.2) h (x1, x2, x3, x4)
noncomputable def e5 {α : Type} {β : Type} {γ : Type} {δ : Type} {ε : Type} (n1 : Nonempty α) (n2 : Nonempty β) (n3 : Nonempty γ) (n4 : Nonempty δ) (n5 : Nonempty ε) (P : α → β → γ → δ → ε → Prop) : α × β × γ × δ × ε := e1 (ne_pair n1 (ne_pair n2 (ne_pair n3 (ne_pair n4 n5)))) fun t : α × β × γ × δ × ε => P t.1 t.2.1 t.2.2.1 t.2.2.2.1 t.2.2.2.2
theorem eps5 {α : Type} {β : Type} {γ : Type} {δ : Type} {ε : Type} (n1 : Nonempty α) (n2 : Nonempty β) (n3 : Nonempty γ) (n4 : Nonempty δ) (n5 : Nonempty ε) {P : α → β → γ → δ → ε → Prop} (h : P (e5 n1 n2 n3 n4 n5 P).1 (e5 n1 n2 n3 n4 n5 P).2.1 (e5 n1 n2 n3 n4 n5 P).2.2.1 (e5 n1 n2 n3 n4 n5 P).2.2.2.1 (e5 n1 n2 n3 n4 n5 P).2.2.2.2) : ∀ x1 x2 x3 x4 x5, P x1 x2 x3 x4 x5 := fun x1 x2 x3 x4 x5 => eps1 (ne_pair n1 (ne_pair n2 (ne_pair n3 (ne_pair n4 n5)))) (P := fun t : α × β × γ × δ × ε => P t.1 t.2.1 t.2.2.1 t.2.2.2.1 t.2.2.2.2) h (x1, x2, x3, x4, x5)
noncomputable def e6 {α : Type} {β : Type} {γ : Type} {δ : Type} {ε : Type} {ζ : Type} (n1 : Nonempty α) (n2 : Nonempty β) (n3 : Nonempty γ) (n4 : Nonempty δ) (n5 : Nonempty ε) (n6 : Nonempty ζ) (P : α → β → γ → δ → ε → ζ → Prop) : α × β × γ × δ × ε × ζ := e1 (ne_pair n1 (ne_pair n2 (ne_pair n3 (ne_pair n4 (ne_pair n5 n6))))) fun t : α × β × γ × δ × ε × ζ => P t.1 t.2.1 t.2.2.1 t.2.2.2.1 t.2.2.2.2.1 t.2.2.2.2.2
theorem eps6 {α : Type} {β : Type} {γ : Type} {δ : Type} {ε : Type} {ζ : Type} (n1 : Nonempty α) (n2 : Nonempty β) (n3 : Nonempty γ) (n4 : Nonempty δ) (n5 : Nonempty ε) (n6 : Nonempty ζ) {P : α → β → γ → δ → ε → ζ → Prop} (h : P (e6 n1 n2 n3 n4 n5 n6 P).1 (e6 n1 n2 n3 n4 n5 n6 P).2.1 (e6 n1 n2 n3 n4 n5 n6 P).2.2.1 (e6 n1 n2 n3 n4 n5 n6 P).2.2.2.1 (e6 n1 n2 n3 n4 n5 n6 P).2.2.2.2.1 (e6 n1 n2 n3 n4 n5 n6 P).2.2.2.2.2) : ∀ x1 x2 x3 x4 x5 x6, P x1 x2 x3 x4 x5 x6 := fun x1 x2 x3 x4 x5 x6 => eps1 (ne_pair n1 (ne_pair n2 (ne_pair n3 (ne_pair n4 (ne_pair n5 n6))))) (P := fun t : α × β × γ × δ × ε × ζ => P t.1 t.2.1 t.2.2.1 t.2.2.2.1 t.2.2.2.2.1 t.2.2.2.2.2) h (x1, x2, x3, x4, x5, x6)
noncomputable def e7 {α : Type} {β : Type} {γ : Type} {δ : Type} {ε : Type} {ζ : Type} {η : Type} (n1 : Nonempty α) (n2 : Nonempty β) (n3 : Nonempty γ) (n4 : Nonempty δ) (n5 : Nonempty ε) (n6 : Nonempty ζ) (n7 : Nonempty η) (P : α → β → γ → δ → ε → ζ → η → Prop) : α × β × γ × δ × ε × ζ × η := e1 (ne_pair n1 (ne_pair n2 (ne_pair n3 (ne_pair n4 (ne_pair n5 (ne_pair n6 n7)))))) fun t : α × β × γ × δ × ε × ζ × η => P t.1 t.2.1 t.2.2.1 t.2.2.2.1 t.2.2.2.2.1 t.2.2.2.2.2.1 t.2.2.2.2.2.2
theorem eps7 {α : Type} {β : Type} {γ : Type} {δ : Type} {ε : Type} {ζ : Type} {η : Type} (n1 : Nonempty α) (n2 : Nonempty β) (n3 : Nonempty γ) (n4 : Nonempty δ) (n5 : Nonempty ε) (n6 : Nonempty ζ) (n7 : Nonempty η) {P : α → β → γ → δ → ε → ζ → η → Prop} (h : P (e7 n1 n2 n3 n4 n5 n6 n7 P).1 (e7 n1 n2 n3 n4 n5 n6 n7 P).2.1 (e7 n1 n2 n3 n4 n5 n6 n7 P).2.2.1 (e7 n1 n2 n3 n4 n5 n6 n7 P).2.2.2.1 (e7 n1 n2 n3 n4 n5 n6 n7 P).2.2.2.2.1 (e7 n1 n2 n3 n4 n5 n6 n7 P).2.2.2.2.2.1 (e7 n1 n2 n3 n4 n5 n6 n7 P).2.2.2.2.2.2) : ∀ x1 x2 x3 x4 x5 x6 x7, P x1 x2 x3 x4 x5 x6 x7 := fun x1 x2 x3 x4 x5 x6 x7 => eps1 (ne_pair n1 (ne_pair n2 (ne_pair n3 (ne_pair n4 (ne_pair n5 (ne_pair n6 n7)))))) (P := fun t : α × β × γ × δ × ε × ζ × η => P t.1 t.2.1 t.2.2.1 t.2.2.2.1 t.2.2.2.2.1 t.2.2.2.2.2.1 t.2.2.2.2.2.2) h (x1, x2, x3, x4, x5, x6, x7)
noncomputable def e8 {α : Type} {β : Type} {γ : Type} {δ : Type} {ε : Type} {ζ : Type} {η : Type} {θ : Type} (n1 : Nonempty α) (n2 : Nonempty β) (n3 : Nonempty γ) (n4 : Nonempty δ) (n5 : Nonempty ε) (n6 : Nonempty ζ) (n7 : Nonempty η) (n8 : Nonempty θ) (P : α → β → γ → δ → ε → ζ → η → θ → Prop) : α × β × γ × δ × ε × ζ × η × θ := e1 (ne_pair n1 (ne_pair n2 (ne_pair n3 (ne_pair n4 (ne_pair n5 (ne_pair n6 (ne_pair n7 n8))))))) fun t : α × β × γ × δ × ε × ζ × η × θ => P t.1 t.2.1 t.2.2.1 t.2.2.2.1 t.2.2.2.2.1 t.2.2.2.2.2.1 t.2.2.2.2.2.2.1 t.2.2.2.2.2.2.2
theorem eps8 {α : Type} {β : Type} {γ : Type} {δ : Type} {ε : Type} {ζ : Type} {η : Type} {θ : Type} (n1 : Nonempty α) (n2 : Nonempty β) (n3 : Nonempty γ) (n4 : Nonempty δ) (n5 : Nonempty ε) (n6 : Nonempty ζ) (n7 : Nonempty η) (n8 : Nonempty θ) {P : α → β → γ → δ → ε → ζ → η → θ → Prop} (h : P (e8 n1 n2 n3 n4 n5 n6 n7 n8 P).1 (e8 n1 n2 n3 n4 n5 n6 n7 n8 P).2.1 (e8 n1 n2 n3 n4 n5 n6 n7 n8 P).2.2.1 (e8 n1 n2 n3 n4 n5 n6 n7 n8 P).2.2.2.1 (e8 n1 n2 n3 n4 n5 n6 n7 n8 P).2.2.2.2.1 (e8 n1 n2 n3 n4 n5 n6 n7 n8 P).2.2.2.2.2.1 (e8 n1 n2 n3 n4 n5 n6 n7 n8 P).2.2.2.2.2.2.1 (e8 n1 n2 n3 n4 n5 n6 n7 n8 P).2.2.2.2.2.2.2) : ∀ x1 x2 x3 x4 x5 x6 x7 x8, P x1 x2 x3 x4 x5 x6 x7 x8 := fun x1 x2 x3 x4 x5 x6 x7 x8 => eps1 (ne_pair n1 (ne_pair n2 (ne_pair n3 (ne_pair n4 (ne_pair n5 (ne_pair n6 (ne_pair n7 n8))))))) (P := fun t : α × β × γ × δ × ε × ζ × η × θ => P t.1 t.2.1 t.2.2.1 t.2.2.2.1 t.2.2.2.2.1 t.2.2.2.2.2.1 t.2.2.2.2.2.2.1 t.2.2.2.2.2.2.2) h (x1, x2, x3, x4, x5, x6, x7, x8)
theorem fold1 {α : Type} {M : Model} {A : Around} {t : Sem α} {Q : α → Shared → Prop} {E : Value → Shared → Prop} {s : Shared} (h : ∀ q, Q = q → wpAny M A t q E s) : wpAny M A t Q E s := h Q rfl
theorem fold_test {α : Type} {M : Model} {A : Around} {t : Sem α} {q₀ q : α → Shared → Prop} {E : Value → Shared → Prop} {s : Shared} (_ : q₀ = q) (k : wpAny M A t q E s) : wpAny M A t q E s := k
theorem fold_use {α β : Type} {Q q : α → β → Prop} (h : Q = q) {a : α} {b : β} (k : Q a b) : q a b := h ▸ k
theorem ne_world : Nonempty World := ⟨aWorld 0⟩
theorem ne_around : Nonempty Around := ⟨callerA⟩
theorem ne_shared : Nonempty Shared := ⟨(start PySem.Challenge.pw_pq0122_01).1⟩
theorem ne_obj : Nonempty Obj := ⟨listOf #[] 0⟩
theorem ne_itm : Nonempty PySem.W.Itm := ⟨.val .none⟩
theorem ne_pydata : Nonempty PyData := ⟨PySem.PyData.none⟩
theorem ne_wdata : Nonempty PySem.W.WData := ⟨PySem.W.WData.none⟩
theorem ne_params : Nonempty Params := ne_world.elim fun w => ⟨w.params⟩
end Mine
-- Draw
namespace Mine
example : True := by
  k_with "fk" => first | ((fail_if_success have hzz := eDraw1); (with_reducible (first | exact fk1 (by assumption) | exact fk2 (by assumption) | exact fk3 (by assumption)))) | fail
  trivial
example : True := by
  k_with "k_all" => first | ((fail_if_success have hzz := eDraw1); (assumption)) | fail
  k_with "k_mem" => first | ((fail_if_success have hzz := eDraw1); (assumption)) | fail
  k_with "call builtin:len" => first | ((fail_if_success have hzz := eDraw1); (k_here; (with_reducible show wpAny _ _ (call (Value.builtin "len") [Value.ref _]) _ _ _); k_dflt (refine m_lenI (by k_asm) (by k_mem) (by assumption) (by omega) ?_))) | fail
  k_with "subscriptTail Name Name ref int" => first | ((fail_if_success have hzz := eDraw1); ((with_reducible show wpAny _ _ (subscriptTail _ _ (Value.ref _) (Value.int _ _)) _ _ _); k_dflt (refine m_itemI (by k_asm) (by k_mem) (by assumption) (by omega) (by omega) (by omega) ?_ (by with_unfolding_all rfl) (by k_extra "c23")); intro _)) | fail
  trivial
namespace Z
example : True := by
  k_with "eps" => first | ((fail_if_success have hzz := zDraw4); skip) | fail
  trivial
set_option Elab.async true in
set_option maxHeartbeats 1000000 in
theorem draw_tri : ∀ (w : World) (mean : ExcName → Option Value) (mg : Str → Option Value) (mb : Str → Option Value) (P R : Addr) (row : List Int) (vs : List Value) (n : Nat) (k : Nat) (o : Obj) (many : Int) (tkm : Tok) (news : Led) (hm : 2 ≤ many ∧ many ≤ 6) (hk : k < 100000) (hl : row.length ≤ 60) (hP : PenD w o R k) (hne : ∀ p ∈ news, p.1 ≠ P) (hR : (R, listOf vs.toArray n) ∈ news) (hI : IntsAre vs row), Tri LAW hd.heap_39 w mean mg mb 291 [.ref P, .int many tkm] 2 30 ((P, o) :: news)
      (fun r news' => ∃ tk o', r = .int (drawAt row k many) tk ∧ news' = (P, o') :: news ∧ PenD w o' R (k + 1)) := by
  intro w mean mg mb P R row vs n k o many tkm news hm hk hl hP hne hR hI
  k_fill
  w_top off
  unfold Tri
  obtain ⟨tkA, hP⟩ := hP
  k_extra "c14"
  refine wpAny_call ?_
  k_dflt ktr_enter
  k_steps
  all_goals rename_i kF kN _ _
  all_goals rename Obj.IsDictOf _ _ _ => hd'
  all_goals refine hret _ ((P, _) :: news) _ _ kF (News.sub kN fun p hp => List.mem_cons_of_mem _ hp) ⟨_, _, congrArg (fun z => Value.int z _) ?_, rfl, _, hd'⟩
  · rename _ < _ => hlt
    unfold drawAt
    rw [if_pos (by omega), Int.toNat_natCast]
  · rename ¬ _ => hlt
    unfold drawAt
    rw [if_neg (by omega)]
in #guard_msgs (drop info, drop warning) in open Nat
theorem zDraw4 : True := trivial
end Z
theorem eDraw1 : True := trivial
end Mine
-- Fw2
namespace Mine
example : True := by
  k_with "fk" => first | ((fail_if_success have hzz := eFw21); (with_reducible (first | exact fk4 (by assumption) | exact fk5 (by assumption) (by assumption) (by assumption)))) | fail
  trivial
inductive Pick (P : Addr) (o : Obj) : Led → Led → Prop
  | here {l : Led} : Pick P o ((P, o) :: l) l
  | there {q : Addr × Obj} {l l' : Led} : Pick P o l l' → Pick P o (q :: l) (q :: l')
  | app {t l l' : Led} : Pick P o l l' → Pick P o (t ++ l) (t ++ l')
theorem Pick.sub {P : Addr} {o : Obj} {l l' : Led} (h : Pick P o l l') : ∀ p ∈ (P, o) :: l', p ∈ l := by
  induction h with
  | here => exact fun _ h => h
  | there _ ih =>
    intro p hp
    k_extra "c22"
    · exact .tail _ (ih _ (.head _))
    · rcases List.mem_cons.mp hp with rfl | hp
      · exact .head _
      · exact .tail _ (ih _ (.tail _ hp))
  | app _ ih =>
    intro p hp
    k_extra "c22"
    · exact List.mem_append.mpr (.inr (ih _ (.head _)))
    · rcases List.mem_append.mp hp with hp | hp
      · exact List.mem_append.mpr (.inl hp)
      · exact List.mem_append.mpr (.inr (ih _ (.tail _ hp)))
theorem drawAt_lo {row : List Int} {k : Nat} {m : Int} (h : 0 < m) : 0 ≤ drawAt row k m := by
  unfold drawAt; split <;> exact Int.fmod_nonneg_of_pos _ h
theorem drawAt_hi {row : List Int} {k : Nat} {m : Int} (h : 0 < m) : drawAt row k m < m := by
  unfold drawAt; split <;> exact Int.fmod_lt_of_pos _ h
set_option Elab.async true in
theorem draw_use {w : World} {mean : ExcName → Option Value} {mg mb : Str → Option Value} {dp un : Nat} {gd : Option (List Code)} {cn : Str} {cs : Scope} {a : Addr} {ccd : Value} {cl : List (Str × Addr)} {outer : List Env} {A₀ : Around} {base h₀ : Heap} {L : Addr} {m : Str → Option Value} {s : Shared} {Q E : Value → Shared → Prop}
    {P R : Addr} {row : List Int} {vs : List Value} {n k : Nat} {o : Obj} {many : Int} {tkm : Tok} {all rest : Led}
    (B : Below A₀ base outer h₀) (F : Fr h₀ L s.heap m) (X : (hd.heap_39 w.params).In h₀) (N : News h₀ L s.heap all) (T : Top view (looseW view []) mean mg mb h₀) (hk : cs.kind = .function)
    (pk : Pick P o all rest) (hP : PenD w o R k) (hne : ∀ p ∈ rest, p.1 ≠ P) (hR : (R, listOf vs.toArray n) ∈ rest) (hI : IntsAre vs row) (hl : row.length ≤ 60) (hm : 2 ≤ many ∧ many ≤ 6) (hkk : k < 100000)
    (hd : dp + 2 < recursionLimit) (hu : un + 30 < cLine)
    (h : ∀ v tk o' h' tk', Fr h₀ L h' m → News h₀ L h' ((P, o') :: rest) → PenD w o' R (k + 1) → drawAt row k many = v → 0 ≤ v → v < many → (∀ p ∈ rest, p.1 ≠ P) → (R, listOf vs.toArray n) ∈ rest → Q (.int v tk) { s with heap := h', toks := tk' }) :
    wpAny (model PySem.Challenge.rw_pq0122_01.row.prog w) (ktrTop dp un gd cn cs L a ccd cl outer) (call (.ref 291) [.ref P, .int many tkm]) Q E s := by
  refine draw_tri w mean mg mb P R row vs n k o many tkm rest hm hkk hl hP hne hR hI dp un gd cn cs a ccd cl outer A₀ base h₀ L m s Q E B F X (News.sub N pk.sub) T hk hd hu ?_
  rintro r news' h' tk' F' N' ⟨tk, o', rfl, rfl, hP'⟩
  exact h _ tk o' h' tk' F' N' hP' rfl (drawAt_lo (by omega)) (drawAt_hi (by omega)) hne hR
in #guard_msgs (drop info, drop warning) in open Nat
section
variable {prog : Program} {w : World} {A : Around} {E : Value → Shared → Prop} {s : Shared} {h₀ : Heap} {L : Addr} {news : Led}
theorem m_pickS {value slice : Expr} {l : Addr} {vs : List Value} {ss : List Str} {n : Nat} {k : Int} {u : Tok} (d : Str) {Q : Value → Shared → Prop} (N : News h₀ L s.heap news) (hm : (l, listOf vs.toArray n) ∈ news) (hi : StrsAre vs ss)
    (h0 : 0 ≤ k) (h1 : k < ss.length) (hfit : k < 2 ^ 63) (h : ∀ t, Q (.str (ss.getD k.toNat d) t) s)
    (hs : subscripted slice false (.ref l) (.int k u) = operate [.ref l, .int k u] (getItem (.ref l) (.int k u))) (hg : ∀ r, letTemporaryGo value (.ref l) r = pure ()) :
    wpAny (model prog w) A (subscriptTail value slice (.ref l) (.int k u)) Q E s := by
  have hlt : k.toNat < ss.length := by omega
  obtain ⟨t, ht⟩ := hi.get k.toNat (ss.getD k.toNat d) (by rw [List.getD_eq_getElem?_getD, List.getElem?_eq_getElem hlt]; rfl)
  exact item_list (N.isList hm) h0 hfit (by simpa using ht) (h t) hs hg
end
section
variable {prog : Program} {w : World} {A : Around} {E : Value → Shared → Prop} {s : Shared} {h₀ : Heap} {L : Addr} {m : Str → Option Value} {news : Led}
theorem m_addT {t b : Addr} {vs ws : List Value} {n n' : Nat} {Q : Value → Shared → Prop} (F : Fr h₀ L s.heap m) (N : News h₀ L s.heap news) (ht : (t, ({ cls := .type "tuple", data := .seq vs.toArray n } : Obj)) ∈ news) (hb : (b, ({ cls := .type "tuple", data := .seq ws.toArray n' } : Obj)) ∈ news)
    (hv : vs ≠ []) (hw : ws ≠ []) (hsz : vs.length + ws.length ≤ 1000)
    (h : ∀ D h', Fr h₀ L h' m → News h₀ L h' ((D, { cls := .type "tuple", data := .seq (vs ++ ws).toArray }) :: news) → (∀ q ∈ news, q.1 < D) → Q (.ref D) { s with heap := h' }) :
    wpAny (model prog w) A (binaryOp .Add (.ref t) (.ref b)) Q E s :=
  add_tuples F N (N.isTup ht) (N.isTup hb) (fun e => absurd e hv) (fun _ e => absurd e hw) (fun _ _ h' F' N' => h _ h' F' N' fun q hq => Heap.lt_size (N q hq).1) (by rw [sizeLine_eq]; omega)
theorem m_addL {l b : Addr} {vs ws : List Value} {n n' : Nat} {Q : Value → Shared → Prop} (F : Fr h₀ L s.heap m) (N : News h₀ L s.heap news) (hl : (l, ({ cls := .type "list", data := .seq vs.toArray n } : Obj)) ∈ news) (hb : (b, ({ cls := .type "list", data := .seq ws.toArray n' } : Obj)) ∈ news)
    (hsz : vs.length + ws.length ≤ 1000000)
    (h : ∀ D h', Fr h₀ L h' m → News h₀ L h' ((D, listOf (vs ++ ws).toArray 0) :: news) → (∀ q ∈ news, q.1 < D) → Q (.ref D) { s with heap := h' }) :
    wpAny (model prog w) A (binaryOp .Add (.ref l) (.ref b)) Q E s :=
  add_lists (vs := vs) (ws := ws) (hsz := by rw [sizeLine_eq]; omega) F N (N.isList hl) (N.isList hb) (fun h' F' N' => h _ h' F' N' fun q hq => Heap.lt_size (N q hq).1)
end
inductive Tm where
  | leaf (op : Str)
  | one (op : Str) (a : Tm)
  | two (op : Str) (a b : Tm)
theorem ne_tm : Nonempty Tm := ⟨.leaf (Str.ofString "")⟩
noncomputable abbrev tupO (vs : List Value) (n : Nat) : Obj := { cls := .type "tuple", data := .seq vs.toArray n }
inductive IsTm (news : Led) : Value → Tm → Prop
  | leaf {a : Addr} {op : Str} {tk : Tok} {n : Nat} : (a, tupO [.str op tk] n) ∈ news → IsTm news (.ref a) (.leaf op)
  | one {a : Addr} {op : Str} {tk : Tok} {n : Nat} {v : Value} {x : Tm} : (a, tupO [.str op tk, v] n) ∈ news → IsTm news v x → IsTm news (.ref a) (.one op x)
  | two {a : Addr} {op : Str} {tk : Tok} {n : Nat} {v u : Value} {x y : Tm} : (a, tupO [.str op tk, v, u] n) ∈ news → IsTm news v x → IsTm news u y → IsTm news (.ref a) (.two op x y)
theorem IsTm.mono {news news' : Led} {v : Value} {t : Tm} (h : IsTm news v t) (hs : ∀ p ∈ news, p ∈ news') : IsTm news' v t := by
  induction h with
  | leaf hm => exact .leaf (hs _ hm)
  | one hm _ ih => exact .one (hs _ hm) ih
  | two hm _ _ ih1 ih2 => exact .two (hs _ hm) ih1 ih2
noncomputable def leafOps : List Str := ["a", "b2", "->", "?u"]
noncomputable def genT (row : List Int) : Nat → Nat → Tm × Nat
  | 0, k => (.leaf (leafOps.getD (drawAt row k 4).toNat "a"), k + 1)
  | d + 1, k =>
    if drawAt row k 4 < 2 then (.leaf (leafOps.getD (drawAt row (k + 1) 4).toNat "a"), k + 2)
    else if drawAt row k 4 = 2 then let x := genT row d (k + 1); (.one "f" x.1, x.2)
    else let x := genT row d (k + 1); let y := genT row d x.2; (.two "+" x.1 y.1, y.2)
theorem mem_inr {x : Addr × Obj} {t l : Led} (h : List.Mem x l) : List.Mem x (t ++ l) := List.mem_append.mpr (Or.inr h)
noncomputable def Above (old tl : Led) : Prop := ∀ q ∈ old, ∀ p ∈ tl, q.1 ≠ p.1
theorem Above.nil {old : Led} : Above old [] := fun _ _ _ h => nomatch h
theorem Above.cons {old tl : Led} {a : Addr} {x : Obj} (h : ∀ q ∈ old, q.1 ≠ a) (k : Above old tl) : Above old ((a, x) :: tl) := fun q hq p hp => by
  k_extra "c22"
  · exact h q hq
  · exact k q hq p hp
theorem Above.app {old tl tl' : Led} (h : Above old tl) (k : Above old tl') : Above old (tl ++ tl') := fun q hq p hp => (List.mem_append.mp hp).elim (h q hq p) (k q hq p)
theorem Above.sub {old old' tl : Led} (h : Above old' tl) (k : ∀ q ∈ old, ∃ q' ∈ old', q.1 = q'.1) : Above old tl := fun q hq p hp => by
  obtain ⟨q', hq', e⟩ := k q hq
  rw [e]; exact h q' hq' p hp
theorem lt_cons {old : Led} {P a : Addr} {o : Obj} (h : @Ne Nat P a) (k : ∀ q ∈ old, q.1 ≠ a) : ∀ q ∈ (P, o) :: old, q.1 ≠ a := fun q hq => by
  k_extra "c30"
  · exact h
  · exact k q hq
theorem Above.ne {P : Addr} {o : Obj} {old tl : Led} (h : Above ((P, o) :: old) tl) : ∀ p ∈ tl, p.1 ≠ P := fun p hp => (h _ (.head _) p hp).symm
theorem off1_mem {D : Addr} : ∀ {l : Led}, LCg.Off1 D l → ∀ p ∈ l, p.1 ≠ D
  | [], _, _, h => nomatch h
  | _ :: _, x, p, h => by
    k_extra "c131"
    · exact x.1
    · exact off1_mem x.2 p h
theorem Above.sub2 {P : Addr} {o o' : Obj} {news rest tl : Led} (h : Above ((P, o') :: rest) tl) (k : ∀ q ∈ news, q ∈ rest) : Above ((P, o) :: news) tl := fun q hq p hp => by
  k_extra "c30"
  · exact h _ (.head _) p hp
  · exact h q (.tail _ (k q hq)) p hp
theorem all_app {q : Addr × Obj → Prop} {l l' : Led} (h : ∀ p ∈ l, q p) (k : ∀ p ∈ l', q p) : ∀ p ∈ l ++ l', q p := fun p hp => (List.mem_append.mp hp).elim (h p) (k p)
inductive Tail (news : Led) : Led → Led → Prop
  | here : Tail news news []
  | cons {q : Addr × Obj} {rest tl : Led} : Tail news rest tl → Tail news (q :: rest) (q :: tl)
  | app {t rest tl : Led} : Tail news rest tl → Tail news (t ++ rest) (t ++ tl)
theorem Tail.eq {news rest tl : Led} (h : Tail news rest tl) : rest = tl ++ news := by
  induction h with
  | here => rfl
  | cons _ ih => rw [ih]; rfl
  | app _ ih => rw [ih, List.append_assoc]
noncomputable def PenOut (w : World) (P R : Addr) (news : Led) (o : Obj) (k' : Nat) (Rel : Led → Value → Prop) (r : Value) (news' : Led) : Prop :=
  ∃ tl o', news' = (P, o') :: (tl ++ news) ∧ Above ((P, o) :: news) tl ∧ PenD w o' R k' ∧ Rel tl r
theorem pen_end {w : World} {P R : Addr} {news all rest tl : Led} {o o' : Obj} {k' : Nat} {Rel : Led → Value → Prop} {r : Value} {h₀ h : Heap} {L : Addr} (kN : News h₀ L h all) (pk : Pick P o' all rest) (t : Tail news rest tl)
    (ab : Above ((P, o) :: news) tl) (hp : PenD w o' R k') (hr : Rel tl r) : ∃ news', News h₀ L h news' ∧ PenOut w P R news o k' Rel r news' := by
  have e := t.eq
  refine ⟨(P, o') :: rest, News.sub kN pk.sub, tl, o', by rw [e], ab, hp, hr⟩
set_option Elab.async true in
theorem pen_use {w : World} {mean : ExcName → Option Value} {mg mb : Str → Option Value} {dp un : Nat} {gd : Option (List Code)} {cn : Str} {cs : Scope} {a : Addr} {ccd : Value} {cl : List (Str × Addr)} {outer : List Env} {A₀ : Around} {base h₀ : Heap} {L : Addr} {m : Str → Option Value} {s : Shared} {Q E : Value → Shared → Prop}
    {P R f : Addr} {args : List Value} {rm um : Nat} {vs : List Value} {n k k' : Nat} {o : Obj} {Rel : Led → Value → Prop} {all rest : Led}
    (C : ∀ (o : Obj) (news : Led), PenD w o R k → (∀ p ∈ news, p.1 ≠ P) → (R, listOf vs.toArray n) ∈ news → Tri LAW hd.heap_39 w mean mg mb f args rm um ((P, o) :: news) (PenOut w P R news o k' Rel))
    (B : Below A₀ base outer h₀) (F : Fr h₀ L s.heap m) (X : (hd.heap_39 w.params).In h₀) (N : News h₀ L s.heap all) (T : Top view (looseW view []) mean mg mb h₀) (hk : cs.kind = .function)
    (pk : Pick P o all rest) (hP : PenD w o R k) (hne : ∀ p ∈ rest, p.1 ≠ P) (hR : (R, listOf vs.toArray n) ∈ rest)
    (hd : dp + rm < recursionLimit) (hu : un + um < cLine)
    (h : ∀ r tl o' h' tk', Fr h₀ L h' m → News h₀ L h' ((P, o') :: (tl ++ rest)) → Above ((P, o) :: rest) tl → (∀ p ∈ tl, p.1 ≠ P) → (∀ p ∈ rest, p.1 ≠ P) → (R, listOf vs.toArray n) ∈ rest → PenD w o' R k' → Rel tl r → Q r { s with heap := h', toks := tk' }) :
    wpAny (model PySem.Challenge.rw_pq0122_01.row.prog w) (ktrTop dp un gd cn cs L a ccd cl outer) (call (.ref f) args) Q E s := by
  refine C o rest hP hne hR dp un gd cn cs a ccd cl outer A₀ base h₀ L m s Q E B F X (News.sub N pk.sub) T hk hd hu ?_
  rintro r news' h' tk' F' N' ⟨tl, o', rfl, ab, hP', hr⟩
  exact h r tl o' h' tk' F' N' ab ab.ne hne hR hP' hr
in #guard_msgs (drop info, drop warning) in open Nat
structure Stuck (p : Prop) : Prop where
  h : p
theorem stuck_of {p : Prop} (h : Stuck p) : p := h.h
theorem of_stuck {p : Prop} (h : p) : Stuck p := ⟨h⟩
theorem off_app {I C D : Addr} : ∀ {l l' : Led}, LCg.Off3 I C D l → LCg.Off3 I C D l' → LCg.Off3 I C D (l ++ l')
  | [], _, _, h => h
  | _ :: _, _, k, h => ⟨k.1, off_app k.2 h⟩
theorem off_above {I C D : Addr} {oI oC oD : Obj} {old tl : Led} (A : Above old tl) (hI : (I, oI) ∈ old) (hC : (C, oC) ∈ old) (hD : (D, oD) ∈ old) : LCg.Off3 I C D tl :=
  LCg.Off3.of fun p hp => ⟨(A _ hI p hp).symm, (A _ hC p hp).symm, (A _ hD p hp).symm⟩
theorem comp_end {h₀ : Heap} {L I C D : Addr} {m : Str → Option Value} {s₁ : Shared} {oI oC oD : Obj} {S : List (Addr × Obj) → Prop} {rest : Value → List (Addr × Obj) → Prop} {y : Value} {h' : Heap} {tk : Nat} {all r1 r2 news' : List (Addr × Obj)}
    (F : Fr h₀ L h' m) (N : News h₀ L h' all) (p1 : Pick I oI all r1) (p2 : Pick C oC r1 r2) (p3 : Pick D oD r2 news') (off : LCg.Off3 I C D news') (hS : S news') (r : rest y news') :
    LCg.CompEnd h₀ L m s₁ I oI C oC D oD S rest y { s₁ with heap := h', toks := tk } := by
  refine LCg.CompEnd.intro F N news' (fun p hp => ?_) off hS r
  k_extra "c22"
  · exact p1.sub _ (.head _)
  · rcases List.mem_cons.mp hp with rfl | hp
    · k_extra "c155"
    · k_extra "c113"
theorem eFw21 : True := trivial
end Mine
-- Cs
namespace Mine
example : True := by
  k_with "fk" => first | ((fail_if_success have hzz := eCs1); (with_reducible (first | exact fk6 (by assumption) | exact fk7 (by assumption) | exact fk8 (by assumption)))) | fail
  trivial
open LCg LCt
noncomputable def SrcST (prog : Program) (w : World) (A : Around) (h₀ : Heap) (L : Addr) (m : Str → Option Value) (env : Env) (ct elt : Expr) (x : Str) (scope : Scope) (cl : List (Str × Addr)) (Fin : Shared → List Value → List (Addr × Obj) → Prop) (xv : Value) (s₁ : Shared) : Prop :=
  ∃ (t : Str) (tk : Tok) (news : Led), xv = .str t tk ∧ A.handled = none ∧ Fr h₀ L s₁.heap m ∧ News h₀ L s₁.heap news ∧ t.cps.size ≤ sizeLine ∧
    ∀ s₂ : Shared, (∃ h, s₂ = { s₁ with heap := h }) → CompRestT prog w A h₀ L m env ct elt x scope cl s₂ (fun _ => True) (SignAt t) (Fin s₂) t.cps.size 0 [] news
section
variable {prog : Program} {w : World} {A : Around} {E : Value → Shared → Prop} {s : Shared} {h₀ : Heap} {L : Addr} {m : Str → Option Value} {env : Env}
set_option Elab.async true in
theorem restT_ind {ct elt : Expr} {x : Str} {scope : Scope} {cl : List (Str × Addr)} {s : Shared} {S : Led → Prop} {P : Nat → Value → Prop} {Fin : List Value → Led → Prop} {n : Nat} {news : Led} (Iv : Nat → List Value → Led → Prop)
    (h0 : Iv 0 [] news) (hend : ∀ ys nw, Iv n ys nw → Fin ys nw)
    (step : ∀ i ys nw (Next : List Value → Led → Prop), i < n → Iv i ys nw → (∀ ys' nw', Iv (i + 1) ys' nw' → Next ys' nw') →
      ∀ v I oI C oC D m₂ h tk (E' : Value → Shared → Prop), P i v → NsObj oC m₂ → m₂ x = some v → Fr h₀ L h m → News h₀ L h ((I, oI) :: (C, oC) :: (D, lst ys) :: nw) → Off3 I C D nw → ((@Ne Nat I C) ∧ (@Ne Nat I D) ∧ (@Ne Nat C D)) →
      wpAny (model prog w) A (isTrue ct (compEnvC scope cl C env) (eval ct (compEnvC scope cl C env))) (fun ok s' => if ok = true then
        wpAny (model prog w) A (eval elt (compEnvC scope cl C env)) (CompEnd h₀ L m { s with heap := h, toks := tk } I oI C oC D (lst ys) S (fun y nw' => Next (ys ++ [y]) nw')) E' s'
        else CompEnd h₀ L m { s with heap := h, toks := tk } I oI C oC D (lst ys) S (fun _ nw' => Next ys nw') Value.none s') E' { s with heap := h, toks := tk }) :
    CompRestT prog w A h₀ L m env ct elt x scope cl s S P Fin n 0 [] news := by
  have H : ∀ (k i : Nat) (ys : List Value) (nw : Led), k + i = n → Iv i ys nw → CompRestT prog w A h₀ L m env ct elt x scope cl s S P Fin k i ys nw := by
    intro k
    induction k with
    | zero => intro i ys nw hk hI; obtain rfl : i = n := by omega
              exact hend _ _ hI
    | succ k ih =>
      intro i ys nw hk hI
      refine CompRestT.succ ?_
      exact step i ys nw (fun ys' nw' => CompRestT prog w A h₀ L m env ct elt x scope cl s S P Fin k (i + 1) ys' nw') (by omega) hI fun ys' nw' hI' => ih _ _ _ (by omega) hI'
  exact H n 0 [] news (by omega) h0
in #guard_msgs (drop info, drop warning) in open Nat
set_option Elab.async true in
theorem rest_ind {elt : Expr} {x : Str} {scope : Scope} {cl : List (Str × Addr)} {s : Shared} {S : Led → Prop} {P : Nat → Value → Prop} {Fin : List Value → Led → Prop} {n : Nat} {news : Led} (Iv : Nat → List Value → Led → Prop)
    (h0 : Iv 0 [] news) (hend : ∀ ys nw, Iv n ys nw → Fin ys nw)
    (step : ∀ i ys nw (Next : List Value → Led → Prop), i < n → Iv i ys nw → (∀ ys' nw', Iv (i + 1) ys' nw' → Next ys' nw') →
      ∀ v I oI C oC D m₂ h tk (E' : Value → Shared → Prop), P i v → NsObj oC m₂ → m₂ x = some v → Fr h₀ L h m → News h₀ L h ((I, oI) :: (C, oC) :: (D, lst ys) :: nw) → Off3 I C D nw → ((@Ne Nat I C) ∧ (@Ne Nat I D) ∧ (@Ne Nat C D)) →
      wpAny (model prog w) A (eval elt (compEnvC scope cl C env)) (CompEnd h₀ L m { s with heap := h, toks := tk } I oI C oC D (lst ys) S (fun y nw' => Next (ys ++ [y]) nw')) E' { s with heap := h, toks := tk }) :
    CompRest prog w A h₀ L m env elt x scope cl s S P Fin n 0 [] news := by
  have H : ∀ (k i : Nat) (ys : List Value) (nw : Led), k + i = n → Iv i ys nw → CompRest prog w A h₀ L m env elt x scope cl s S P Fin k i ys nw := by
    intro k
    induction k with
    | zero => intro i ys nw hk hI; obtain rfl : i = n := by omega
              exact hend _ _ hI
    | succ k ih =>
      intro i ys nw hk hI
      refine CompRest.succ ?_
      exact step i ys nw (fun ys' nw' => CompRest prog w A h₀ L m env elt x scope cl s S P Fin k (i + 1) ys' nw') (by omega) hI fun ys' nw' hI' => ih _ _ _ (by omega) hI'
  exact H n 0 [] news (by omega) h0
in #guard_msgs (drop info, drop warning) in open Nat
theorem SrcST.of {ct elt : Expr} {x : Str} {scope : Scope} {cl : List (Str × Addr)} {Fin : Shared → List Value → List (Addr × Obj) → Prop} {t : Str} {tk : Tok} {news : Led} {s₁ : Shared}
    (hh : A.handled = none) (F : Fr h₀ L s₁.heap m) (N : News h₀ L s₁.heap news) (hsz : t.cps.size ≤ sizeLine)
    (h : ∀ g, CompRestT prog w A h₀ L m env ct elt x scope cl { s₁ with heap := g } (fun _ => True) (SignAt t) (Fin { s₁ with heap := g }) t.cps.size 0 [] news) :
    SrcST prog w A h₀ L m env ct elt x scope cl Fin (.str t tk) s₁ := ⟨t, tk, news, rfl, hh, F, N, hsz, fun _ ⟨g, e⟩ => e ▸ h g⟩
namespace Z
example : True := by
  k_with "eps" => first | ((fail_if_success have hzz := zCs3); skip) | fail
  trivial
set_option Elab.async true in
theorem ListComp_S : ∀ {prog : Program} {w : World} {A : Around} {E : Value → Shared → Prop} {s : Shared} {h₀ : Heap} {L : Addr} {m : Str → Option Value} {env : Env} {ct elt iter : Expr} {x : Str} {px : Pos} {scope : Scope} {cl : List (Str × Addr)} {pos : Pos} {Q : Value → Shared → Prop} (_F₀ : Fr h₀ L s.heap m) (hclos : closureFor scope env = pure cl) (hcell : ∀ y ∈ scope.names, y.2 ≠ .cell) (hkind : scope.kind = .function) (hnames : ∀ y ∈ scope.names, y.2 = .local → scope.names.lookup y.1 = some .local) (hx : scope.names.lookup x = some .local) (h : wpAny (model prog w) A (eval iter env) (SrcST prog w A h₀ L m env ct elt x scope cl (fun s₂ => FinE h₀ L m s₂ Q)) E s) (hs : ∀ x, foldedSetIterable iter env x = pure x), wpAny (model prog w) A (eval (.ListComp elt [⟨.Name x px, iter, [ct], 0⟩] scope pos) env) Q E s := by
  intro prog w A E s h₀ L m env ct elt iter x px scope cl pos Q _F₀ hclos hcell hkind hnames hx h hs
  rw [eval_ListComp]
  k_extra "c52"
  intro xv s₁ h₁
  obtain ⟨t, tk, news, rfl, hh, F, N, hsz, R⟩ := h₁
  cases ha : t.cps.all (· < 128)
  · refine wpAny_pyIter_wide ha ?_
    refine block_T (Walks.strWide hh _ t tk) hsz (fun i h st => let ⟨o, e, _⟩ := st; ⟨o, e⟩) (fun i h h' o nw st e e' _ _ _ => let ⟨o₂, e₂, r⟩ := st; ⟨o₂, e'.trans (e.symm.trans e₂), r⟩) hcell hkind hx ⟨_, Heap.get?_push_size _ rfl, rfl, rfl⟩ (fun b hb => ?_)
      (F.keeps fun b o e => Heap.get?_push_of_some _ e) (N.grown fun b o e => Heap.get?_push_of_some _ e) (Nat.ne_of_lt F.ns.lt) (next_is_new F) (fun p hp => Nat.ne_of_lt (Heap.lt_size (N p hp).1)) trivial (R _ ⟨_, rfl⟩) ?_
    · rw [List.mem_singleton.mp hb]
      show s₁.heap.objs.size < (s₁.heap.push _).objs.size
      rw [Heap.size_push]; exact Nat.lt_succ_self _
    · intro D C h tk m' ys news' F' N' o1 hn hC₀ hD₀ hCL hDL hCD offC fin
      k_extra "c48"
      intro p hp
      k_extra "c89"
      k_extra "c22"
      · exact Ne.symm hCD
      · exact offC p hp
  · refine wpAny_pyIter_ascii ha ?_
    refine block_T (Walks.strAscii hh _ t tk) hsz (fun i h st => let ⟨o, e, _⟩ := st; ⟨o, e⟩) (fun i h h' o nw st e e' _ _ _ => let ⟨o₂, e₂, r⟩ := st; ⟨o₂, e'.trans (e.symm.trans e₂), r⟩) hcell hkind hx ⟨_, Heap.get?_push_size _ rfl, rfl, rfl⟩ (fun b hb => ?_)
      (F.keeps fun b o e => Heap.get?_push_of_some _ e) (N.grown fun b o e => Heap.get?_push_of_some _ e) (Nat.ne_of_lt F.ns.lt) (next_is_new F) (fun p hp => Nat.ne_of_lt (Heap.lt_size (N p hp).1)) trivial (R _ ⟨_, rfl⟩) ?_
    · rw [List.mem_singleton.mp hb]
      show s₁.heap.objs.size < (s₁.heap.push _).objs.size
      rw [Heap.size_push]; exact Nat.lt_succ_self _
    · intro D C h tk m' ys news' F' N' o1 hn hC₀ hD₀ hCL hDL hCD offC fin
      k_extra "c48"
      intro p hp
      k_extra "c89"
      k_extra "c22"
      · exact Ne.symm hCD
      · exact offC p hp
in #guard_msgs (drop info, drop warning) in open Nat
theorem zCs3 : True := trivial
end Z
end
section
variable {prog : Program} {w : World} {A : Around} {E : Value → Shared → Prop} {s : Shared} {h₀ : Heap} {L : Addr} {news : Led}
theorem strs_dat : ∀ {vs : List Value} {ss : List Str}, StrsAre vs ss → DatAll news vs (ss.map Dat.str)
  | _, _, .nil => .nil
  | _, _, .cons y t r => .cons (.str y t) (strs_dat r)
open Classical in
theorem m_eqNil {D b : Addr} {ys : List Value} {ss : List Str} {k kb : Nat} {Q : Value → Shared → Prop} (N : News h₀ L s.heap news) (hD : (D, listOf ys.toArray k) ∈ news) (hb : (b, listOf #[] kb) ∈ news)
    (hi : StrsAre ys ss) (hok : ∀ x ∈ ss, PyData.strOk x = true) (hu : A.units + 64 < cLine) (h : Q (.bool (decide (ys = []))) s) : wpAny (model prog w) A (compareOp .Eq (.ref D) (.ref b)) Q E s := by
  refine kqd_eq (xs := ys) (ys := []) (ds := ss.map Dat.str) (es := []) N hD rfl rfl (strs_dat hi) (fun _ h => h) hb rfl rfl .nil (fun _ h => h) ?_ (fun d hd => nomatch hd) hu ?_
  · intro d hd
    obtain ⟨x, hx, rfl⟩ := List.mem_map.mp hd
    simpa [kqdOk] using hok x hx
  · have e : (ss.map Dat.str = []) ↔ ys = [] := by
      cases hi <;> simp
    rw [decide_eq_decide.mpr e]
    exact h
end
theorem eCs1 : True := trivial
end Mine
-- Comp2
namespace Mine
example : True := by
  k_with "omega" => first | ((fail_if_success have hzz := eComp21); (first | k_extra "ub" | (simp +arith only; done) | k_extra "fk" | lia | omega (config := {}))) | fail
  trivial
example : True := by
  k_with "fk" => first | ((fail_if_success have hzz := eComp21); (with_reducible (first | exact fk9 (by assumption) (by assumption) | exact fk10 (by assumption) (by assumption) | exact fk7 (by assumption) | exact fk8 (by assumption) | exact fk11 (by assumption) (by assumption) (by assumption) | exact fk12 (by assumption) (by assumption) (by assumption) | exact fk13 (by assumption) (by assumption) (by assumption)))) | fail
  trivial
open LCg
theorem compTurn_out (elt target iter iter2 : Expr) (y : Str) (py : Pos) (scope : Scope) (pos : Pos) (it acc : Value) (env : Env) :
    compTurn (.ListComp elt [⟨target, iter, [], 0⟩, ⟨.Name y py, iter2, [], 0⟩] scope pos) 0 it acc env = (standAt iter.pos >>= fun _ => pyNext it >>= fun r => match r with
      | none => pure (.done .next)
      | some v => letOwnedTupleGo target it v >>= fun _ => assign target env v >>= fun _ =>
        eval iter2 env >>= fun x => standAt iter2.pos >>= fun _ => foldedSetIterable iter2 env x >>= fun x => holding [x] (pyIter x) >>= fun it2 =>
          runOwn (.compStart (.ListComp elt [⟨target, iter, [], 0⟩, ⟨.Name y py, iter2, [], 0⟩] scope pos) 1 it2 acc env) env >>= fun _ =>
            again (.compLoop (.ListComp elt [⟨target, iter, [], 0⟩, ⟨.Name y py, iter2, [], 0⟩] scope pos) 0 it acc env)) := by rfl
theorem compTurn_in (elt target iter iter2 : Expr) (y : Str) (py : Pos) (scope : Scope) (pos : Pos) (it acc : Value) (env : Env) :
    compTurn (.ListComp elt [⟨target, iter, [], 0⟩, ⟨.Name y py, iter2, [], 0⟩] scope pos) 1 it acc env = (standAt iter2.pos >>= fun _ => pyNext it >>= fun r => match r with
      | none => pure (.done .next)
      | some v => letOwnedTupleGo (.Name y py) it v >>= fun _ => assign (.Name y py) env v >>= fun _ =>
        (eval elt env >>= fun x => call (.builtin "list.append") [acc, x] >>= fun _ => pure ()) >>= fun _ =>
            again (.compLoop (.ListComp elt [⟨target, iter, [], 0⟩, ⟨.Name y py, iter2, [], 0⟩] scope pos) 1 it acc env)) := by rfl
section
variable {prog : Program} {w : World} {A : Around} {E : Value → Shared → Prop} {s : Shared} {R : Result → Shared → Prop} {target iter iter2 : Expr} {y : Str} {py pe : Pos} {scope : Scope} {pos : Pos} {it acc : Value} {env : Env}
set_option Elab.async true in
theorem loop_in (I : Nat → Shared → Prop)
    (turn : ∀ n s, I n s → wpAny (model prog w) A (pyNext it) (fun r s₁ => match r with
      | none => R (.ok .next) s₁
      | some v => wpAny (model prog w) A (assign (.Name y py) env v) (fun _ s₂ => wpAny (model prog w) A (eval (.Name y pe) env) (fun x s₄ =>
              wpAny (model prog w) A (call (.builtin "list.append") [acc, x]) (fun _ s₅ => ∃ m, m < n ∧ I m s₅) (notedBy (model prog w) A env fun e s' => R (.error e) s') s₄) (notedBy (model prog w) A env fun e s' => R (.error e) s') s₂)
          (notedBy (model prog w) A env fun e s' => R (.error e) s') s₁) (notedBy (model prog w) A env fun e s' => R (.error e) s') s)
    (n : Nat) (h : I n s) : codeAny (model prog w) A (.compLoop (.ListComp (.Name y pe) [⟨target, iter, [], 0⟩, ⟨.Name y py, iter2, [], 0⟩] scope pos) 1 it acc env) R s := by
  refine codeAny_loop rfl I (fun n s hI => ?_) n h
  show wpAny _ A ((compTurn (.ListComp (.Name y pe) [⟨target, iter, [], 0⟩, ⟨.Name y py, iter2, [], 0⟩] scope pos) 1 it acc env).onRaise (fun x => do noteFrame x env; theTreesLotGoes x)) _ _ s
  refine wpAny_noted ?_
  rw [compTurn_in]
  k_extra "c109"
  cases r with
  | none => exact wpAny_pure h₁
  | some v =>
    refine wpAny_bind (wpAny_of_eq (show letOwnedTupleGo (.Name y py) it v = pure () from rfl) ?_)
    refine wpAny_bind (wpAny_mono h₁ (fun _ s₂ h₂ => ?_) fun _ _ h' => h')
    k_extra "c53"
in #guard_msgs (drop info, drop warning) in open Nat
set_option Elab.async true in
theorem start_in
    (h0 : codeAny (model prog w) A (.compLoop (.ListComp (.Name y pe) [⟨target, iter, [], 0⟩, ⟨.Name y py, iter2, [], 0⟩] scope pos) 1 it acc env) R s)
    (h : wpAny (model prog w) A (pyIter it) (fun it' s' => codeAny (model prog w) A (.compLoop (.ListComp (.Name y pe) [⟨target, iter, [], 0⟩, ⟨.Name y py, iter2, [], 0⟩] scope pos) 1 it' acc env) R s')
      (notedBy (model prog w) A env fun x s' => R (.error x) s') s) :
    codeAny (model prog w) A (.compStart (.ListComp (.Name y pe) [⟨target, iter, [], 0⟩, ⟨.Name y py, iter2, [], 0⟩] scope pos) 1 it acc env) R s := by
  refine codeAny_of_tree ?_
  show wpAny _ _ ((compStart (.ListComp (.Name y pe) [⟨target, iter, [], 0⟩, ⟨.Name y py, iter2, [], 0⟩] scope pos) 1 it acc env).onRaise (fun x => do noteFrame x env; standAt theWindowsPlace)) _ _ s
  refine wpAny_notedAt ?_
  unfold compStart
  show wpAny _ _ (ask >>= _) _ _ s
  refine wpAny_bind (wpAny_askSetting (wpAny_ite ?_))
  split
  · first
      | exact wpAny_bind (wpAny_pure (wpAny_pure (And.intro rfl h0)))
      | exact wpAny_pure (And.intro rfl h0)
  · first
      | exact wpAny_bind (wpAny_rule (wpAny_bind (wpAny_standAt (wpAny_bind (wpAny_mono h (fun it' s' h' => wpAny_pure (And.intro rfl h')) fun _ _ x => x)))))
      | (refine wpAny_bind (wpAny_rule ?_); show wpAny _ _ (standAt iter2.pos >>= _) _ _ s; exact wpAny_bind (wpAny_standAt (wpAny_bind (wpAny_mono h (fun it' s' h' => wpAny_pure (And.intro rfl h')) fun _ _ x => x))))
in #guard_msgs (drop info, drop warning) in open Nat
namespace Z
example : True := by
  k_with "eps" => first | ((fail_if_success have hzz := zComp24); skip) | fail
  trivial
theorem loop_out : ∀ {prog : Program} {w : World} {A : Around} {s : Shared} {R : Result → Shared → Prop} {target : Expr} {iter : Expr} {iter2 : Expr} {y : Str} {py : Pos} {pe : Pos} {scope : Scope} {pos : Pos} {it : Value} {acc : Value} {env : Env} (hs2 : ∀ x, foldedSetIterable iter2 env x = pure x) (I : Nat → Shared → Prop) (turn : ∀ n s, I n s → wpAny (model prog w) A (pyNext it) (fun r s₁ => match r with
      | none => R (.ok .next) s₁
      | some v => wpAny (model prog w) A (letOwnedTupleGo target it v) (fun _ s₂ => wpAny (model prog w) A (assign target env v) (fun _ s₃ => wpAny (model prog w) A (eval iter2 env) (fun x s₄ => wpAny (model prog w) A (pyIter x) (fun it2 s₅ =>
          codeAny (model prog w) A (.compStart (.ListComp (.Name y pe) [⟨target, iter, [], 0⟩, ⟨.Name y py, iter2, [], 0⟩] scope pos) 1 it2 acc env) (fun r s₆ => match r with
            | .ok _ => ∃ m, m < n ∧ I m s₆
            | .error e => cameBackBy (model prog w) A env (notedBy (model prog w) A env fun e s' => R (.error e) s') e s₆) s₅)
          (notedBy (model prog w) A env fun e s' => R (.error e) s') s₄) (notedBy (model prog w) A env fun e s' => R (.error e) s') s₃) (notedBy (model prog w) A env fun e s' => R (.error e) s') s₂)
          (notedBy (model prog w) A env fun e s' => R (.error e) s') s₁) (notedBy (model prog w) A env fun e s' => R (.error e) s') s) (n : Nat) (h : I n s), codeAny (model prog w) A (.compLoop (.ListComp (.Name y pe) [⟨target, iter, [], 0⟩, ⟨.Name y py, iter2, [], 0⟩] scope pos) 0 it acc env) R s := by
  intro prog w A s R target iter iter2 y py pe scope pos it acc env hs2 I turn n h
  refine codeAny_loop rfl I ?_ n h
  intro n s hI
  show wpAny _ A ((compTurn (.ListComp (.Name y pe) [⟨target, iter, [], 0⟩, ⟨.Name y py, iter2, [], 0⟩] scope pos) 0 it acc env).onRaise (fun x => do noteFrame x env; theTreesLotGoes x)) _ _ s
  refine wpAny_noted ?_
  rw [compTurn_out]
  refine wpAny_bind (wpAny_standAt (wpAny_bind (wpAny_mono (turn n s hI) ?_ fun _ _ h' => h')))
  intro r s₁ h₁
  cases r with
  | none => exact wpAny_pure h₁
  | some v =>
    refine wpAny_bind (wpAny_mono h₁ (fun _ s₂ h₂ => wpAny_bind (wpAny_mono h₂ (fun _ s₃ h₃ => wpAny_bind (wpAny_mono h₃ (fun x s₄ h₄ => wpAny_bind (wpAny_standAt (wpAny_bind (wpAny_of_eq (hs2 x) (wpAny_bind (wpAny_holding (wpAny_mono h₄ ?_ fun _ _ h' => h'))))))) fun _ _ h' => h')) fun _ _ h' => h')) fun _ _ h' => h')
    intro it2 s₅ h₅
    refine wpAny_bind (wpAny_runOwn (codeAny_mono h₅ ?_))
    intro r s₆ h₆
    cases r with
    | ok f => exact wpAny_pure ⟨rfl, h₆⟩
    | error e => exact h₆
theorem zComp24 : True := trivial
end Z
end
section
variable {prog : Program} {w : World} {A : Around} {E : Value → Shared → Prop} {s : Shared} {R : Result → Shared → Prop} {target iter iter2 : Expr} {y : Str} {py pe : Pos} {scope : Scope} {pos : Pos} {cenv : Env}
namespace Z
example : True := by
  k_with "eps" => first | ((fail_if_success have hzz := zComp25); skip) | fail
  trivial
set_option Elab.async true in
theorem comp_inner : ∀ {prog : Program} {w : World} {A : Around} {E : Value → Shared → Prop} {s : Shared} {R : Result → Shared → Prop} {target : Expr} {iter : Expr} {iter2 : Expr} {y : Str} {py : Pos} {pe : Pos} {scope : Scope} {pos : Pos} {cenv : Env} {l D : Addr} {vs ys : List Value} {m : Str → Option Value} (hh : A.handled = none) (hl : s.heap.IsList l vs.toArray) (hlD : l ≠ D) (hlC : l ≠ cenv.locals) (hD : s.heap.get? D = some (lst ys)) (hDC : D ≠ cenv.locals) (hn : s.heap.Ns cenv.locals m) (hy : cenv.kindOf y = some .local) (hk : cenv.scope.kind = .function) (hyd : (y == ("__debug__" : Str)) = false) (hsz : ys.length + vs.length ≤ sizeLine) (hR : ∀ h' tk m', h'.Ns cenv.locals m' → h'.get? D = some (lst (ys ++ vs)) → (∀ b o, b ≠ cenv.locals → b ≠ D → s.heap.get? b = some o → h'.get? b = some o) → R (.ok .next) { s with heap := h', toks := tk }), wpAny (model prog w) A (pyIter (.ref l)) (fun it s₂ => codeAny (model prog w) A (.compStart (.ListComp (.Name y pe) [⟨target, iter, [], 0⟩, ⟨.Name y py, iter2, [], 0⟩] scope pos) 1 it (.ref D) cenv) R s₂) E s := by
  intro prog w A E s R target iter iter2 y py pe scope pos cenv l D vs ys m hh hl hlD hlC hD hDC hn hy hk hyd hsz hR
  refine wpAny_pyIter_list hl ?_
  have hlI : l ≠ s.heap.objs.size := by obtain ⟨_, e, _⟩ := hl; exact Nat.ne_of_lt (Heap.lt_size e)
  have hDI : D ≠ s.heap.objs.size := Nat.ne_of_lt (Heap.lt_size hD)
  have hCI : cenv.locals ≠ s.heap.objs.size := Nat.ne_of_lt hn.lt
  have W := Walks.list (prog := prog) (w := w) hh s.heap.objs.size l hlI vs.toArray
  rw [show vs.toArray.size = vs.length by simp] at W
  have up : ∀ b o, s.heap.get? b = some o → (s.heap.push { cls := .type "list_iterator", data := .fields #[.ref l, .int 0 0] }).get? b = some o := fun b o e => Heap.get?_push_of_some _ e
  have st0 : (s.heap.push { cls := .type "list_iterator", data := .fields #[.ref l, .int 0 0] }).IsListIter s.heap.objs.size l 0 ∧ (s.heap.push { cls := .type "list_iterator", data := .fields #[.ref l, .int 0 0] }).IsList l vs.toArray :=
    ⟨⟨_, Heap.get?_push_size _ rfl, rfl, rfl⟩, hl.push _⟩
  have loop : codeAny (model prog w) A (.compLoop (.ListComp (.Name y pe) [⟨target, iter, [], 0⟩, ⟨.Name y py, iter2, [], 0⟩] scope pos) 1 (.ref s.heap.objs.size) (.ref D) cenv) R
      { s with heap := s.heap.push { cls := .type "list_iterator", data := .fields #[.ref l, .int 0 0] } } := by
    refine loop_in (fun k s' => ∃ h' tk i m', s' = { s with heap := h', toks := tk } ∧ i ≤ vs.length ∧ k = vs.length + 1 - i ∧ (h'.IsListIter s.heap.objs.size l i ∧ h'.IsList l vs.toArray) ∧ h'.Ns cenv.locals m' ∧ h'.get? D = some (lst (ys ++ vs.take i)) ∧
      (∀ b o, b ≠ cenv.locals → b ≠ D → s.heap.get? b = some o → h'.get? b = some o)) ?_ (vs.length + 1) ⟨_, s.toks, 0, m, rfl, Nat.zero_le _, rfl, st0, hn.at' fun o e => up _ o e, by rw [List.take_zero, List.append_nil]; exact up _ _ hD, fun b o _ _ e => up b o e⟩
    intro k s' hh9
    obtain ⟨h', tk, i, m', rfl, hi, rfl, hst, hn', hD', hkp⟩ := hh9
    by_cases hlt : i < vs.length
    · refine W.item i _ _ _ hlt hst ?_
      intro v h₂ tk₂ hPv hst₂ hk₂
      dsimp only
      have hPv : vs[i]? = some v := by simpa using hPv
      refine wpAny_assign_Name (wpAny_storeName_local hy (hn'.at' fun o e => hk₂ _ o (by simpa using hCI) e) ?_ (by rw [hk]; rfl))
      intro h₃ hn₃ hs₃
      refine wpAny_Name (wpAny_loadName_local (v := v) hk hy hn₃ (by simp) ?_) hyd
      have hD₃ : h₃.get? D = some (lst (ys ++ vs.take i)) := hs₃.extBut _ _ hDC (hk₂ _ _ (by simpa using hDI) hD')
      have hlen : (ys ++ vs.take i).length ≤ sizeLine := by rw [List.length_append]; have := List.length_take_le i vs; omega
      refine append_at (hsz := by rw [List.size_toArray]; exact hlen) hD₃ ?_
      intro h₅ hs₅ hD₅
      have e1 : vs.take (i + 1) = vs.take i ++ [v] := by rw [List.take_add_one, hPv]; rfl
      refine ⟨vs.length + 1 - (i + 1), by omega, h₅, _, i + 1, _, rfl, hlt, rfl, ?_, hn₃.sameBut hs₅ (Ne.symm hDC), ?_, fun b o hb hb' e => hs₅.extBut b o hb' (hs₃.extBut b o hb (hk₂ b o (fun z => ?_) (hkp b o hb hb' e)))⟩
      · exact W.frame _ _ _ (W.frame _ _ _ hst₂ fun b hb o e => hs₃.extBut b o (fun z => by simp at hb; rcases hb with rfl | rfl; exact hCI z.symm; exact hlC z) e) fun b hb o e => hs₅.extBut b o (fun z => by simp at hb; rcases hb with rfl | rfl; exact hDI z.symm; exact hlD z) e
      · rw [hD₅, e1, ← List.append_assoc]; exact congrArg some (lst_snoc _ _)
      · rw [List.mem_singleton.mp z] at e; exact absurd (Heap.lt_size e) (Nat.lt_irrefl _)
    · obtain rfl : i = vs.length := Nat.le_antisymm hi (Nat.not_lt.mp hlt)
      refine W.done _ _ _ hst ?_
      intro h₂ tk₂ hk₂
      rw [List.take_length] at hD'
      exact hR h₂ tk₂ _ (hn'.at' fun o e => hk₂ _ o (by simpa using hCI) e) (hk₂ _ _ (by simpa using hDI) hD') fun b o hb hb' e => hk₂ b o (fun z => by rw [List.mem_singleton.mp z] at e; exact absurd (Heap.lt_size e) (Nat.lt_irrefl _)) (hkp b o hb hb' e)
  exact start_in loop (W.self 0 _ _ _ st0 loop)
in #guard_msgs (drop info, drop warning) in open Nat
theorem zComp25 : True := trivial
end Z
end
noncomputable def CompEnd2 (h₀ : Heap) (L : Addr) (m : Str → Option Value) (s₁ : Shared) (I : Addr) (oI : Obj) (C : Addr) (oC : Obj) (D : Addr) (ys : List Value) (S : Led → Prop) (rest : List Value → Led → Prop) (z : Value) (s₂ : Shared) : Prop :=
  ∃ h' tk news' l vs n, z = .ref l ∧ s₂ = { s₁ with heap := h', toks := tk } ∧ Fr h₀ L h' m ∧ News h₀ L h' ((I, oI) :: (C, oC) :: (D, lst ys) :: news') ∧ Off3 I C D news' ∧ S news' ∧ (l, listOf vs.toArray n) ∈ news' ∧ ys.length + vs.length ≤ 1000000 ∧ rest vs news'
noncomputable def CompRest2 (prog : Program) (w : World) (A : Around) (h₀ : Heap) (L : Addr) (m : Str → Option Value) (env : Env) (iter2 : Expr) (scope : Scope) (cl : List (Str × Addr)) (s : Shared) (S : Led → Prop) (G : Nat → (Str → Option Value) → Prop)
    (Fin : List Value → Led → Prop) : Nat → Nat → List Value → Led → Prop
  | 0, _, ys, news => Fin ys news
  | k + 1, i, ys, news => ∀ I oI C oC D m₂ h tk (E' : Value → Shared → Prop), NsObj oC m₂ → G i m₂ → Fr h₀ L h m → News h₀ L h ((I, oI) :: (C, oC) :: (D, lst ys) :: news) → Off3 I C D news → ((@Ne Nat I C) ∧ (@Ne Nat I D) ∧ (@Ne Nat C D)) →
      wpAny (model prog w) A (eval iter2 (compEnvC scope cl C env)) (CompEnd2 h₀ L m { s with heap := h, toks := tk } I oI C oC D ys S (fun vs news' => CompRest2 prog w A h₀ L m env iter2 scope cl s S G Fin k (i + 1) (ys ++ vs) news')) E' { s with heap := h, toks := tk }
section
variable {prog : Program} {w : World} {A : Around} {E : Value → Shared → Prop} {s : Shared} {h₀ : Heap} {L : Addr} {m : Str → Option Value} {env : Env}
set_option Elab.async true in
theorem rest2_ind {iter2 : Expr} {scope : Scope} {cl : List (Str × Addr)} {s : Shared} {S : Led → Prop} {G : Nat → (Str → Option Value) → Prop} {Fin : List Value → Led → Prop} {n : Nat} {news : Led} (Iv : Nat → List Value → Led → Prop)
    (h0 : Iv 0 [] news) (hend : ∀ ys nw, Iv n ys nw → Fin ys nw)
    (step : ∀ i ys nw (Next : List Value → Led → Prop), i < n → Iv i ys nw → (∀ vs nw', Iv (i + 1) (ys ++ vs) nw' → Next vs nw') →
      ∀ I oI C oC D m₂ h tk (E' : Value → Shared → Prop), NsObj oC m₂ → G i m₂ → Fr h₀ L h m → News h₀ L h ((I, oI) :: (C, oC) :: (D, lst ys) :: nw) → Off3 I C D nw → ((@Ne Nat I C) ∧ (@Ne Nat I D) ∧ (@Ne Nat C D)) →
      wpAny (model prog w) A (eval iter2 (compEnvC scope cl C env)) (CompEnd2 h₀ L m { s with heap := h, toks := tk } I oI C oC D ys S Next) E' { s with heap := h, toks := tk }) :
    CompRest2 prog w A h₀ L m env iter2 scope cl s S G Fin n 0 [] news := by
  have H : ∀ (k i : Nat) (ys : List Value) (nw : Led), k + i = n → Iv i ys nw → CompRest2 prog w A h₀ L m env iter2 scope cl s S G Fin k i ys nw := by
    intro k
    induction k with
    | zero => intro i ys nw hk hI; obtain rfl : i = n := by omega
              exact hend _ _ hI
    | succ k ih =>
      intro i ys nw hk hI
      exact step i ys nw (fun vs nw' => CompRest2 prog w A h₀ L m env iter2 scope cl s S G Fin k (i + 1) (ys ++ vs) nw') (by omega) hI fun vs nw' hI' => ih _ _ _ (by omega) hI'
  exact H n 0 [] news (by omega) h0
in #guard_msgs (drop info, drop warning) in open Nat
namespace Z
example : True := by
  k_with "eps" => first | ((fail_if_success have hzz := zComp26); skip) | fail
  trivial
set_option Elab.async true in
theorem block_2 : ∀ {prog : Program} {w : World} {A : Around} {E : Value → Shared → Prop} {h₀ : Heap} {L : Addr} {m : Str → Option Value} {env : Env} {target iter iter2 : Expr} {y : Str} {py pe : Pos} {scope : Scope} {cl : List (Str × Addr)} {pos : Pos} {s₂ : Shared} {I : Addr} {fp : List Addr} {n : Nat} {P : Nat → Value → Prop} {St : Nat → Heap → Prop} {S : Led → Prop} {G : Nat → (Str → Option Value) → Prop} {news : Led} {Fin : List Value → Led → Prop} {RR : Value → Addr → Result → Shared → Prop} (hh : A.handled = none) (W : Walks prog w A I fp [I] n P St) (hIo : ∀ i h, St i h → ∃ o, h.get? I = some o) (hSt : ∀ i h h' o nw, St i h → h.get? I = some o → h'.get? I = some o → (∀ b o, h₀.get? b = some o → h'.get? b = some o) → News h₀ L h' nw → S nw → St i h') (hcell : ∀ y ∈ scope.names, y.2 ≠ .cell) (hkind : scope.kind = .function) (hyl : scope.names.lookup y = some .local) (hyd : (y == ("__debug__" : Str)) = false) (hs2 : ∀ C x, foldedSetIterable iter2 (compEnvC scope cl C env) x = pure x) (hasg : ∀ C i v h₂ tk₂ m' nw (Q : Unit → Shared → Prop) (E' : Value → Shared → Prop), P i v → St (i + 1) h₂ → h₂.Ns C m' → News h₀ L h₂ nw → S nw →
      (∀ h₃ m₂ tk₃, G i m₂ → h₃.Ns C m₂ → (∀ b o, b ∉ [C] → h₂.get? b = some o → h₃.get? b = some o) → Q () { s₂ with heap := h₃, toks := tk₃ }) →
      wpAny (model prog w) A (letOwnedTupleGo target (.ref I) v) (fun _ s' => wpAny (model prog w) A (assign target (compEnvC scope cl C env) v) Q E' s') E' { s₂ with heap := h₂, toks := tk₂ }) (hst : St 0 s₂.heap) (hfp : ∀ b ∈ fp, b < s₂.heap.objs.size) (F : Fr h₀ L s₂.heap m) (N : News h₀ L s₂.heap news) (hIL : L ≠ I) (hI₀ : h₀.get? I = none) (off : ∀ p ∈ news, p.1 ≠ I) (hS : S news) (R : CompRest2 prog w A h₀ L m env iter2 scope cl s₂ S G Fin n 0 [] news) (hRR : ∀ D C h tk m' ys news', Fr h₀ L h m → News h₀ L h ((D, lst ys) :: news') → Off1 D news' → h.Ns C m' → h₀.get? C = none → h₀.get? D = none → C ≠ L → D ≠ L → C ≠ D → (∀ p ∈ news', p.1 ≠ C) → Fin ys news' → RR (.ref D) C (.ok .next) { s₂ with heap := h, toks := tk }), wpAny (model prog w) A (newList []) (fun acc s₃ => wpAny (model prog w) A (newFunctionEnv scope env.globals cl [] env.qual none .none (some env)) (fun cenv s₄ =>
      codeAny (model prog w) A (.compStart (.ListComp (.Name y pe) [⟨target, iter, [], 0⟩, ⟨.Name y py, iter2, [], 0⟩] scope pos) 0 (.ref I) acc { cenv with scope := relabel scope env }) (RR acc cenv.locals) s₄) E s₃) E s₂ := by
  intro prog w A E h₀ L m env target iter iter2 y py pe scope cl pos s₂ I fp n P St S G news Fin RR hh W hIo hSt hcell hkind hyl hyd hs2 hasg hst hfp F N hIL hI₀ off hS R hRR
  k_extra "c127"
  intro h₁ hns₁ hsb₁
  dsimp only at hns₁ hsb₁ ⊢
  k_extra "c96"
  k_extra "c139"
  k_extra "c115"
  k_extra "c56"
  k_extra "c153"
  k_extra "c98"
  have hIf : I ∈ fp := W.sub I (List.mem_singleton.mpr rfl)
  have hIlt : I < s₂.heap.objs.size := hfp I hIf
  k_extra "c50"
  k_extra "c87"
  have hst₁ : St 0 h₁ := W.frame _ _ _ hst fun b _ o e => old b o e
  have fresh : ∀ a, s₂.heap.objs.size ≤ a → s₂.heap.get? a = none := fun a ha => by
    cases e : s₂.heap.get? a with
    | none => rfl
    | some o' => exact absurd (Heap.lt_size e) (Nat.not_lt.mpr ha)
  have fresh₀ : ∀ a, s₂.heap.objs.size ≤ a → h₀.get? a = none := fun a ha => by
    cases e : h₀.get? a with
    | none => rfl
    | some o' => have := F.keep a o' e; rw [fresh a ha] at this; cases this
  k_extra "c150"
  k_extra "c130"
  have hLlt : L < s₂.heap.objs.size := F.ns.lt
  have hDL : s₂.heap.objs.size ≠ L := Ne.symm (below L hLlt).2
  have hCL : H2.objs.size ≠ L := Ne.symm (below L hLlt).1
  have hCI : I ≠ H2.objs.size := (below I hIlt).1
  have hDI : I ≠ s₂.heap.objs.size := (below I hIlt).2
  k_extra "c77"
  have loop : ∀ s₃ : Shared, s₃ = { s₂ with heap := h₁, toks := s₂.toks + ([] : List (Str × Value)).length } →
      codeAny (model prog w) A (.compLoop (.ListComp (.Name y pe) [⟨target, iter, [], 0⟩, ⟨.Name y py, iter2, [], 0⟩] scope pos) 0 (.ref I) (.ref s₂.heap.objs.size) (compEnvC scope cl H2.objs.size env))
        (RR (.ref s₂.heap.objs.size) H2.objs.size) s₃ := by
    intro s₃ e9
    subst e9
    refine loop_out (hs2 _)
      (fun k s' => ∃ h' tk i ys m' news', s' = { s₂ with heap := h', toks := tk } ∧ i ≤ n ∧ k = n + 1 - i ∧ St i h' ∧ Fr h₀ L h' m ∧ h'.Ns H2.objs.size m' ∧ News h₀ L h' ((s₂.heap.objs.size, lst ys) :: news') ∧
        Off3 I H2.objs.size s₂.heap.objs.size news' ∧ S news' ∧ CompRest2 prog w A h₀ L m env iter2 scope cl s₂ S G Fin (n - i) i ys news') ?_ (n + 1)
      ⟨h₁, _, 0, [], _, news, rfl, Nat.zero_le _, rfl, hst₁, F.keeps old, hns₁, fun p hp => ?_, off₀, hS, R⟩
    · intro k s' hh9
      k_extra "c125"
      by_cases hlt : i < n
      · have hh8 : ∃ j, n - i = j + 1 := ⟨n - i - 1, by omega⟩
        obtain ⟨j, hj⟩ := hh8
        rw [hj] at R'
        refine W.item i _ _ _ hlt hst' ?_
        intro v h₂ tk₂ hPv hst₂ hk₂
        have off3 := off'.mem
        have N₂ : News h₀ L h₂ ((s₂.heap.objs.size, lst ys) :: news') := news_but N' hk₂ fun p hp => by
          k_extra "c22"
          · exact Ne.symm hDI
          · exact (off3 p hp).1
        k_extra "c74"
        intro h₃ m₂ tk₃ hG hn₃ hs₃
        k_extra "c90"
        k_extra "c102"
        obtain ⟨oI, heI⟩ := hIo _ _ hst₃
        obtain ⟨oC, heC, hoC⟩ := ns_obj hn₃
        k_extra "c126"
        have N₃ : News h₀ L h₃ ((I, oI) :: (H2.objs.size, oC) :: (s₂.heap.objs.size, lst ys) :: news') := fun p hp => by
          k_extra "c22"
          · exact ⟨heI, Ne.symm hIL, hI₀⟩
          · rcases List.mem_cons.mp hp with rfl | hp
            · exact ⟨heC, hCL, hC₀⟩
            · have z := N₂ p hp
              refine ⟨old3 _ _ ?_ z.1, z.2⟩
              k_extra "c22"
              · exact hDC
              · exact (off3 p hp).2.1
        k_extra "c85"
        intro z s₄ h₄
        obtain ⟨h₄, tk₄, news₄, l, vs, nl, rfl, rfl, F₄, N₄, off₄, hS₄, hl₄, hsz₄, R₄⟩ := h₄
        have zI := (N₄ (I, oI) List.mem_cons_self).1
        k_extra "c140"
        k_extra "c104"
        k_extra "c95"
        k_extra "c141"
        have off4 := off₄.mem
        refine comp_inner (s := { s₂ with heap := h₄, toks := tk₄ }) hh (N₄'.isList hl₄) (off4 _ hl₄).2.2 (off4 _ hl₄).2.1 zD hDC (hoC.ns zC) (lookup_relabel_local hyl) (by simp [compEnvC, relabel, hkind]) hyd (by rw [sizeLine_eq]; omega) ?_
        intro h₅ tk₅ m₅ hn₅ hD₅ hk₅
        refine ⟨n + 1 - (i + 1), by omega, h₅, tk₅, i + 1, ys ++ vs, _, news₄, rfl, hlt, rfl, W.frame _ _ _ hst₄ fun b hb o e => hk₅ b o (fun q => hCf (by have q' : b = H2.objs.size := q; rw [← q']; exact hb)) (fun q => hDf (q ▸ hb)) e, ?_,
          hn₅, fun p hp => ?_, off₄, hS₄, ?_⟩
        · exact ⟨F₄.ns.at' fun o e => hk₅ _ o (Ne.symm hCL) (Ne.symm hDL) e, fun b o e => hk₅ b o (fun q => by have q' : b = H2.objs.size := q; rw [q', hC₀] at e; cases e) (fun q => by rw [q, hD₀] at e; cases e) (F₄.keep b o e), F₄.above⟩
        · rcases List.mem_cons.mp hp with rfl | hp
          · exact ⟨hD₅, hDL, hD₀⟩
          · exact ⟨hk₅ _ _ (off4 p hp).2.1 (off4 p hp).2.2 (N₄' p hp).1, (N₄' p hp).2⟩
        · rw [show n - (i + 1) = j by omega]
          exact R₄
      · obtain rfl : i = n := Nat.le_antisymm hi (Nat.not_lt.mp hlt)
        rw [Nat.sub_self] at R'
        refine W.done _ _ _ hst' ?_
        intro h₂ tk₂ hk₂
        have off3 := off'.mem
        exact hRR _ _ h₂ tk₂ _ ys news' (fr_but F' hk₂ hIL hI₀) (news_but N' hk₂ fun p hp => by
          k_extra "c22"
          · exact Ne.symm hDI
          · exact (off3 p hp).1) off'.one (hn'.at' fun o e => hk₂ _ o (by simpa using Ne.symm hCI) e) hC₀ hD₀ hCL hDL (Ne.symm hDC) (fun p hp => (off3 p hp).2.1) R'
    · rcases List.mem_cons.mp hp with rfl | hp
      · exact ⟨hacc, hDL, hD₀⟩
      · exact ⟨old _ _ (N p hp).1, (N p hp).2⟩
  k_extra "c152"
in #guard_msgs (drop info, drop warning) in open Nat
theorem zComp26 : True := trivial
end Z
end
theorem eComp21 : True := trivial
end Mine
-- Comp1
namespace Mine
example : True := by
  k_with "omega" => first | ((fail_if_success have hzz := eComp11); (first | k_extra "ub" | (simp +arith only; done) | k_extra "fk" | lia | omega (config := {}))) | fail
  trivial
example : True := by
  k_with "fk" => first | ((fail_if_success have hzz := eComp11); (with_reducible (first | exact fk12 (by assumption) (by assumption) (by assumption) | exact fk13 (by assumption) (by assumption) (by assumption)))) | fail
  trivial
open LCg
section
variable {prog : Program} {w : World} {A : Around} {s : Shared} {R : Result → Shared → Prop}
set_option Elab.async true in
theorem loop_1 {elt iter target : Expr} {scope : Scope} {pos : Pos} {it acc : Value} {env : Env} (I : Nat → Shared → Prop)
    (turn : ∀ n s, I n s → wpAny (model prog w) A (pyNext it) (fun r s₁ => match r with
      | none => R (.ok .next) s₁
      | some v => wpAny (model prog w) A (letOwnedTupleGo target it v) (fun _ s₁' => wpAny (model prog w) A (assign target env v) (fun _ s₂ =>
          wpAny (model prog w) A (eval elt env) (fun x s₄ =>
              wpAny (model prog w) A (call (.builtin "list.append") [acc, x]) (fun _ s₅ => ∃ m, m < n ∧ I m s₅) (notedBy (model prog w) A env fun e s' => R (.error e) s') s₄) (notedBy (model prog w) A env fun e s' => R (.error e) s') s₂)
          (notedBy (model prog w) A env fun e s' => R (.error e) s') s₁') (notedBy (model prog w) A env fun e s' => R (.error e) s') s₁) (notedBy (model prog w) A env fun e s' => R (.error e) s') s)
    (n : Nat) (h : I n s) : codeAny (model prog w) A (.compLoop (.ListComp elt [⟨target, iter, [], 0⟩] scope pos) 0 it acc env) R s := by
  refine codeAny_loop rfl I (fun n s hI => ?_) n h
  show wpAny _ A ((compTurn (.ListComp elt [⟨target, iter, [], 0⟩] scope pos) 0 it acc env).onRaise (fun x => do noteFrame x env; theTreesLotGoes x)) _ _ s
  refine wpAny_noted ?_
  rw [compTurn_list]
  k_extra "c109"
  cases r with
  | none => exact wpAny_pure h₁
  | some v =>
    refine wpAny_bind (wpAny_mono h₁ (fun _ s₁' h₁' => ?_) fun _ _ h' => h')
    refine wpAny_bind (wpAny_mono h₁' (fun _ s₂ h₂ => wpAny_bind (wpAny_mono (wpAny_tests_nil (Q := fun ok s₃ => ok = true ∧ s₃ = s₂) ⟨rfl, rfl⟩) (fun ok s₃ h₃ => ?_) fun _ _ h' => h')) fun _ _ h' => h')
    obtain ⟨rfl, rfl⟩ := h₃
    k_extra "c53"
in #guard_msgs (drop info, drop warning) in open Nat
end
noncomputable def CompEnd1 (h₀ : Heap) (L : Addr) (m : Str → Option Value) (s₁ : Shared) (I : Addr) (oI : Obj) (C : Addr) (oC : Obj) (D : Addr) (ys : List Value) (S : Led → Prop) (rest : Value → Led → Prop) (z : Value) (s₂ : Shared) : Prop :=
  ∃ h' tk news', s₂ = { s₁ with heap := h', toks := tk } ∧ Fr h₀ L h' m ∧ News h₀ L h' ((I, oI) :: (C, oC) :: (D, lst ys) :: news') ∧ Off3 I C D news' ∧ S news' ∧ ys.length ≤ 1000000 ∧ rest z news'
noncomputable def CompRest1 (prog : Program) (w : World) (A : Around) (h₀ : Heap) (L : Addr) (m : Str → Option Value) (env : Env) (elt : Expr) (scope : Scope) (cl : List (Str × Addr)) (s : Shared) (S : Led → Prop) (G : Nat → (Str → Option Value) → Prop)
    (Fin : List Value → Led → Prop) : Nat → Nat → List Value → Led → Prop
  | 0, _, ys, news => Fin ys news
  | k + 1, i, ys, news => ∀ I oI C oC D m₂ h tk (E' : Value → Shared → Prop), NsObj oC m₂ → G i m₂ → Fr h₀ L h m → News h₀ L h ((I, oI) :: (C, oC) :: (D, lst ys) :: news) → Off3 I C D news → ((@Ne Nat I C) ∧ (@Ne Nat I D) ∧ (@Ne Nat C D)) →
      wpAny (model prog w) A (eval elt (compEnvC scope cl C env)) (CompEnd1 h₀ L m { s with heap := h, toks := tk } I oI C oC D ys S (fun y news' => CompRest1 prog w A h₀ L m env elt scope cl s S G Fin k (i + 1) (ys ++ [y]) news')) E' { s with heap := h, toks := tk }
section
variable {prog : Program} {w : World} {A : Around} {E : Value → Shared → Prop} {s : Shared} {h₀ : Heap} {L : Addr} {m : Str → Option Value} {env : Env}
set_option Elab.async true in
theorem rest1_ind {elt : Expr} {scope : Scope} {cl : List (Str × Addr)} {s : Shared} {S : Led → Prop} {G : Nat → (Str → Option Value) → Prop} {Fin : List Value → Led → Prop} {n : Nat} {news : Led} (Iv : Nat → List Value → Led → Prop)
    (h0 : Iv 0 [] news) (hend : ∀ ys nw, Iv n ys nw → Fin ys nw)
    (step : ∀ i ys nw (Next : Value → Led → Prop), i < n → Iv i ys nw → (∀ v nw', Iv (i + 1) (ys ++ [v]) nw' → Next v nw') →
      ∀ I oI C oC D m₂ h tk (E' : Value → Shared → Prop), NsObj oC m₂ → G i m₂ → Fr h₀ L h m → News h₀ L h ((I, oI) :: (C, oC) :: (D, lst ys) :: nw) → Off3 I C D nw → ((@Ne Nat I C) ∧ (@Ne Nat I D) ∧ (@Ne Nat C D)) →
      wpAny (model prog w) A (eval elt (compEnvC scope cl C env)) (CompEnd1 h₀ L m { s with heap := h, toks := tk } I oI C oC D ys S Next) E' { s with heap := h, toks := tk }) :
    CompRest1 prog w A h₀ L m env elt scope cl s S G Fin n 0 [] news := by
  have H : ∀ (k i : Nat) (ys : List Value) (nw : Led), k + i = n → Iv i ys nw → CompRest1 prog w A h₀ L m env elt scope cl s S G Fin k i ys nw := by
    intro k
    induction k with
    | zero => intro i ys nw hk hI; obtain rfl : i = n := by omega
              exact hend _ _ hI
    | succ k ih =>
      intro i ys nw hk hI
      exact step i ys nw (fun v nw' => CompRest1 prog w A h₀ L m env elt scope cl s S G Fin k (i + 1) (ys ++ [v]) nw') (by omega) hI fun v nw' hI' => ih _ _ _ (by omega) hI'
  exact H n 0 [] news (by omega) h0
in #guard_msgs (drop info, drop warning) in open Nat
namespace Z
example : True := by
  k_with "eps" => first | ((fail_if_success have hzz := zComp14); skip) | fail
  trivial
set_option Elab.async true in
theorem block_1 : ∀ {prog : Program} {w : World} {A : Around} {E : Value → Shared → Prop} {h₀ : Heap} {L : Addr} {m : Str → Option Value} {env : Env} {target iter elt : Expr} {scope : Scope} {cl : List (Str × Addr)} {pos : Pos} {s₂ : Shared} {I : Addr} {fp : List Addr} {n : Nat} {P : Nat → Value → Prop} {St : Nat → Heap → Prop} {S : Led → Prop} {G : Nat → (Str → Option Value) → Prop} {news : Led} {Fin : List Value → Led → Prop} {RR : Value → Addr → Result → Shared → Prop} (hh : A.handled = none) (W : Walks prog w A I fp [I] n P St) (hIo : ∀ i h, St i h → ∃ o, h.get? I = some o) (hSt : ∀ i h h' o nw, St i h → h.get? I = some o → h'.get? I = some o → (∀ b o, h₀.get? b = some o → h'.get? b = some o) → News h₀ L h' nw → S nw → St i h') (hcell : ∀ y ∈ scope.names, y.2 ≠ .cell) (hkind : scope.kind = .function) (hasg : ∀ C i v h₂ tk₂ m' nw (Q : Unit → Shared → Prop) (E' : Value → Shared → Prop), P i v → St (i + 1) h₂ → h₂.Ns C m' → News h₀ L h₂ nw → S nw →
      (∀ h₃ m₂ tk₃, G i m₂ → h₃.Ns C m₂ → (∀ b o, b ∉ [C] → h₂.get? b = some o → h₃.get? b = some o) → Q () { s₂ with heap := h₃, toks := tk₃ }) →
      wpAny (model prog w) A (letOwnedTupleGo target (.ref I) v) (fun _ s' => wpAny (model prog w) A (assign target (compEnvC scope cl C env) v) Q E' s') E' { s₂ with heap := h₂, toks := tk₂ }) (hst : St 0 s₂.heap) (hfp : ∀ b ∈ fp, b < s₂.heap.objs.size) (F : Fr h₀ L s₂.heap m) (N : News h₀ L s₂.heap news) (hIL : L ≠ I) (hI₀ : h₀.get? I = none) (off : ∀ p ∈ news, p.1 ≠ I) (hS : S news) (R : CompRest1 prog w A h₀ L m env elt scope cl s₂ S G Fin n 0 [] news) (hRR : ∀ D C h tk m' ys news', Fr h₀ L h m → News h₀ L h ((D, lst ys) :: news') → Off1 D news' → h.Ns C m' → h₀.get? C = none → h₀.get? D = none → C ≠ L → D ≠ L → C ≠ D → (∀ p ∈ news', p.1 ≠ C) → Fin ys news' → RR (.ref D) C (.ok .next) { s₂ with heap := h, toks := tk }), wpAny (model prog w) A (newList []) (fun acc s₃ => wpAny (model prog w) A (newFunctionEnv scope env.globals cl [] env.qual none .none (some env)) (fun cenv s₄ =>
      codeAny (model prog w) A (.compStart (.ListComp elt [⟨target, iter, [], 0⟩] scope pos) 0 (.ref I) acc { cenv with scope := relabel scope env }) (RR acc cenv.locals) s₄) E s₃) E s₂ := by
  intro prog w A E h₀ L m env target iter elt scope cl pos s₂ I fp n P St S G news Fin RR hh W hIo hSt hcell hkind hasg hst hfp F N hIL hI₀ off hS R hRR
  k_extra "c127"
  intro h₁ hns₁ hsb₁
  dsimp only at hns₁ hsb₁ ⊢
  k_extra "c96"
  k_extra "c139"
  k_extra "c115"
  k_extra "c56"
  k_extra "c153"
  k_extra "c98"
  have hIf : I ∈ fp := W.sub I (List.mem_singleton.mpr rfl)
  have hIlt : I < s₂.heap.objs.size := hfp I hIf
  k_extra "c50"
  k_extra "c87"
  have hst₁ : St 0 h₁ := W.frame _ _ _ hst fun b _ o e => old b o e
  have fresh : ∀ a, s₂.heap.objs.size ≤ a → s₂.heap.get? a = none := fun a ha => by
    cases e : s₂.heap.get? a with
    | none => rfl
    | some o' => exact absurd (Heap.lt_size e) (Nat.not_lt.mpr ha)
  have fresh₀ : ∀ a, s₂.heap.objs.size ≤ a → h₀.get? a = none := fun a ha => by
    cases e : h₀.get? a with
    | none => rfl
    | some o' => have := F.keep a o' e; rw [fresh a ha] at this; cases this
  k_extra "c150"
  k_extra "c130"
  have hLlt : L < s₂.heap.objs.size := F.ns.lt
  have hDL : s₂.heap.objs.size ≠ L := Ne.symm (below L hLlt).2
  have hCL : H2.objs.size ≠ L := Ne.symm (below L hLlt).1
  have hCI : I ≠ H2.objs.size := (below I hIlt).1
  have hDI : I ≠ s₂.heap.objs.size := (below I hIlt).2
  k_extra "c77"
  have loop : ∀ s₃ : Shared, s₃ = { s₂ with heap := h₁, toks := s₂.toks + ([] : List (Str × Value)).length } →
      codeAny (model prog w) A (.compLoop (.ListComp elt [⟨target, iter, [], 0⟩] scope pos) 0 (.ref I) (.ref s₂.heap.objs.size) (compEnvC scope cl H2.objs.size env))
        (RR (.ref s₂.heap.objs.size) H2.objs.size) s₃ := by
    intro s₃ e9
    subst e9
    refine loop_1
      (fun k s' => ∃ h' tk i ys m' news', s' = { s₂ with heap := h', toks := tk } ∧ i ≤ n ∧ k = n + 1 - i ∧ St i h' ∧ Fr h₀ L h' m ∧ h'.Ns H2.objs.size m' ∧ News h₀ L h' ((s₂.heap.objs.size, lst ys) :: news') ∧
        Off3 I H2.objs.size s₂.heap.objs.size news' ∧ S news' ∧ CompRest1 prog w A h₀ L m env elt scope cl s₂ S G Fin (n - i) i ys news') ?_ (n + 1)
      ⟨h₁, _, 0, [], _, news, rfl, Nat.zero_le _, rfl, hst₁, F.keeps old, hns₁, fun p hp => ?_, off₀, hS, R⟩
    · intro k s' hh9
      k_extra "c125"
      by_cases hlt : i < n
      · have hh8 : ∃ j, n - i = j + 1 := ⟨n - i - 1, by omega⟩
        obtain ⟨j, hj⟩ := hh8
        rw [hj] at R'
        refine W.item i _ _ _ hlt hst' ?_
        intro v h₂ tk₂ hPv hst₂ hk₂
        have off3 := off'.mem
        have N₂ : News h₀ L h₂ ((s₂.heap.objs.size, lst ys) :: news') := news_but N' hk₂ fun p hp => by
          k_extra "c22"
          · exact Ne.symm hDI
          · exact (off3 p hp).1
        k_extra "c74"
        intro h₃ m₂ tk₃ hG hn₃ hs₃
        k_extra "c90"
        k_extra "c102"
        obtain ⟨oI, heI⟩ := hIo _ _ hst₃
        obtain ⟨oC, heC, hoC⟩ := ns_obj hn₃
        k_extra "c126"
        have N₃ : News h₀ L h₃ ((I, oI) :: (H2.objs.size, oC) :: (s₂.heap.objs.size, lst ys) :: news') := fun p hp => by
          k_extra "c22"
          · exact ⟨heI, Ne.symm hIL, hI₀⟩
          · rcases List.mem_cons.mp hp with rfl | hp
            · exact ⟨heC, hCL, hC₀⟩
            · have z := N₂ p hp
              refine ⟨old3 _ _ ?_ z.1, z.2⟩
              k_extra "c22"
              · exact hDC
              · exact (off3 p hp).2.1
        k_extra "c85"
        intro z s₄ h₄
        obtain ⟨h₄, tk₄, news₄, rfl, F₄, N₄, off₄, hS₄, hsz₄, R₄⟩ := h₄
        have zI := (N₄ (I, oI) List.mem_cons_self).1
        k_extra "c140"
        k_extra "c104"
        k_extra "c95"
        k_extra "c141"
        have off4 := off₄.mem
        refine append_at (hsz := by show ys.toArray.size ≤ sizeLine; rw [List.size_toArray, sizeLine_eq]; omega) zD ?_
        intro h₅ hs₅ hD₅
        refine ⟨n + 1 - (i + 1), by omega, h₅, tk₄, i + 1, ys ++ [z], _, news₄, rfl, hlt, rfl, W.frame _ _ _ hst₄ fun b hb o e => hs₅.extBut b o (fun q => hDf (q ▸ hb)) e, F₄.change hs₅ hDL hD₀,
          (hoC.ns zC).sameBut hs₅ (Ne.symm hDC), fun p hp => ?_, off₄, hS₄, ?_⟩
        · rcases List.mem_cons.mp hp with rfl | hp
          · exact ⟨hD₅.trans (congrArg some (lst_snoc ys z)), hDL, hD₀⟩
          · exact ⟨hs₅.extBut _ _ (off4 p hp).2.2 (N₄' p hp).1, (N₄' p hp).2⟩
        · rw [show n - (i + 1) = j by omega]
          exact R₄
      · obtain rfl : i = n := Nat.le_antisymm hi (Nat.not_lt.mp hlt)
        rw [Nat.sub_self] at R'
        refine W.done _ _ _ hst' ?_
        intro h₂ tk₂ hk₂
        have off3 := off'.mem
        exact hRR _ _ h₂ tk₂ _ ys news' (fr_but F' hk₂ hIL hI₀) (news_but N' hk₂ fun p hp => by
          k_extra "c22"
          · exact Ne.symm hDI
          · exact (off3 p hp).1) off'.one (hn'.at' fun o e => hk₂ _ o (by simpa using Ne.symm hCI) e) hC₀ hD₀ hCL hDL (Ne.symm hDC) (fun p hp => (off3 p hp).2.1) R'
    · rcases List.mem_cons.mp hp with rfl | hp
      · exact ⟨hacc, hDL, hD₀⟩
      · exact ⟨old _ _ (N p hp).1, (N p hp).2⟩
  k_extra "c152"
in #guard_msgs (drop info, drop warning) in open Nat
theorem zComp14 : True := trivial
end Z
end
noncomputable def SrcO (o : Obj) (its : Array Value) : Prop := (∃ n, o = ({ cls := .type "list", data := .seq its n } : Obj)) ∨ ∃ n, o = ({ cls := .type "tuple", data := .seq its n } : Obj)
section
variable {prog : Program} {w : World} {A : Around} {E : Value → Shared → Prop} {s : Shared} {h₀ : Heap} {L : Addr} {m : Str → Option Value} {env : Env}
set_option Elab.async true in
theorem letOwned_tupleiter {elts : List Expr} {x1} {pos : Pos} {I l T : Addr} {i : Nat} {Q : Unit → Shared → Prop} (hit : s.heap.IsTupleIter I l i) (hQ : Q () s) :
    wpAny (model prog w) A (letOwnedTupleGo (.Tuple elts x1 pos) (.ref I) (.ref T)) Q E s := by
  obtain ⟨o, ho, hc, hd⟩ := hit
  unfold letOwnedTupleGo
  refine wpAny_bind (wpAny_load ho ?_)
  rw [hc, hd]
  show wpAny _ A (if (["enumerate", "zip", "dict_itemiterator", "dict_reverseitemiterator", "odict_iterator", "itertools.zip_longest", "itertools.pairwise"].contains "tuple_iterator" &&
      (#[.ref l, .int i 0] : Array Value)[0]? == some (rawInt T)) = true then _ else _) Q E s
  rw [if_neg (by
    intro h
    rw [show (["enumerate", "zip", "dict_itemiterator", "dict_reverseitemiterator", "odict_iterator", "itertools.zip_longest", "itertools.pairwise"].contains "tuple_iterator") = false from by decide, Bool.false_and] at h
    cases h)]
  exact wpAny_pure hQ
in #guard_msgs (drop info, drop warning) in open Nat
set_option Elab.async true in
theorem src_walk {ax : Addr} {o : Obj} {its : Array Value} {news : Led} {Q : Value → Shared → Prop} (hh : A.handled = none) (N : News h₀ L s.heap news) (hm : (ax, o) ∈ news) (ho : SrcO o its)
    (h : ∀ (St : Nat → Heap → Prop) (oi : Obj), Walks prog w A s.heap.objs.size [s.heap.objs.size, ax] [s.heap.objs.size] its.size (fun i v => its[i]? = some v) St → (∀ i h, St i h → ∃ o, h.get? s.heap.objs.size = some o) →
      (∀ i (h h' : Heap) (oo : Obj) (nw : Led), St i h → h.get? s.heap.objs.size = some oo → h'.get? s.heap.objs.size = some oo → (∀ b o, h₀.get? b = some o → h'.get? b = some o) → News h₀ L h' nw → (ax, o) ∈ nw → St i h') →
      (∀ i (elts : List Expr) (x1) (pos : Pos) (T : Addr) (s' : Shared) (Q' : Unit → Shared → Prop) (E' : Value → Shared → Prop), St i s'.heap → Q' () s' → wpAny (model prog w) A (letOwnedTupleGo (.Tuple elts x1 pos) (.ref s.heap.objs.size) (.ref T)) Q' E' s') →
      St 0 (s.heap.push oi) → (∀ b ∈ [s.heap.objs.size, ax], b < (s.heap.push oi).objs.size) → Q (.ref s.heap.objs.size) { s with heap := s.heap.push oi }) : wpAny (model prog w) A (pyIter (.ref ax)) Q E s := by
  have hg := (N _ hm).1
  have hlt : ax < s.heap.objs.size := Heap.lt_size hg
  rcases ho with ⟨n, rfl⟩ | ⟨n, rfl⟩
  · have hl : s.heap.IsList ax its := ⟨_, hg, rfl, _, rfl⟩
    refine wpAny_pyIter_list hl (h _ _ (Walks.list hh s.heap.objs.size ax (Nat.ne_of_lt hlt) its) (fun i h st => by obtain ⟨o, e, _⟩ := st.1; exact ⟨o, e⟩) ?_ (fun i elts x1 pos T s' Q' E' st hQ => wpAny_letOwnedTupleGo_listiter st.1 hQ) ⟨⟨_, Heap.get?_push_size _ rfl, rfl, rfl⟩, hl.push _⟩ ?_)
    · k_extra "c82"
    · intro b hb
      rw [Heap.size_push]
      rcases List.mem_cons.mp hb with rfl | hb
      · exact Nat.lt_succ_self _
      · rw [List.mem_singleton.mp hb]; exact Nat.lt_succ_of_lt hlt
  · have hl : s.heap.IsTuple ax its := ⟨_, hg, rfl, _, rfl⟩
    refine wpAny_pyIter_tuple hl (h _ _ (Walks.tuple hh s.heap.objs.size ax (Nat.ne_of_lt hlt) its) (fun i h st => by obtain ⟨o, e, _⟩ := st.1; exact ⟨o, e⟩) ?_ (fun i elts x1 pos T s' Q' E' st hQ => letOwned_tupleiter st.1 hQ) ⟨⟨_, Heap.get?_push_size _ rfl, rfl, rfl⟩, ⟨_, Heap.get?_push_of_some _ hg, rfl, _, rfl⟩⟩ ?_)
    · k_extra "c82"
    · intro b hb
      rw [Heap.size_push]
      rcases List.mem_cons.mp hb with rfl | hb
      · exact Nat.lt_succ_self _
      · rw [List.mem_singleton.mp hb]; exact Nat.lt_succ_of_lt hlt
in #guard_msgs (drop info, drop warning) in open Nat
inductive Tgt (scope : Scope) (its : Array Value) : Expr → (Led → Prop) → (Nat → (Str → Option Value) → Prop) → Prop
  | name {x : Str} {px : Pos} : scope.names.lookup x = some .local → Tgt scope its (.Name x px) (fun _ => True) (fun i m => ∃ v, its[i]? = some v ∧ m x = some v)
  | pair {x x₂ : Str} {px px₂ tp : Pos} {tk} (pv : Nat → Value × Value) : scope.names.lookup x = some .local → scope.names.lookup x₂ = some .local → x ≠ x₂ →
      Tgt scope its (.Tuple [.Name x px, .Name x₂ px₂] tk tp) (fun nw => ∀ i v, its[i]? = some v → ∃ t n, v = .ref t ∧ (t, tupO [(pv i).1, (pv i).2] n) ∈ nw) (fun i m => m x = some (pv i).1 ∧ m x₂ = some (pv i).2)
set_option Elab.async true in
theorem tgt_asg : ∀ {prog : Program} {w : World} {A : Around} {h₀ : Heap} {L : Addr} {env : Env} {scope : Scope} {cl : List (Str × Addr)} {its : Array Value} {target : Expr} {S : Led → Prop} {G : Nat → (Str → Option Value) → Prop} (hh : A.handled = none) (hkind : scope.kind = .function) (tg : Tgt scope its target S G) {I C : Addr} {i : Nat} {v : Value} {h₂ : Heap} {m' : Str → Option Value} {nw : Led} {Q : Unit → Shared → Prop} {E' : Value → Shared → Prop} {s₂ : Shared} {tk₂ : Nat} (hlet : ∀ (elts : List Expr) (x1) (pos : Pos) (T : Addr) (s' : Shared) (Q' : Unit → Shared → Prop) (E' : Value → Shared → Prop), s'.heap = h₂ → Q' () s' → wpAny (model prog w) A (letOwnedTupleGo (.Tuple elts x1 pos) (.ref I) (.ref T)) Q' E' s') (hP : its[i]? = some v) (hn : h₂.Ns C m') (N : News h₀ L h₂ nw) (hS : S nw) (h : ∀ h₃ m₂ tk₃, G i m₂ → h₃.Ns C m₂ → (∀ b o, b ∉ [C] → h₂.get? b = some o → h₃.get? b = some o) → Q () { s₂ with heap := h₃, toks := tk₃ }), wpAny (model prog w) A (letOwnedTupleGo target (.ref I) v) (fun _ s' => wpAny (model prog w) A (assign target (compEnvC scope cl C env) v) Q E' s') E' { s₂ with heap := h₂, toks := tk₂ } := by
  intro prog w A h₀ L env scope cl its target S G hh hkind tg I C i v h₂ m' nw Q E' s₂ tk₂ hlet hP hn N hS h
  cases tg with
  | name hx =>
    refine wpAny_of_eq (show letOwnedTupleGo (.Name _ _) (.ref I) v = pure () from rfl) ?_
    exact wpAny_assign_Name (wpAny_storeName_local (lookup_relabel_local hx) hn (fun h₃ hn₃ hs₃ => h h₃ _ _ ⟨v, hP, by simp⟩ hn₃ fun b o hb e => hs₃.extBut b o (fun z => hb (List.mem_singleton.mpr z)) e) (by simp [compEnvC, relabel, hkind]))
  | pair pv hx hx₂ hxx =>
    obtain ⟨t, n, rfl, hm⟩ := hS i v hP
    refine hlet _ _ _ _ _ _ _ rfl ?_
    have ht : IsTup h₂ t #[(pv i).1, (pv i).2] := ⟨_, (N _ hm).1, rfl, n, rfl⟩
    refine assign_Tuple_tuple hh ht rfl rfl ?_
    intro h₅ he
    have he' : ∀ b o, h₂.get? b = some o → h₅.get? b = some o := fun b o e => he b o (Nat.ne_of_lt (Heap.lt_size e)) e
    refine assignInOrder_cons (wpAny_assign_Name (wpAny_storeName_local (lookup_relabel_local hx) (hn.at' fun o e => he' _ o e) ?_ (by simp [compEnvC, relabel, hkind])))
    intro h₆ hn₆ hs₆
    refine assignInOrder_cons (wpAny_assign_Name (wpAny_storeName_local (lookup_relabel_local hx₂) hn₆ ?_ (by simp [compEnvC, relabel, hkind])))
    intro h₃ hn₃ hs₃
    refine assignInOrder_nil ?_
    exact h h₃ _ _ ⟨by simp [hxx], by simp⟩ hn₃ fun b o hb e => hs₃.extBut b o (fun z => hb (List.mem_singleton.mpr z)) (hs₆.extBut b o (fun z => hb (List.mem_singleton.mpr z)) (he' b o e))
in #guard_msgs (drop info, drop warning) in open Nat
noncomputable def Src2 (prog : Program) (w : World) (A : Around) (h₀ : Heap) (L : Addr) (m : Str → Option Value) (env : Env) (target iter2 : Expr) (scope : Scope) (cl : List (Str × Addr)) (Fin : Shared → List Value → Led → Prop) (xv : Value) (s₁ : Shared) : Prop :=
  ∃ ax its o news S G, xv = .ref ax ∧ A.handled = none ∧ Fr h₀ L s₁.heap m ∧ News h₀ L s₁.heap news ∧ (ax, o) ∈ news ∧ SrcO o its ∧ Tgt scope its target S G ∧ S news ∧
    ∀ g, CompRest2 prog w A h₀ L m env iter2 scope cl { s₁ with heap := g } (fun nw => (ax, o) ∈ nw ∧ S nw) G (Fin { s₁ with heap := g }) its.size 0 [] news
noncomputable def Src1 (prog : Program) (w : World) (A : Around) (h₀ : Heap) (L : Addr) (m : Str → Option Value) (env : Env) (target elt : Expr) (scope : Scope) (cl : List (Str × Addr)) (Fin : Shared → List Value → Led → Prop) (xv : Value) (s₁ : Shared) : Prop :=
  ∃ ax its o news S G, xv = .ref ax ∧ A.handled = none ∧ Fr h₀ L s₁.heap m ∧ News h₀ L s₁.heap news ∧ (ax, o) ∈ news ∧ SrcO o its ∧ Tgt scope its target S G ∧ S news ∧
    ∀ g, CompRest1 prog w A h₀ L m env elt scope cl { s₁ with heap := g } (fun nw => (ax, o) ∈ nw ∧ S nw) G (Fin { s₁ with heap := g }) its.size 0 [] news
namespace Z
example : True := by
  k_with "eps" => first | ((fail_if_success have hzz := zComp15); skip) | fail
  trivial
set_option Elab.async true in
theorem ListComp_2 : ∀ {prog : Program} {w : World} {A : Around} {E : Value → Shared → Prop} {s : Shared} {h₀ : Heap} {L : Addr} {m : Str → Option Value} {env : Env} {target iter iter2 : Expr} {y : Str} {py pe : Pos} {scope : Scope} {cl : List (Str × Addr)} {pos : Pos} {Q : Value → Shared → Prop} (_F₀ : Fr h₀ L s.heap m) (hclos : closureFor scope env = pure cl) (hcell : ∀ y ∈ scope.names, y.2 ≠ .cell) (hkind : scope.kind = .function) (hnames : ∀ y ∈ scope.names, y.2 = .local → scope.names.lookup y.1 = some .local) (hyl : scope.names.lookup y = some .local) (h : wpAny (model prog w) A (eval iter env) (Src2 prog w A h₀ L m env target iter2 scope cl (fun s₂ => FinE h₀ L m s₂ Q)) E s) (hyd : (y == ("__debug__" : Str)) = false) (hs : ∀ x, foldedSetIterable iter env x = pure x) (hs2 : ∀ C x, foldedSetIterable iter2 (compEnvC scope cl C env) x = pure x), wpAny (model prog w) A (eval (.ListComp (.Name y pe) [⟨target, iter, [], 0⟩, ⟨.Name y py, iter2, [], 0⟩] scope pos) env) Q E s := by
  intro prog w A E s h₀ L m env target iter iter2 y py pe scope cl pos Q _F₀ hclos hcell hkind hnames hyl h hyd hs hs2
  rw [eval_ListComp]
  k_extra "c52"
  intro xv s₁ h₁
  k_extra "c49"
  refine src_walk hh N hm ho ?_
  intro St oi W hIo hSt hlet hst hfp
  k_extra "c35"
  refine block_2 (s₂ := { s₁ with heap := s₁.heap.push oi }) hh W hIo (fun i h h' oo nw st e e' k N' S' => hSt i h h' oo nw st e e' k N' S'.1) hcell hkind hyl hyd hs2
    (fun C i v h₂ tk₂ m' nw Q' E' hP st hn N' hS' hq => tgt_asg hh hkind tg (fun elts x1 pos T s' Q'' E'' e hq' => hlet (i + 1) elts x1 pos T s' Q'' E'' (by rw [e]; exact st) hq') hP hn N' hS'.2 hq) hst hfp (F.keeps up) (N.grown up) (Nat.ne_of_lt F.ns.lt) (next_is_new F) (fun p hp => Nat.ne_of_lt (Heap.lt_size (N p hp).1)) ⟨hm, hS⟩ (R _) ?_
  k_extra "c55"
  k_extra "c48"
  intro p hp
  k_extra "c89"
  k_extra "c22"
  · exact Ne.symm hCD
  · exact offC p hp
in #guard_msgs (drop info, drop warning) in open Nat
theorem zComp15 : True := trivial
end Z
namespace Z
example : True := by
  k_with "eps" => first | ((fail_if_success have hzz := zComp16); skip) | fail
  trivial
set_option Elab.async true in
theorem ListComp_1 : ∀ {prog : Program} {w : World} {A : Around} {E : Value → Shared → Prop} {s : Shared} {h₀ : Heap} {L : Addr} {m : Str → Option Value} {env : Env} {target iter elt : Expr} {scope : Scope} {cl : List (Str × Addr)} {pos : Pos} {Q : Value → Shared → Prop} (_F₀ : Fr h₀ L s.heap m) (hclos : closureFor scope env = pure cl) (hcell : ∀ y ∈ scope.names, y.2 ≠ .cell) (hkind : scope.kind = .function) (hnames : ∀ y ∈ scope.names, y.2 = .local → scope.names.lookup y.1 = some .local) (h : wpAny (model prog w) A (eval iter env) (Src1 prog w A h₀ L m env target elt scope cl (fun s₂ => FinE h₀ L m s₂ Q)) E s) (hs : ∀ x, foldedSetIterable iter env x = pure x), wpAny (model prog w) A (eval (.ListComp elt [⟨target, iter, [], 0⟩] scope pos) env) Q E s := by
  intro prog w A E s h₀ L m env target iter elt scope cl pos Q _F₀ hclos hcell hkind hnames h hs
  rw [eval_ListComp]
  k_extra "c52"
  intro xv s₁ h₁
  k_extra "c49"
  refine src_walk hh N hm ho ?_
  intro St oi W hIo hSt hlet hst hfp
  k_extra "c35"
  refine block_1 (s₂ := { s₁ with heap := s₁.heap.push oi }) hh W hIo (fun i h h' oo nw st e e' k N' S' => hSt i h h' oo nw st e e' k N' S'.1) hcell hkind
    (fun C i v h₂ tk₂ m' nw Q' E' hP st hn N' hS' hq => tgt_asg hh hkind tg (fun elts x1 pos T s' Q'' E'' e hq' => hlet (i + 1) elts x1 pos T s' Q'' E'' (by rw [e]; exact st) hq') hP hn N' hS'.2 hq) hst hfp (F.keeps up) (N.grown up) (Nat.ne_of_lt F.ns.lt) (next_is_new F) (fun p hp => Nat.ne_of_lt (Heap.lt_size (N p hp).1)) ⟨hm, hS⟩ (R _) ?_
  k_extra "c55"
  k_extra "c48"
  intro p hp
  k_extra "c89"
  k_extra "c22"
  · exact Ne.symm hCD
  · exact offC p hp
in #guard_msgs (drop info, drop warning) in open Nat
theorem zComp16 : True := trivial
end Z
end
theorem eComp11 : True := trivial
end Mine
-- Ind
namespace Mine
theorem tm_ind {P : Tm → Prop} (h1 : ∀ op, P (.leaf op)) (h2 : ∀ op x, P x → P (.one op x)) (h3 : ∀ op x y, P x → P y → P (.two op x y)) : ∀ t, P t
  | .leaf op => h1 op
  | .one op x => h2 op x (tm_ind h1 h2 h3 x)
  | .two op x y => h3 op x y (tm_ind h1 h2 h3 x) (tm_ind h1 h2 h3 y)
theorem nat_ind {P : Nat → Prop} (h0 : P 0) (hs : ∀ n, P n → P (n + 1)) : ∀ n, P n
  | 0 => h0
  | n + 1 => hs n (nat_ind h0 hs n)
theorem nat_or (n : Nat) : n = 0 ∨ ∃ m, n = m + 1 := match n with | 0 => .inl rfl | m + 1 => .inr ⟨m, rfl⟩
theorem opt_or {α : Type} (o : Option α) : o = none ∨ ∃ x, o = some x := match o with | none => .inl rfl | some x => .inr ⟨x, rfl⟩
theorem isTm_leaf {news : Led} {v : Value} {op : Str} (h : IsTm news v (.leaf op)) : ∃ a tk n, v = .ref a ∧ (a, tupO [.str op tk] n) ∈ news := by
  cases h with | leaf hm => exact ⟨_, _, _, rfl, hm⟩
theorem isTm_one {news : Led} {v : Value} {op : Str} {x : Tm} (h : IsTm news v (.one op x)) : ∃ a tk n u, v = .ref a ∧ (a, tupO [.str op tk, u] n) ∈ news ∧ IsTm news u x := by
  cases h with | one hm hx => exact ⟨_, _, _, _, rfl, hm, hx⟩
theorem isTm_two {news : Led} {v : Value} {op : Str} {x y : Tm} (h : IsTm news v (.two op x y)) : ∃ a tk n u z, v = .ref a ∧ (a, tupO [.str op tk, u, z] n) ∈ news ∧ IsTm news u x ∧ IsTm news z y := by
  cases h with | two hm hx hy => exact ⟨_, _, _, _, _, rfl, hm, hx, hy⟩
theorem off3_I {I C D P : Addr} {o : Obj} {l : Led} (h : LCg.Off3 I C D l) (k : (P, o) ∈ l) : @Ne Nat I P := ((h.mem) _ k).1.symm
theorem off3_C {I C D P : Addr} {o : Obj} {l : Led} (h : LCg.Off3 I C D l) (k : (P, o) ∈ l) : @Ne Nat C P := ((h.mem) _ k).2.1.symm
theorem off3_D {I C D P : Addr} {o : Obj} {l : Led} (h : LCg.Off3 I C D l) (k : (P, o) ∈ l) : @Ne Nat D P := ((h.mem) _ k).2.2.symm
theorem ne_S {P L : Addr} (h : @LT.lt Nat _ P L) : @Ne Nat (L + 1) P := Nat.ne_of_gt (Nat.lt_succ_of_lt h)
theorem ne_SS {P L : Addr} (h : @LT.lt Nat _ P L) : @Ne Nat (L + 1 + 1) P := Nat.ne_of_gt (Nat.lt_succ_of_lt (Nat.lt_succ_of_lt h))
theorem ne_ofA {l : Led} {P d : Addr} {o : Obj} (h : AllLt d l) (k : (P, o) ∈ l) : @Ne Nat d P := Nat.ne_of_gt (ktn_ltOf h _ k)
theorem ne_ltR {P d : Addr} (h : @LT.lt Nat _ P d) : @Ne Nat d P := Nat.ne_of_gt h
theorem ne_ofL {l : Led} {P d : Addr} {o : Obj} (h : ∀ p ∈ l, p.1 < d) (k : (P, o) ∈ l) : @Ne Nat P d := Nat.ne_of_lt (h _ k)
theorem ne_ofR {l : Led} {P d : Addr} {o : Obj} (h : ∀ p ∈ l, p.1 < d) (k : (P, o) ∈ l) : @Ne Nat d P := Nat.ne_of_gt (h _ k)
theorem cj_I {P I : Nat} {B R : Prop} (h : (P ≠ I ∧ B) ∧ R) : I ≠ P := h.1.1.symm
theorem cj_C {P C : Nat} {A B R : Prop} (h : (A ∧ P ≠ C ∧ B) ∧ R) : C ≠ P := h.1.2.1.symm
theorem cj_D {P D : Nat} {A B R : Prop} (h : (A ∧ B ∧ P ≠ D) ∧ R) : D ≠ P := h.1.2.2.symm
end Mine
-- Term
namespace Mine
example : True := by
  k_with "fk" => first | ((fail_if_success have hzz := eTerm1); (with_reducible (first | exact fk14 (by assumption) | exact fk15 (by assumption) | exact fk16 (by assumption) (by assumption) (by assumption) | exact fk17 (by assumption) (by assumption) (by assumption) | exact fk18 (by assumption) | exact fk19 (by assumption) (by assumption) | exact fk20 (by assumption) (by assumption) (by assumption) | exact fk21 (by assumption) | exact fk22 (by assumption) (by assumption) | exact fk23 (by assumption) | exact fk24 (by assumption) | exact fk25 (by assumption) (by assumption) (by assumption) (by assumption) | exact fk26 | exact fk27 (by assumption) (by assumption) | exact fk28 (by assumption) (by assumption) | exact fk29 (by assumption) (by assumption) (by assumption)))) | fail
  trivial
example : True := by
  k_with "ite" => first | ((fail_if_success have hzz := eTerm1); (first | with_reducible refine ite_pos (by k_dflt decide) ?_ | with_reducible refine ite_neg (by k_dflt decide) ?_)) | fail
  k_with "k_ne" => first | ((fail_if_success have hzz := eTerm1); (focus ((with_reducible show @Ne Nat _ _); first | k_extra "ubn" | exact cj_I (by with_reducible assumption) | exact cj_C (by with_reducible assumption) | exact cj_D (by with_reducible assumption) | exact cj_I (And.right (by with_reducible assumption)) | exact cj_C (And.right (by with_reducible assumption)) | exact cj_D (And.right (by with_reducible assumption)) | exact cj_I (And.right (And.right (by with_reducible assumption))) | exact cj_C (And.right (And.right (by with_reducible assumption))) | exact cj_D (And.right (And.right (by with_reducible assumption))) | exact cj_I (And.right (And.right (And.right (by with_reducible assumption)))) | exact cj_C (And.right (And.right (And.right (by with_reducible assumption)))) | exact cj_D (And.right (And.right (And.right (by with_reducible assumption)))) | exact cj_I (And.right (And.right (And.right (And.right (by with_reducible assumption))))) | exact cj_C (And.right (And.right (And.right (And.right (by with_reducible assumption))))) | exact cj_D (And.right (And.right (And.right (And.right (by with_reducible assumption))))) | exact off3_I (by with_reducible assumption) (by k_mem) | exact off3_C (by with_reducible assumption) (by k_mem) | exact off3_D (by with_reducible assumption) (by k_mem) | exact ne_ofA (by with_reducible assumption) (by k_mem) | exact ne_S (by with_reducible assumption) | exact ne_SS (by with_reducible assumption)))) | fail
  k_with "k_all" => first | ((fail_if_success have hzz := eTerm1); (first | with_reducible assumption | with_reducible exact List.forall_mem_nil _ | ((with_reducible refine List.forall_mem_cons.mpr ⟨?_, ?_⟩) <;> first | k_ne | k_all) | ((with_reducible refine List.forall_mem_append.mpr ⟨?_, ?_⟩) <;> k_all) | assumption)) | fail
  k_with "k_mem" => first | ((fail_if_success have hzz := eTerm1); ((repeat (first | exact List.Mem.head _ | apply List.Mem.tail | apply mem_inr | with_reducible assumption | assumption)); done)) | fail
  k_with "call ref" => first | ((fail_if_success have hzz := eTerm1); (k_here; (with_reducible show wpAny _ _ (call (Value.ref 291) _) _ _ _); first | (k_dflt (refine draw_use (by k_asm) (by k_asm) (by k_asm) (by k_asm) (by k_asm) (by first | assumption | rfl) (by k_extra "c3") (by assumption) (by k_all) (by k_mem) (by assumption) (by assumption) (by decide) (by omega) (by ktr_room) (by ktr_units) ?_); intro qv9 qtk9 qo9 qh9 qtk9' qF9 qN9 qP9 qe9 qlo9 qhi9 qne9 qhR9; (try k_sweep); (try k_fold)) | refine stuck_of ?_)) | fail
  k_with "subscriptTail List cons Call ref int" => first | ((fail_if_success have hzz := eTerm1); (k_here; (with_reducible show wpAny _ _ (subscriptTail _ _ (Value.ref _) (Value.int _ _)) _ _ _); k_dflt (refine kba_turn (value' := PySem.Expr.Name (PySem.Str.ofString "x") ⟨0, 0, 0, 0⟩) (fun _ => rfl) ?_); k_dflt (refine m_pickS "a" (by k_asm) (by k_mem) (by repeat' constructor) (by omega) (by k_extra "c79") (by omega) ?_ (by with_unfolding_all rfl) (by k_extra "c23")); intro qtk8; (try k_fold))) | fail
  k_with "subscriptTail List cons BinOp ref int" => first | ((fail_if_success have hzz := eTerm1); (k_here; (with_reducible show wpAny _ _ (subscriptTail _ _ (Value.ref _) (Value.int _ _)) _ _ _); k_dflt (refine kba_turn (value' := PySem.Expr.Name (PySem.Str.ofString "x") ⟨0, 0, 0, 0⟩) (fun _ => rfl) ?_); k_dflt (refine m_pickS "a" (by k_asm) (by k_mem) (by repeat' constructor) (by omega) (by k_extra "c79") (by omega) ?_ (by with_unfolding_all rfl) (by k_extra "c23")); intro qtk8; (try k_fold))) | fail
  trivial
noncomputable def bT : Nat → Nat
  | 0 => 2
  | d + 1 => 2 * bT d
theorem bT_succ (d : Nat) : bT (d + 1) = 2 * bT d := rfl
theorem bT_two : ∀ d, 2 ≤ bT d
  | 0 => Nat.le_refl _
  | d + 1 => by rw [bT_succ]; have := bT_two d; omega
theorem genT_k {row : List Int} : ∀ (d k : Nat), (genT row d k).2 + 1 ≤ k + bT d
  | 0, k => by simp only [genT, bT]; omega
  | d + 1, k => by
    have e := bT_succ d
    have p := bT_two d
    have h1 := genT_k (row := row) d (k + 1)
    have h2 := genT_k (row := row) d (genT row d (k + 1)).2
    simp only [genT]
    split
    · dsimp only; omega
    · split <;> dsimp only <;> omega
noncomputable def TermSpec (w : World) (mean : ExcName → Option Value) (mg mb : Str → Option Value) (P R : Addr) (row : List Int) (vs : List Value) (n d : Nat) : Prop := ∀ (k : Nat) (tkd : Tok), k + bT d ≤ 50000 → ∀ (o : Obj) (news : Led), PenD w o R k → (∀ p ∈ news, p.1 ≠ P) → (R, listOf vs.toArray n) ∈ news →
    Tri LAW hd.heap_39 w mean mg mb 296 [.ref P, .int d tkd] (d + 4) (40 * (d + 2)) ((P, o) :: news)
      (PenOut w P R news o (genT row d k).2 (fun nw r => IsTm nw r (genT row d k).1))
set_option Elab.async true in
theorem term_use {w : World} {mean : ExcName → Option Value} {mg mb : Str → Option Value} {dp un : Nat} {gd : Option (List Code)} {cn : Str} {cs : Scope} {a : Addr} {ccd : Value} {cl : List (Str × Addr)} {outer : List Env} {A₀ : Around} {base h₀ : Heap} {L : Addr} {m : Str → Option Value} {s : Shared} {Q E : Value → Shared → Prop}
    {P R : Addr} {row : List Int} {vs : List Value} {n k d : Nat} {x : Int} {tkd : Tok} {o : Obj} {all rest : Led}
    (C : TermSpec w mean mg mb P R row vs n d)
    (B : Below A₀ base outer h₀) (F : Fr h₀ L s.heap m) (X : (hd.heap_39 w.params).In h₀) (N : News h₀ L s.heap all) (T : Top view (looseW view []) mean mg mb h₀) (hk : cs.kind = .function)
    (pk : Pick P o all rest) (hP : PenD w o R k) (hne : ∀ p ∈ rest, p.1 ≠ P) (hR : (R, listOf vs.toArray n) ∈ rest) (hx : x = d) (hkk : k + bT d ≤ 50000)
    (hd : dp + (d + 4) < recursionLimit) (hu : un + 40 * (d + 2) < cLine)
    (h : ∀ r tl o' h' tk', Fr h₀ L h' m → News h₀ L h' ((P, o') :: (tl ++ rest)) → Above ((P, o) :: rest) tl → (∀ p ∈ tl, p.1 ≠ P) → (∀ p ∈ rest, p.1 ≠ P) → (R, listOf vs.toArray n) ∈ rest → PenD w o' R (genT row d k).2 → (genT row d k).2 + 1 ≤ k + bT d → IsTm tl r (genT row d k).1 → Q r { s with heap := h', toks := tk' }) :
    wpAny (model PySem.Challenge.rw_pq0122_01.row.prog w) (ktrTop dp un gd cn cs L a ccd cl outer) (call (.ref 296) [.ref P, .int x tkd]) Q E s := by
  subst hx
  exact pen_use (fun o news => C k tkd hkk o news) B F X N T hk pk hP hne hR hd hu fun r tl o' h' tk' F' N' A' ne' neR' hR' P' r' => h r tl o' h' tk' F' N' A' ne' neR' hR' P' (genT_k d k) r'
in #guard_msgs (drop info, drop warning) in open Nat
theorem two_or_three {row : List Int} {k : Nat} {v : Int} (_e : drawAt row k 4 = v) (h : ¬ v < 2) (hi : v < 4) : v = 2 ∨ v = 3 := by omega
example : True := by
  k_with "binaryOp Sub int int" => first | ((fail_if_success have hzz := eTerm1); (rcases two_or_three (by assumption) (by assumption) (by assumption) with qh9 | qh9 <;> subst qh9)) | fail
  k_with "call ref" => first | ((fail_if_success have hzz := eTerm1); (k_here; (with_reducible show wpAny _ _ (call (Value.ref 296) _) _ _ _); first | (k_dflt (refine term_use (by assumption) (by k_asm) (by k_asm) (by k_asm) (by k_asm) (by k_asm) (by first | assumption | rfl) (by k_extra "c3") (by assumption) (by k_all) (by k_mem) (by omega) (by omega) (by ktr_room) (by ktr_units) ?_); intro qr9 qtl9 qo9 qh9 qtk9' qF9 qN9 qA9 qne9 qneR9 qhR9 qP9 qb9 qT9; (try k_sweep); (try k_fold)) | refine stuck_of ?_)) | fail
  k_with "eval ListComp" => first | ((fail_if_success have hzz := eTerm1); (k_here; k_dflt (refine LCg.ListComp_U (F₀ := by k_asm) (by with_unfolding_all rfl) (by decide) (by rfl) (by decide) (by rfl) ?_); k_dflt lcg_toSrc)) | fail
  k_with "CompSrc" => first | ((fail_if_success have hzz := eTerm1); (k_here; k_dflt (refine LCg.CompSrc.range (by rfl) (by k_asm) (by k_asm) (by assumption) (by decide) (by rfl) (by exact Nat.le_of_ble_eq_true rfl) ?_; intro qg'; lcg_lit))) | fail
  k_with "CompEnd" => first | ((fail_if_success have hzz := eTerm1); ((repeat (with_reducible rename _ ∧ _ => qhc9; obtain ⟨_, _⟩ := qhc9)); k_dflt (refine comp_end (by k_asm) (by k_asm) (by k_extra "c3") (by k_extra "c3") (by k_extra "c3") (by k_extra "c34") (by lcg_src) ?_))) | fail
  k_with "k_room" => first | ((fail_if_success have hzz := eTerm1); (ktr_room)) | fail
  k_with "ktr_room" => first | ((fail_if_success have hzz := eTerm1); ((try dsimp only [ktrTop]); omega)) | fail
  k_with "ktr_units" => first | ((fail_if_success have hzz := eTerm1); ((try dsimp only [ktrTop]); omega)) | fail
  k_with "binaryOp Add ref ref" => first | ((fail_if_success have hzz := eTerm1); (k_here; k_dflt (refine m_addT (by k_asm) (by k_asm) (by k_mem) (by k_mem) (by simp) (by simp) (by simp) ?_); intro qD' qh' qF' qN' ql1; (try k_lt ql1); (try k_sweep))) | fail
  trivial
namespace Z
example : True := by
  k_with "eps" => first | ((fail_if_success have hzz := zTerm5); skip) | fail
  trivial
set_option Elab.async true in
set_option maxHeartbeats 4000000 in
theorem term_tri : ∀ (w : World) (mean : ExcName → Option Value) (mg : Str → Option Value) (mb : Str → Option Value) (P R : Addr) (row : List Int) (vs : List Value) (n : Nat) (hl : row.length ≤ 60) (hI : IntsAre vs row), ∀ (d : Nat), d ≤ 2 → TermSpec w mean mg mb P R row vs n d := by
  intro w mean mg mb P R row vs n hl hI
  k_extra "c11"
  clear hK
  w_top off
  have gb0 : bT 0 = 2 := rfl
  refine nat_ind ?_ ?_
  · intro hd2 k tkd hkk o news hP hne hR
    unfold Tri
    k_extra "c14"
    refine wpAny_call ?_
    refine' code_defC ?k1 ?k2 ?k3 ?k4 ?k5 ?kA ?kF ?kK ?k6 ?k7 ?k8 ?k9 ?kB ?kD ?_ ?c2 ?c3 ?c4; (case kA => exact rfl); (case kF => exact rfl); (case kK => assumption); (case k1 => k_asm); (case k2 => k_asm); (case k3 => k_asm); (case k4 => k_asm); (case k5 => k_asm); (case k6 => k_is); (case k7 => k_is); (case k8 => ktr_room); (case k9 => exact BindsTo.of_eq rfl); (case kB => exact rfl); (case kD => decide +kernel); (case c2 => exact rfl); (case c3 => exact rfl); (case c4 => exact rfl); k_whole; intro g' L' h' tk' cells' FG' F' N' Y' B' X' T' l1; (try k_lt l1); k_cells Y'; (try simp only [List.cons_append, List.nil_append] at N'); (try dsimp only); (try k_fold)
    k_steps
    k_extra "c66"
    repeat (with_reducible rename _ ∧ _ => hc; obtain ⟨_, _⟩ := hc)
    rename drawAt _ _ _ = _ => e9; subst e9
    obtain ⟨nw, hN, hO⟩ := pen_end (P := P) (R := R) (news := news) (o := o) kN (by k_extra "c3") (by k_extra "c8") (by k_extra "c15") (by assumption) (Rel := fun nw r => IsTm nw r (genT row 0 k).1) (by exact .leaf (.head _))
    exact hret _ _ _ _ kF hN hO
  · intro d ih
    intro hd2
    have ih := ih (by omega)
    have gb := bT_succ d
    have gp := bT_two d
    intro k tkd hkk o news hP hne hR
    unfold Tri
    k_extra "c14"
    have gk := genT_k (row := row) d (k + 1)
    refine wpAny_call ?_
    refine' code_defC ?k1 ?k2 ?k3 ?k4 ?k5 ?kA ?kF ?kK ?k6 ?k7 ?k8 ?k9 ?kB ?kD ?_ ?c2 ?c3 ?c4; (case kA => exact rfl); (case kF => exact rfl); (case kK => assumption); (case k1 => k_asm); (case k2 => k_asm); (case k3 => k_asm); (case k4 => k_asm); (case k5 => k_asm); (case k6 => k_is); (case k7 => k_is); (case k8 => ktr_room); (case k9 => exact BindsTo.of_eq rfl); (case kB => exact rfl); (case kD => decide +kernel); (case c2 => exact rfl); (case c3 => exact rfl); (case c4 => exact rfl); k_whole; intro g' L' h' tk' cells' FG' F' N' Y' B' X' T' l1; (try k_lt l1); k_cells Y'; (try simp only [List.cons_append, List.nil_append] at N'); (try dsimp only); (try k_fold)
    k_steps
    k_extra "c54"
    k_extra "c88"
    · rename drawAt _ (k + 1) _ = _ => e8
      rename drawAt _ k _ = _ => e9
      have hg : genT row (d + 1) k = (.leaf (leafOps.getD (drawAt row (k + 1) 4).toNat "a"), k + 2) := by simp only [genT]; rw [if_pos (by omega)]
      rw [hg] at hret
      subst e8
      obtain ⟨nw, hN, hO⟩ := pen_end (P := P) (R := R) (news := news) (o := o) kN (by k_extra "c3") (by k_extra "c8") (by k_extra "c15") (by assumption) (Rel := fun nw r => IsTm nw r (.leaf (leafOps.getD (drawAt row (k + 1) 4).toNat "a"))) (by exact .leaf (.head _))
      exact hret _ _ _ _ kF hN hO
    · rename drawAt _ k _ = _ => e9
      have hg : genT row (d + 1) k = (.one "f" (genT row d (k + 1)).1, (genT row d (k + 1)).2) := by simp only [genT]; rw [if_neg (by omega), if_pos (by omega)]
      rw [hg] at hret
      rename IsTm _ _ _ => T9
      obtain ⟨nw, hN, hO⟩ := pen_end (P := P) (R := R) (news := news) (o := o) kN (by k_extra "c3") (by k_extra "c8") (by k_extra "c15") (by assumption) (Rel := fun nw r => IsTm nw r (.one "f" (genT row d (k + 1)).1)) (by exact .one (.head _) (T9.mono (fun p hp => by simp only [List.mem_cons, List.mem_append, hp, true_or, or_true])))
      exact hret _ _ _ _ kF hN hO
    · rename drawAt _ k _ = _ => e9
      have hg : genT row (d + 1) k = (.two "+" (genT row d (k + 1)).1 (genT row d (genT row d (k + 1)).2).1, (genT row d (genT row d (k + 1)).2).2) := by simp only [genT]; rw [if_neg (by omega), if_neg (by omega)]
      rw [hg] at hret
      rename IsTm _ _ (genT row d (k + 1)).1 => T9
      rename IsTm _ _ (genT row d (genT row d (k + 1)).2).1 => T8
      obtain ⟨nw, hN, hO⟩ := pen_end (P := P) (R := R) (news := news) (o := o) kN (by k_extra "c3") (by k_extra "c8") (by k_extra "c15") (by assumption) (Rel := fun nw r => IsTm nw r (.two "+" (genT row d (k + 1)).1 (genT row d (genT row d (k + 1)).2).1)) (by exact .two (.head _) (T9.mono (fun p hp => by simp only [List.mem_cons, List.mem_append, hp, true_or, or_true])) (T8.mono (fun p hp => by simp only [List.mem_cons, List.mem_append, hp, true_or, or_true])))
      exact hret _ _ _ _ kF hN hO
in #guard_msgs (drop info, drop warning) in open Nat
theorem zTerm5 : True := trivial
end Z
theorem eTerm1 : True := trivial
end Mine
-- Fw3
namespace Mine
example : True := by
  k_with "omega" => first | ((fail_if_success have hzz := eFw31); (first | k_extra "ub" | (simp +arith only; done) | k_extra "fk" | lia | omega (config := {}))) | fail
  trivial
example : True := by
  k_with "fk" => first | ((fail_if_success have hzz := eFw31); (with_reducible (first | exact fk30 (by assumption) | exact fk31 | exact fk32 (by assumption) (by assumption) | exact fk33 (by assumption) (by assumption) | exact fk34 (by assumption) | exact fk35 (by assumption) | exact fk36 (by assumption) (by assumption) | exact fk37 (by assumption) | exact fk38 (by assumption) | exact fk39 (by assumption) (by assumption) | exact fk40 (by assumption) (by assumption) (by assumption) | exact fk41))) | fail
  trivial
section
variable {prog : Program} {w : World} {A : Around} {E : Value → Shared → Prop} {s : Shared} {h₀ : Heap} {L : Addr} {m : Str → Option Value} {news : Led}
set_option Elab.async true in
theorem m_sliceTo {value slice : Expr} {l : Addr} {vs : List Value} {n : Nat} {k : Int} {tk : Tok} {Q : Value → Shared → Prop} {hp : Heap} {g : Array GenState} {dr : Drawn} {tt : Nat} {os : OsState} (F : Fr h₀ L hp m) (N : News h₀ L hp news) (hm : (l, listOf vs.toArray n) ∈ news) (h0 : 0 ≤ k) (hz : vs.length ≤ 1000)
    (h : ∀ D h', Fr h₀ L h' m → News h₀ L h' ((D, listOf (vs.take k.toNat).toArray 0) :: news) → (∀ p ∈ news, p.1 < D) → Q (.ref D) ⟨h', g, dr, tt, os⟩)
    (hs : subscripted slice false (.ref l) (.ref hp.objs.size) = operate [.ref hp.objs.size, .ref l] (getItem (.ref l) (.ref hp.objs.size))) (ht : ∀ r, letTemporaryGo value (.ref l) r = pure ()) :
    wpAny (model prog w) A (subscriptTail value slice (.ref l) (.ref hp.objs.size)) Q E ⟨hp.push { cls := .type "slice", data := .fields #[.none, .int k tk, .none] }, g, dr, tt, os⟩ := by
  refine kms_slice_lit (s := ⟨hp, g, dr, tt, os⟩) (lo := none) (hi := some k) F N (N.isList hm) IsPart.none (IsPart.int _ _) ?_ h hs ht (by rw [sizeLine_eq, List.size_toArray]; omega)
  unfold kms_pick kms_lo kms_hi
  dsimp only
  rw [if_neg (by omega), List.drop_zero, Nat.sub_zero, Nat.min_def]
  split
  · rfl
  · rw [List.take_length, List.take_of_length_le (by omega)]
in #guard_msgs (drop info, drop warning) in open Nat
theorem m_tupleOf {l : Addr} {vs : List Value} {n : Nat} {Q : Value → Shared → Prop} (F : Fr h₀ L s.heap m) (N : News h₀ L s.heap news) (hm : (l, listOf vs.toArray n) ∈ news) (hz : vs.length ≤ 1000)
    (h : ∀ D h', Fr h₀ L h' m → News h₀ L h' ((D, ({ cls := .type "tuple", data := .seq vs.toArray } : Obj)) :: news) → (∀ p ∈ news, p.1 < D) → Q (.ref D) { s with heap := h' }) : wpAny (model prog w) A (call (.type "tuple") [.ref l]) Q E s :=
  kde_tupleOf F N (N.isList hm) (by rw [List.size_toArray]; omega) (by simp) h
end
inductive Pp where
  | told (l : Str)
  | same (t : Tm)
  | rule (l : Str) (ps : List (Str × Tm))
  | turn (p : Pp)
  | join (p q : Pp)
  | under0 (op : Str)
  | under1 (op : Str) (p : Pp)
  | under2 (op : Str) (p q : Pp)
theorem ne_pp : Nonempty Pp := ⟨.under0 (Str.ofString "")⟩
inductive IsRow (news : Led) : List Value → List (Str × Tm) → Prop
  | nil : IsRow news [] []
  | cons {c : Addr} {x : Str} {tk : Tok} {n : Nat} {v : Value} {t : Tm} {vs : List Value} {ps : List (Str × Tm)} : (c, tupO [.str x tk, v] n) ∈ news → IsTm news v t → IsRow news vs ps → IsRow news (.ref c :: vs) ((x, t) :: ps)
theorem IsRow.mono {news news' : Led} {vs : List Value} {ps : List (Str × Tm)} (h : IsRow news vs ps) (hs : ∀ p ∈ news, p ∈ news') : IsRow news' vs ps := by
  induction h with
  | nil => exact .nil
  | cons hm t _ ih => exact .cons (hs _ hm) (t.mono hs) ih
theorem IsRow.take {news : Led} {vs : List Value} {ps : List (Str × Tm)} (h : IsRow news vs ps) : ∀ n, IsRow news (vs.take n) (ps.take n) := by
  induction h with
  | nil => intro n; rw [List.take_nil, List.take_nil]; exact .nil
  | cons hm t _ ih =>
    intro n
    cases n with
    | zero => exact .nil
    | succ n => exact .cons hm t (ih n)
inductive IsPp (news : Led) : Value → Pp → Prop
  | told {a : Addr} {k l : Str} {t u : Tok} {n : Nat} : (a, tupO [.str k t, .str l u] n) ∈ news → k = "told" → IsPp news (.ref a) (.told l)
  | same {a : Addr} {k : Str} {t : Tok} {n : Nat} {v : Value} {x : Tm} : (a, tupO [.str k t, v] n) ∈ news → k = "same" → IsTm news v x → IsPp news (.ref a) (.same x)
  | rule {a b : Addr} {k l : Str} {t u : Tok} {n n' : Nat} {vs : List Value} {ps : List (Str × Tm)} : (a, tupO [.str k t, .str l u, .ref b] n) ∈ news → k = "rule" → (b, tupO vs n') ∈ news → IsRow news vs ps → IsPp news (.ref a) (.rule l ps)
  | turn {a : Addr} {k : Str} {t : Tok} {n : Nat} {v : Value} {p : Pp} : (a, tupO [.str k t, v] n) ∈ news → k = "turn" → IsPp news v p → IsPp news (.ref a) (.turn p)
  | join {a : Addr} {k : Str} {t : Tok} {n : Nat} {v u : Value} {p q : Pp} : (a, tupO [.str k t, v, u] n) ∈ news → k = "join" → IsPp news v p → IsPp news u q → IsPp news (.ref a) (.join p q)
  | under0 {a b : Addr} {k l : Str} {t u : Tok} {n n' : Nat} : (a, tupO [.str k t, .str l u, .ref b] n) ∈ news → k = "under" → (b, tupO [] n') ∈ news → IsPp news (.ref a) (.under0 l)
  | under1 {a b : Addr} {k l : Str} {t u : Tok} {n n' : Nat} {v : Value} {p : Pp} : (a, tupO [.str k t, .str l u, .ref b] n) ∈ news → k = "under" → (b, tupO [v] n') ∈ news → IsPp news v p → IsPp news (.ref a) (.under1 l p)
  | under2 {a b : Addr} {k l : Str} {t u : Tok} {n n' : Nat} {v z : Value} {p q : Pp} : (a, tupO [.str k t, .str l u, .ref b] n) ∈ news → k = "under" → (b, tupO [v, z] n') ∈ news → IsPp news v p → IsPp news z q → IsPp news (.ref a) (.under2 l p q)
theorem IsPp.mono {news news' : Led} {v : Value} {p : Pp} (h : IsPp news v p) (hs : ∀ p ∈ news, p ∈ news') : IsPp news' v p := by
  induction h with
  | told hm e => exact .told (hs _ hm) e
  | same hm e t => exact .same (hs _ hm) e (t.mono hs)
  | rule hm e hb r => exact .rule (hs _ hm) e (hs _ hb) (r.mono hs)
  | turn hm e _ ih => exact .turn (hs _ hm) e ih
  | join hm e _ _ ih1 ih2 => exact .join (hs _ hm) e ih1 ih2
  | under0 hm e hb => exact .under0 (hs _ hm) e (hs _ hb)
  | under1 hm e hb _ ih => exact .under1 (hs _ hm) e (hs _ hb) ih
  | under2 hm e hb _ _ ih1 ih2 => exact .under2 (hs _ hm) e (hs _ hb) ih1 ih2
noncomputable def toldOps : List Str := ["l0", "same", "turn"]
noncomputable def ruleOps : List Str := ["r", "join"]
noncomputable def underOps : List Str := ["f", "told"]
noncomputable def genW (row : List Int) (rec : Nat → Pp × Nat) (way : Int) (k : Nat) : Pp × Nat :=
  if way = 0 then (.told (toldOps.getD (drawAt row k 3).toNat "a"), k + 1)
  else if way = 1 then (.same (genT row 2 k).1, (genT row 2 k).2)
  else if way = 2 then
    let y := genT row 1 (genT row 1 k).2
    (.rule (ruleOps.getD (drawAt row y.2 2).toNat "a") (List.take (drawAt row (y.2 + 1) 3).toNat [("?x", (genT row 1 k).1), ("?y", y.1)]), y.2 + 2)
  else if way = 3 then (.turn (rec k).1, (rec k).2)
  else if way = 4 then (.join (rec k).1 (rec (rec k).2).1, (rec (rec k).2).2)
  else
    let op := underOps.getD (drawAt row k 2).toNat "a"
    let c := drawAt row (k + 1) 3
    if c = 0 then (.under0 op, k + 2)
    else if c = 1 then (.under1 op (rec (k + 2)).1, (rec (k + 2)).2)
    else (.under2 op (rec (k + 2)).1 (rec (rec (k + 2)).2).1, (rec (rec (k + 2)).2).2)
noncomputable def genP (row : List Int) : Nat → Nat → Pp × Nat
  | 0, k => genW row (fun k => (.told "l0", k)) (drawAt row k 3) (k + 1)
  | d + 1, k => genW row (genP row d) (drawAt row k 6) (k + 1)
noncomputable def bP : Nat → Nat
  | 0 => 12
  | d + 1 => 2 * bP d + 4
theorem bP_lo : ∀ d, 12 ≤ bP d
  | 0 => Nat.le_refl _
  | d + 1 => by have := bP_lo d; unfold bP; omega
theorem genW_k {row : List Int} {rec : Nat → Pp × Nat} {b : Nat} (hb : ∀ k, (rec k).2 ≤ k + b) (way : Int) (k : Nat) : (genW row rec way k).2 ≤ k + max 10 (2 * b + 2) := by
  have h2 := genT_k (row := row) 2 k
  have h1 := genT_k (row := row) 1 k
  have h1' := genT_k (row := row) 1 (genT row 1 k).2
  have e2 : bT 2 = 8 := rfl
  have e1 : bT 1 = 4 := rfl
  have r1 := hb k
  have r2 := hb (rec k).2
  have r3 := hb (k + 2)
  have r4 := hb (rec (k + 2)).2
  unfold genW
  dsimp only
  (repeat' split) <;> (try dsimp only) <;> omega
theorem genP_k {row : List Int} : ∀ (d k : Nat), (genP row d k).2 ≤ k + bP d
  | 0, k => by
    unfold genP
    have := genW_k (row := row) (rec := fun k => (Pp.told "l0", k)) (b := 0) (fun k => Nat.le_refl _) (drawAt row k 3) (k + 1)
    unfold bP; omega
  | d + 1, k => by
    unfold genP
    have := genW_k (row := row) (rec := genP row d) (b := bP d) (genP_k d) (drawAt row k 6) (k + 1)
    have := bP_lo d
    unfold bP; omega
theorem eFw31 : True := trivial
end Mine
-- IsOp
namespace Mine
example : True := by
  k_with "fk" => first | ((fail_if_success have hzz := eIsOp1); (with_reducible (first | exact fk42 (by assumption) (by assumption) | exact fk43 (by assumption) | exact fk44 (by assumption)))) | fail
  trivial
example : True := by
  k_with "k_all" => first | ((fail_if_success have hzz := eIsOp1); (first | with_reducible assumption | with_reducible exact List.forall_mem_nil _ | ((with_reducible refine List.forall_mem_cons.mpr ⟨?_, ?_⟩) <;> first | k_ne | k_all) | ((with_reducible refine List.forall_mem_append.mpr ⟨?_, ?_⟩) <;> k_all) | assumption)) | fail
  k_with "k_mem" => first | ((fail_if_success have hzz := eIsOp1); ((repeat (first | exact List.Mem.head _ | apply List.Mem.tail | apply mem_inr | with_reducible assumption | assumption)); done)) | fail
  k_with "k_room" => first | ((fail_if_success have hzz := eIsOp1); (ktr_room)) | fail
  k_with "ktr_room" => first | ((fail_if_success have hzz := eIsOp1); ((try dsimp only [ktrTop]); omega)) | fail
  k_with "ktr_units" => first | ((fail_if_success have hzz := eIsOp1); ((try dsimp only [ktrTop]); omega)) | fail
  k_with "eval ListComp" => first | ((fail_if_success have hzz := eIsOp1); (k_here; k_dflt (refine ListComp_S (_F₀ := by k_asm) (by with_unfolding_all rfl) (by decide) (by rfl) (by decide) (by rfl) ?_ (by intro _; rfl)))) | fail
  k_with "SrcST" => first | ((fail_if_success have hzz := eIsOp1); (k_dflt (refine SrcST.of (by rfl) (by k_asm) (by k_asm) (by rw [sizeLine_eq]; omega) ?_); intro qg'; refine stuck_of ?_)) | fail
  trivial
noncomputable def okC (c : Nat) : Bool := !(Txt.isspace ⟨#[c]⟩) && (Builtin.Str.occurrences (Str.ofString "()[]{},:") ⟨#[c]⟩ 0 (Str.ofString "()[]{},:").length 1).isEmpty
theorem strOk_sign {t : Str} (hok : PyData.strOk t = true) {i c : Nat} (hc : t.cps[i]? = some c) : PyData.strOk ⟨#[c]⟩ = true := by
  unfold PyData.strOk at *
  rw [Array.all_eq_true] at hok
  obtain ⟨h, rfl⟩ := Array.getElem?_eq_some_iff.mp hc
  simpa using hok i h
theorem StrsAre.append {vs us : List Value} {ss ts : List Str} (h : StrsAre vs ss) (k : StrsAre us ts) : StrsAre (vs ++ us) (ss ++ ts) := by
  induction h with
  | nil => exact k
  | cons y t _ ih => exact .cons y t ih
noncomputable def isOpS (t : Str) : Bool := (t != Str.ofString "") && t.cps.all okC
example : True := by
  k_with "compareOp Eq ref ref" => first | ((fail_if_success have hzz := eIsOp1); (k_here; k_dflt (refine m_eqNil (by k_asm) (by k_mem) (by k_mem) (by assumption) (by assumption) (by ktr_units) ?_))) | fail
  trivial
namespace Z
example : True := by
  k_with "eps" => first | ((fail_if_success have hzz := zIsOp5); skip) | fail
  trivial
set_option Elab.async true in
set_option maxHeartbeats 1000000 in
theorem isop_tri : ∀ (w : World) (mean : ExcName → Option Value) (mg : Str → Option Value) (mb : Str → Option Value) (t : Str) (tk : Tok) (news : Led) (hlen : t.cps.size ≤ 10000) (hok : PyData.strOk t = true), Tri LAW hd.heap_39 w mean mg mb 95 [.str t tk] 5 90 news (fun r news' => r = .bool (isOpS t) ∧ news' = news) := by
  intro w mean mg mb t tk news hlen hok
  k_extra "c11"
  clear hK
  w_top off
  unfold Tri
  k_extra "c14"
  refine wpAny_call ?_
  k_dflt ktr_enter
  k_steps
  rotate_left
  · (with_reducible rename Fr h₀ L _ _ => kF); (with_reducible rename News h₀ L _ _ => kN)
    (with_reducible rename (t != Str.ofString "") = false => ht)
    exact hret _ _ _ _ kF kN ⟨by unfold isOpS; rw [ht]; rfl, rfl⟩
  refine ⟨?_⟩
  refine restT_ind (fun i ys nw => nw = news ∧ ys.length ≤ i ∧ (∃ ss, StrsAre ys ss ∧ ∀ x ∈ ss, PyData.strOk x = true) ∧ (ys = [] ↔ ∀ j < i, ∀ c, t.cps[j]? = some c → okC c = true)) ⟨rfl, Nat.le_refl _, ⟨[], .nil, fun _ h => nomatch h⟩, fun _ j hj => absurd hj (Nat.not_lt_zero j), fun _ => rfl⟩ ?_ ?_
  · intro ys nw hh9 D h tk F9 N9 off
    obtain ⟨rfl, hlen', ⟨ss, hss, hso⟩, hys⟩ := hh9
    k_steps
    k_extra "c66"
    refine hret _ _ _ _ kF (News.sub kN fun p hp => by k_mem) ⟨?_, rfl⟩
    refine congrArg Value.bool ?_
    (with_reducible rename (t != Str.ofString "") = true => ht)
    unfold isOpS
    rw [ht, Bool.true_and, Bool.eq_iff_iff, decide_eq_true_iff, hys, Array.all_eq_true]
    constructor
    · intro h j hj; exact h j hj _ (Array.getElem?_eq_getElem hj)
    · intro h j hj c hc
      obtain ⟨h', rfl⟩ := Array.getElem?_eq_some_iff.mp hc
      exact h j h'
  · intro i ys nw Next hi hh9 hn v I oI C oC D m₂ h tk E' hP hNs hx F9 N9 off ne
    obtain ⟨rfl, hlen', ⟨ss, hss, hso⟩, hys⟩ := hh9
    obtain ⟨c, u, hc, rfl⟩ := hP
    have hnew : ∃ ss', StrsAre (ys ++ [.str ⟨#[c]⟩ u]) ss' ∧ ∀ x ∈ ss', PyData.strOk x = true := ⟨ss ++ [⟨#[c]⟩], StrsAre.append hss (.cons _ _ .nil), fun x hx => by
      rcases List.mem_append.mp hx with hx | hx
      · exact hso x hx
      · rw [List.mem_singleton.mp hx]; exact strOk_sign hok hc⟩
    k_steps
    · refine comp_end (by k_asm) (by k_asm) Pick.here Pick.here Pick.here off trivial (hn _ _ ⟨rfl, by simp; omega, hnew, fun h => absurd h (by simp), fun h => ?_⟩)
      have := h i (by omega) c hc
      unfold okC at this
      simp_all
    · refine comp_end (by k_asm) (by k_asm) Pick.here Pick.here Pick.here off trivial (hn _ _ ⟨rfl, by omega, ⟨ss, hss, hso⟩, ?_⟩)
      have hc' : okC c = true := by unfold okC; simp_all
      rw [hys]
      constructor
      · intro h j hj c' hc''
        rcases Nat.lt_or_ge j i with hlt | hge
        · exact h j hlt c' hc''
        · obtain rfl : j = i := by omega
          rw [hc] at hc''; cases hc''; exact hc'
      · intro h j hj; exact h j (by omega)
    · refine comp_end (by k_asm) (by k_asm) Pick.here Pick.here Pick.here off trivial (hn _ _ ⟨rfl, by simp; omega, hnew, fun h => absurd h (by simp), fun h => ?_⟩)
      have := h i (by omega) c hc
      unfold okC at this
      simp_all
in #guard_msgs (drop info, drop warning) in open Nat
theorem zIsOp5 : True := trivial
end Z
theorem eIsOp1 : True := trivial
end Mine
-- Rd
namespace Mine
noncomputable abbrev rdObj (w : World) (W : Addr) (t1 t2 t3 t4 u2 u3 u4 : Tok) (p d mst : Int) : Obj :=
  dictOf [⟨PyData.keyHash w.params "words", .str "words" t1, .ref W⟩, ⟨PyData.keyHash w.params "place", .str "place" t2, .int p u2⟩, ⟨PyData.keyHash w.params "deep", .str "deep" t3, .int d u3⟩, ⟨PyData.keyHash w.params "most", .str "most" t4, .int mst u4⟩] 4
noncomputable def WordsAt (news : Led) (W : Addr) (ws : List (Str × Nat)) : Prop := ∃ (vs : List Value) (n : Nat), (W, listOf vs.toArray n) ∈ news ∧ vs.length = ws.length ∧ ∀ (i : Nat) (x : Str × Nat), ws[i]? = some x → ∃ (a : Addr) (t u : Tok) (n' : Nat), vs[i]? = some (.ref a) ∧ (a, tupO [.str x.1 t, .int x.2 u] n') ∈ news
example : True := by
  k_with "k_all" => first | ((fail_if_success have hzz := eRd1); (first | with_reducible assumption | with_reducible exact List.forall_mem_nil _ | ((with_reducible refine List.forall_mem_cons.mpr ⟨?_, ?_⟩) <;> first | k_ne | k_all) | ((with_reducible refine List.forall_mem_append.mpr ⟨?_, ?_⟩) <;> k_all) | assumption)) | fail
  k_with "k_mem" => first | ((fail_if_success have hzz := eRd1); ((repeat (first | exact List.Mem.head _ | apply List.Mem.tail | apply mem_inr | with_reducible assumption | assumption)); done)) | fail
  k_with "k_room" => first | ((fail_if_success have hzz := eRd1); (ktr_room)) | fail
  k_with "ktr_room" => first | ((fail_if_success have hzz := eRd1); ((try dsimp only [ktrTop]); omega)) | fail
  k_with "ktr_units" => first | ((fail_if_success have hzz := eRd1); ((try dsimp only [ktrTop]); omega)) | fail
  trivial
section
variable {prog : Program} {w : World} {A : Around} {E : Value → Shared → Prop} {s : Shared} {h₀ : Heap} {L : Addr} {m : Str → Option Value} {news : Led}
theorem m_itemN {value slice : Expr} {l : Addr} {vs : List Value} {n : Nat} {k : Nat} {i : Int} {u : Tok} {v : Value} {Q : Value → Shared → Prop} (N : News h₀ L s.heap news) (hm : (l, listOf vs.toArray n) ∈ news)
    (hx : vs[k]? = some v) (hi : i = k) (hfit : k < 100000) (h : Q v s)
    (hs : subscripted slice false (.ref l) (.int i u) = operate [.ref l, .int i u] (getItem (.ref l) (.int i u))) (hg : ∀ r, letTemporaryGo value (.ref l) r = pure ()) :
    wpAny (model prog w) A (subscriptTail value slice (.ref l) (.int i u)) Q E s := by
  subst hi
  exact item_list (N.isList hm) (by omega) (by omega) (by simpa using hx) h hs hg
theorem m_itemT {value slice : Expr} {l : Addr} {vs : List Value} {n : Nat} {k : Int} {j : Nat} {u : Tok} {v : Value} {Q : Value → Shared → Prop} (N : News h₀ L s.heap news) (hm : (l, tupO vs n) ∈ news)
    (h0 : 0 ≤ k) (hfit : k < 100000) (hj : seqIndex? k vs.toArray.size = some j) (hx : vs[j]? = some v) (h : Q v s)
    (hs : subscripted slice false (.ref l) (.int k u) = operate [.ref l, .int k u] (getItem (.ref l) (.int k u))) (hg : ∀ r, letTemporaryGo value (.ref l) r = pure ()) :
    wpAny (model prog w) A (subscriptTail value slice (.ref l) (.int k u)) Q E s :=
  item_tuple (N.isTup hm) (by omega) (by omega) hj (by simpa using hx) h hs hg
end
example : True := by
  k_with "subscriptTail Attribute Name Attribute ref int" => first | ((fail_if_success have hzz := eRd1); (k_here; k_dflt (refine kba_turn (value' := PySem.Expr.Name (PySem.Str.ofString "x") ⟨0, 0, 0, 0⟩) (fun _ => rfl) ?_); k_dflt (refine m_itemN (by k_asm) (by k_mem) (by assumption) (by omega) (by omega) ?_ (by with_unfolding_all rfl) (by k_extra "c23")))) | fail
  k_with "subscriptTail Subscript Attribute Attribute Constant ref int" => first | ((fail_if_success have hzz := eRd1); (k_here; k_dflt (refine kba_turn (value' := PySem.Expr.Name (PySem.Str.ofString "x") ⟨0, 0, 0, 0⟩) (fun _ => rfl) ?_); k_dflt (refine m_itemT (by k_asm) (by k_mem) (by decide) (by decide) (by rfl) (by rfl) ?_ (by with_unfolding_all rfl) (by k_extra "c23")))) | fail
  trivial
namespace Z
example : True := by
  k_with "eps" => first | ((fail_if_success have hzz := zRd4); skip) | fail
  trivial
set_option Elab.async true in
set_option maxHeartbeats 1000000 in
theorem word_tri : ∀ (w : World) (mean : ExcName → Option Value) (mg : Str → Option Value) (mb : Str → Option Value) (x dx W : Addr) (t1 t2 t3 t4 u2 u3 u4 : Tok) (p d mst : Nat) (ws : List (Str × Nat)) (y : Str × Nat) (news : Led) (hx : (x, instObj 258 dx) ∈ news) (hdx : (dx, rdObj w W t1 t2 t3 t4 u2 u3 u4 p d mst) ∈ news) (hW : WordsAt news W ws) (hy : ws[p]? = some y) (hp : p < 100000), Tri LAW hd.heap_39 w mean mg mb 166 [.ref x] 2 30 news (fun r news' => ∃ tk, r = .str y.1 tk ∧ news' = news) := by
  k_extra "c146"
  k_fill
  w_top off
  unfold Tri
  k_extra "c14"
  obtain ⟨vs, n, hl, hlen, hat⟩ := hW
  k_extra "c149"
  refine wpAny_call ?_
  k_dflt ktr_enter
  k_steps
  k_extra "c66"
  exact hret _ _ _ _ kF kN ⟨_, rfl, rfl⟩
in #guard_msgs (drop info, drop warning) in open Nat
set_option Elab.async true in
set_option maxHeartbeats 1000000 in
theorem spot_tri : ∀ (w : World) (mean : ExcName → Option Value) (mg : Str → Option Value) (mb : Str → Option Value) (x dx W : Addr) (t1 t2 t3 t4 u2 u3 u4 : Tok) (p d mst : Nat) (ws : List (Str × Nat)) (y : Str × Nat) (news : Led) (hx : (x, instObj 258 dx) ∈ news) (hdx : (dx, rdObj w W t1 t2 t3 t4 u2 u3 u4 p d mst) ∈ news) (hW : WordsAt news W ws) (hy : ws[p]? = some y) (hp : p < 100000), Tri LAW hd.heap_39 w mean mg mb 173 [.ref x] 2 30 news (fun r news' => ∃ tk, r = .int y.2 tk ∧ news' = news) := by
  k_extra "c146"
  k_fill
  w_top off
  unfold Tri
  k_extra "c14"
  obtain ⟨vs, n, hl, hlen, hat⟩ := hW
  k_extra "c149"
  refine wpAny_call ?_
  k_dflt ktr_enter
  k_steps
  k_extra "c66"
  exact hret _ _ _ _ kF kN ⟨_, rfl, rfl⟩
in #guard_msgs (drop info, drop warning) in open Nat
example : True := by
  k_with "subscriptTail Attribute Name BinOp ref int" => first | ((fail_if_success have hzz := eRd1); (k_here; k_dflt (refine kba_turn (value' := PySem.Expr.Name (PySem.Str.ofString "x") ⟨0, 0, 0, 0⟩) (fun _ => rfl) ?_); k_dflt (refine m_itemN (by k_asm) (by k_mem) (by assumption) (by omega) (by omega) ?_ (by with_unfolding_all rfl) (by k_extra "c23")))) | fail
  trivial
set_option Elab.async true in
set_option maxHeartbeats 1000000 in
theorem take_tri : ∀ (w : World) (mean : ExcName → Option Value) (mg : Str → Option Value) (mb : Str → Option Value) (x dx W : Addr) (t1 t2 t3 t4 u2 u3 u4 : Tok) (p d mst : Nat) (ws : List (Str × Nat)) (y : Str × Nat) (news : Led) (hx : (x, instObj 258 dx) ∈ news) (hne : ∀ q ∈ news, q.1 ≠ dx) (hW : WordsAt news W ws) (hy : ws[p]? = some y) (hp : p < 100000), Tri LAW hd.heap_39 w mean mg mb 180 [.ref x] 2 30 ((dx, rdObj w W t1 t2 t3 t4 u2 u3 u4 p d mst) :: news) (fun r news' => ∃ tk u2', r = .str y.1 tk ∧ news' = (dx, rdObj w W t1 t2 t3 t4 u2' u3 u4 (p + 1) d mst) :: news) := by
  intro w mean mg mb x dx W t1 t2 t3 t4 u2 u3 u4 p d mst ws y news hx hne hW hy hp
  k_fill
  w_top off
  unfold Tri
  k_extra "c14"
  obtain ⟨vs, n, hl, hlen, hat⟩ := hW
  k_extra "c149"
  refine wpAny_call ?_
  k_dflt ktr_enter
  k_steps
  k_extra "c66"
  exact hret _ _ _ _ kF kN ⟨_, _, rfl, rfl⟩
in #guard_msgs (drop info, drop warning) in open Nat
theorem zRd4 : True := trivial
end Z
theorem eRd1 : True := trivial
end Mine
-- WordsL
namespace Mine
example : True := by
  k_with "omega" => first | ((fail_if_success have hzz := eWordsL1); (first | k_extra "ub" | (simp +arith only; done) | k_extra "fk" | lia | omega (config := {}))) | fail
  trivial
example : True := by
  k_with "fk" => first | ((fail_if_success have hzz := eWordsL1); (with_reducible (first | exact fk45 (by assumption) | exact fk46 (by assumption) (by assumption) | exact fk47 (by assumption) | exact fk48 (by assumption) (by assumption) | exact fk49 (by assumption) (by assumption) (by assumption) (by assumption) (by assumption) | exact fk50 (by assumption) | exact fk51 (by assumption) | exact fk52 (by assumption) (by assumption) (by assumption) | exact fk53 (by assumption) (by assumption) (by assumption) (by assumption) (by assumption) | exact fk54 (by assumption) (by assumption) | exact fk55 (by assumption)))) | fail
  trivial
theorem strOk_getD {t : Str} (hok : PyData.strOk t = true) {i : Nat} (hi : i < t.cps.size) : PyData.strOk ⟨#[t.cps.getD i 0]⟩ = true := by
  refine strOk_sign hok (i := i) ?_
  simp [Array.getD, hi]
theorem isOpS_one (c : Nat) : isOpS ⟨#[c]⟩ = okC c := by
  have h : ((⟨#[c]⟩ : Str) != Str.ofString "") = true := by
    rw [bne_iff_ne]
    intro h
    have := congrArg (fun z : Str => z.cps.size) h
    revert this
    simp [show (Str.ofString "").cps.size = 0 from rfl]
  unfold isOpS
  rw [h]
  simp
noncomputable def punctC (c : Nat) : Bool := !(Builtin.Str.occurrences (Str.ofString "(),:") ⟨#[c]⟩ 0 (Str.ofString "(),:").length 1).isEmpty
noncomputable def sgn (t : Str) (i : Nat) : Str := ⟨#[t.cps.getD i 0]⟩
inductive Laid (t : Str) : Nat → List (Str × Nat) → Prop
  | done : Laid t t.cps.size []
  | space {i : Nat} {ws : List (Str × Nat)} : i < t.cps.size → okC (t.cps.getD i 0) = false → punctC (t.cps.getD i 0) = false → Txt.isspace (sgn t i) = true → Laid t (i + 1) ws → Laid t i ws
  | sign {i : Nat} {ws : List (Str × Nat)} : i < t.cps.size → okC (t.cps.getD i 0) = false → punctC (t.cps.getD i 0) = true → Laid t (i + 1) ws → Laid t i ((sgn t i, i) :: ws)
  | word {i j : Nat} {ws : List (Str × Nat)} : i < j → j ≤ t.cps.size → (∀ k, i ≤ k → k < j → okC (t.cps.getD k 0) = true) → (j < t.cps.size → okC (t.cps.getD j 0) = false) → Laid t j ws → Laid t i ((Txt.slice t (some i) (some j), i) :: ws)
noncomputable def WsAre (tl : Led) (vs : List Value) (ws : List (Str × Nat)) : Prop := vs.length = ws.length ∧ ∀ (i : Nat) (x : Str × Nat), ws[i]? = some x → ∃ (a : Addr) (t u : Tok) (n' : Nat), vs[i]? = some (.ref a) ∧ (a, tupO [.str x.1 t, .int x.2 u] n') ∈ tl
noncomputable def JW (t : Str) (tk : Tok) (ws : List (Str × Nat)) (news : Led) (n : Nat) (m : Str → Option Value) (nw : Led) : Prop :=
  ∃ (i : Nat) (tki : Tok) (l : Addr) (vs : List Value) (ws1 ws2 : List (Str × Nat)) (tl : Led) (k : Nat), m (Str.ofString "text") = some (.str t tk) ∧ m (Str.ofString "found") = some (.ref l) ∧ m (Str.ofString "spot") = some (.int i tki) ∧
    n = t.cps.size - i ∧ (l, listOf vs.toArray k) :: (tl ++ news) = nw ∧ i ≤ t.cps.size ∧ (∀ p ∈ news, p.1 ≠ l) ∧ Above news tl ∧ (∀ p ∈ tl, p.1 ≠ l) ∧ WsAre tl vs ws1 ∧ ws1 ++ ws2 = ws ∧ Laid t i ws2
noncomputable def JI (t : Str) (tk : Tok) (l : Addr) (i : Nat) (tki : Tok) (led : Led) (n : Nat) (m : Str → Option Value) (nw : Led) : Prop :=
  ∃ (j : Nat) (tkj : Tok), m (Str.ofString "text") = some (.str t tk) ∧ m (Str.ofString "found") = some (.ref l) ∧ m (Str.ofString "begin") = some (.int i tki) ∧ m (Str.ofString "spot") = some (.int j tkj) ∧
    n = t.cps.size - j ∧ led = nw ∧ i ≤ j ∧ j ≤ t.cps.size ∧ ∀ k, i ≤ k → k < j → okC (t.cps.getD k 0) = true
theorem laid_word {t : Str} {i j : Nat} {ws : List (Str × Nat)} (h : Laid t i ws) (hi : i < t.cps.size) (hij : i < j) (hj : j ≤ t.cps.size) (hrun : ∀ k, i ≤ k → k < j → okC (t.cps.getD k 0) = true) (hst : j < t.cps.size → okC (t.cps.getD j 0) = false) :
    ∃ ws', ws = (Txt.slice t (some i) (some j), i) :: ws' ∧ Laid t j ws' := by
  have h0 := hrun i (Nat.le_refl _) hij
  cases h with
  | done => omega
  | space _ h1 => rw [h0] at h1; cases h1
  | sign _ h1 => rw [h0] at h1; cases h1
  | @word _ j' ws' a b c d e =>
    have : j' = j := by
      rcases Nat.lt_trichotomy j' j with h | h | h
      · have := hrun j' (by omega) h; rw [d (by omega)] at this; cases this
      · exact h
      · have := c j (by omega) h; rw [hst (by omega)] at this; cases this
    subst this
    exact ⟨_, rfl, e⟩
theorem laid_sign {t : Str} {i : Nat} {ws : List (Str × Nat)} (h : Laid t i ws) (hi : i < t.cps.size) (h0 : okC (t.cps.getD i 0) = false) (h1 : punctC (t.cps.getD i 0) = true) : ∃ ws', ws = (sgn t i, i) :: ws' ∧ Laid t (i + 1) ws' := by
  cases h with
  | done => omega
  | space _ _ h => rw [h1] at h; cases h
  | sign _ _ _ e => exact ⟨_, rfl, e⟩
  | word a _ c => have := c i (Nat.le_refl _) a; rw [h0] at this; cases this
theorem laid_space {t : Str} {i : Nat} {ws : List (Str × Nat)} (h : Laid t i ws) (hi : i < t.cps.size) (h0 : okC (t.cps.getD i 0) = false) (h1 : punctC (t.cps.getD i 0) = false) : Txt.isspace (sgn t i) = true ∧ Laid t (i + 1) ws := by
  cases h with
  | done => omega
  | space _ _ _ s e => exact ⟨s, e⟩
  | sign _ _ h => rw [h1] at h; cases h
  | word a _ c => have := c i (Nat.le_refl _) a; rw [h0] at this; cases this
set_option Elab.async true in
theorem WsAre.snoc {tl : Led} {vs : List Value} {ws : List (Str × Nat)} {D : Addr} {x : Str × Nat} {t u : Tok} {n : Nat} (h : WsAre tl vs ws) : WsAre ((D, tupO [.str x.1 t, .int x.2 u] n) :: tl) (vs ++ [Value.ref D]) (ws ++ [x]) := by
  obtain ⟨h1, h2⟩ := h
  refine ⟨by simp [h1], fun i y hy => ?_⟩
  rcases Nat.lt_trichotomy i ws.length with hlt | rfl | hgt
  · rw [List.getElem?_append_left hlt] at hy
    obtain ⟨a, t, u, n', e, m⟩ := h2 i y hy
    exact ⟨a, t, u, n', by rw [List.getElem?_append_left (by omega)]; exact e, .tail _ m⟩
  · rw [List.getElem?_append_right (Nat.le_refl _), Nat.sub_self] at hy
    cases hy
    exact ⟨D, t, u, n, by rw [List.getElem?_append_right (by omega), h1, Nat.sub_self]; rfl, .head _⟩
  · rw [List.getElem?_append_right (by omega)] at hy
    have : i - ws.length ≠ 0 := by omega
    cases h : i - ws.length with
    | zero => omega
    | succ n => rw [h] at hy; cases hy
in #guard_msgs (drop info, drop warning) in open Nat
set_option Elab.async true in
theorem jw_push {t : Str} {tk tki : Tok} {ws ws1 ws2 : List (Str × Nat)} {news tl : Led} {n k j : Nat} {m : Str → Option Value} {l D : Addr} {vs : List Value} {x : Str × Nat} {u v : Tok} {nD : Nat}
    (h1 : m (Str.ofString "text") = some (.str t tk)) (h2 : m (Str.ofString "found") = some (.ref l)) (h3 : m (Str.ofString "spot") = some (.int j tki)) (hn : n = t.cps.size - j) (hj : j ≤ t.cps.size) (hnl : ∀ p ∈ news, p.1 ≠ l) (hab : Above news tl) (htl : ∀ p ∈ tl, p.1 ≠ l)
    (hws : WsAre tl vs ws1) (hcat : ws1 ++ x :: ws2 = ws) (hlaid : Laid t j ws2) (hlD : l < D ∧ AllLt D (tl ++ news)) :
    JW t tk ws news n m ((l, listOf (vs ++ [Value.ref D]).toArray k) :: (((D, tupO [.str x.1 u, .int x.2 v] nD) :: tl) ++ news)) := by
  have hlt := ktn_ltOf hlD.2
  refine ⟨j, tki, l, _, ws1 ++ [x], ws2, _, k, h1, h2, h3, hn, rfl, hj, hnl, Above.cons (fun q hq => Nat.ne_of_lt (hlt q (List.mem_append_right _ hq))) hab, ?_, hws.snoc, by rw [List.append_assoc]; exact hcat, hlaid⟩
  intro p hp
  k_extra "c22"
  · exact Nat.ne_of_gt hlD.1
  · exact htl p hp
in #guard_msgs (drop info, drop warning) in open Nat
theorem laid_count {t : Str} {i : Nat} {ws : List (Str × Nat)} (h : Laid t i ws) : ws.length + i ≤ t.cps.size := by
  induction h with
  | done => simp
  | space _ _ _ _ _ ih => omega
  | sign _ _ _ _ ih => simp only [List.length_cons]; omega
  | word _ _ _ _ _ ih => simp only [List.length_cons]; omega
set_option Elab.async true in
theorem isop_use {w : World} {mean : ExcName → Option Value} {mg mb : Str → Option Value} {dp un : Nat} {gd : Option (List Code)} {cn : Str} {cs : Scope} {a : Addr} {ccd : Value} {cl : List (Str × Addr)} {outer : List Env} {A₀ : Around} {base h₀ : Heap} {L : Addr} {m : Str → Option Value} {s : Shared} {Q E : Value → Shared → Prop}
    {t : Str} {tk : Tok} {all : Led} (B : Below A₀ base outer h₀) (F : Fr h₀ L s.heap m) (X : (hd.heap_39 w.params).In h₀) (N : News h₀ L s.heap all) (T : Top view (looseW view []) mean mg mb h₀) (hk : cs.kind = .function)
    (hlen : t.cps.size ≤ 10000) (hok : PyData.strOk t = true) (hd : dp + 5 < recursionLimit) (hu : un + 90 < cLine)
    (h : ∀ h' tk', Fr h₀ L h' m → News h₀ L h' all → Q (.bool (isOpS t)) { s with heap := h', toks := tk' }) :
    wpAny (model PySem.Challenge.rw_pq0122_01.row.prog w) (ktrTop dp un gd cn cs L a ccd cl outer) (call (.ref 95) [.str t tk]) Q E s := by
  refine isop_tri w mean mg mb t tk all hlen hok dp un gd cn cs a ccd cl outer A₀ base h₀ L m s Q E B F X N T hk hd hu ?_
  rintro r news' h' tk' F' N' ⟨rfl, rfl⟩
  exact h h' tk' F' N'
in #guard_msgs (drop info, drop warning) in open Nat
section
variable {prog : Program} {w : World} {A : Around} {E : Value → Shared → Prop} {s : Shared}
theorem m_lenS {x : Str} {t : Tok} {Q : Value → Shared → Prop} {hp g d tk os} (hz : x.cps.size ≤ 1000000) (h : Q (.int x.cps.size (tk + 1)) ⟨hp, g, d, tk + 1 + 1, os⟩) : wpAny (model prog w) A (call (.builtin "len") [.str x t]) Q E ⟨hp, g, d, tk, os⟩ :=
  P.len_str (by show ¬ ((x.cps.size : Nat) : Int) ≥ 2 ^ 63; omega) h
set_option Elab.async true in
theorem m_itemS {value slice : Expr} {x : Str} {t : Tok} {k : Nat} {i : Int} {u : Tok} {Q : Value → Shared → Prop}
    (hi : i = k) (hlt : k < x.cps.size) (hfit : k < 100000) (h : Q (.str ⟨#[x.cps.getD k 0]⟩ s.toks) { s with toks := s.toks + 1 })
    (hs : subscripted slice false (.str x t) (.int i u) = operate [.str x t, .int i u] (getItem (.str x t) (.int i u))) :
    wpAny (model prog w) A (subscriptTail value slice (.str x t) (.int i u)) Q E s := by
  subst hi
  refine tail_any (typeIs_str s x t) F.slot_str_getitem.lookup (P.getItem_str ?_ ?_ h) hs
  · simp only [Bool.or_eq_false_iff, decide_eq_false_iff_not]; omega
  · have e : seqIndex? (k : Int) x.length = some k := by
      have h1 : (0 : Int) ≤ (k : Int) ∧ (k : Int) < (x.length : Int) := ⟨by omega, by show (k : Int) < ((x.cps.size : Nat) : Int); omega⟩
      have h2 : ¬ ((k : Int) < 0) := by omega
      simp only [seqIndex?, if_neg h2, h1.1, h1.2, decide_true, Bool.and_self, if_true, Int.toNat_natCast]
    rw [e]
    k_extra "c134"
    rfl
in #guard_msgs (drop info, drop warning) in open Nat
end
set_option Elab.async true in
theorem ws_turn {h₀ h' : Heap} {L : Addr} {s : Shared} {t : Str} {tk tki : Tok} {ws ws1 ws2 : List (Str × Nat)} {news tl : Led} {n k j tk' : Nat} {m : Str → Option Value} {l D : Addr} {vs : List Value} {x : Str} {i : Nat} {u v : Tok} {nD : Nat}
    (F : Fr h₀ L h' m) (N : News h₀ L h' ((D, tupO [.str x u, .int i v] nD) :: (l, listOf (vs.toArray.push (Value.ref D)) k) :: (tl ++ news)))
    (hn : t.cps.size - j < n) (h1 : m (Str.ofString "text") = some (.str t tk)) (h2 : m (Str.ofString "found") = some (.ref l)) (h3 : m (Str.ofString "spot") = some (.int j tki)) (hj : j ≤ t.cps.size) (hnl : ∀ p ∈ news, p.1 ≠ l) (hab : Above news tl) (htl : ∀ p ∈ tl, p.1 ≠ l)
    (hws : WsAre tl vs ws1) (hcat : ws1 ++ (x, i) :: ws2 = ws) (hlaid : Laid t j ws2) (hlD : l < D ∧ AllLt D (tl ++ news)) :
    WhileStep h₀ L s (JW t tk ws news) n .next { s with heap := h', toks := tk' } := by
  refine WhileStep.intro F (News.sub N ?_) hn (jw_push (x := (x, i)) (k := k) (u := u) (v := v) (nD := nD) h1 h2 h3 rfl hj hnl hab htl hws hcat hlaid hlD)
  rw [List.push_toArray]
  intro p hp
  simp only [List.cons_append, List.mem_cons] at hp ⊢
  rcases hp with rfl | rfl | hp
  · exact .inr (.inl rfl)
  · exact .inl rfl
  · exact .inr (.inr hp)
in #guard_msgs (drop info, drop warning) in open Nat
theorem occ_punct {c : Nat} {b : Bool} (h : (Builtin.Str.occurrences (Str.ofString "(),:") ⟨#[c]⟩ 0 (Str.ofString "(),:").length 1).isEmpty = b) : punctC c = !b := by unfold punctC; rw [h]
theorem laid_end {t : Str} {i : Nat} {ws : List (Str × Nat)} (h : Laid t i ws) (hi : ¬ i < t.cps.size) : ws = [] := by
  cases h with
  | done => rfl
  | space h => exact absurd h hi
  | sign h => exact absurd h hi
  | word a b => omega
theorem ws_all {tl tl' : Led} {W D : Addr} {vs : List Value} {ws : List (Str × Nat)} {x : Str × Nat} {u v : Tok} {nW nD : Nat} (h : WsAre tl vs ws) (hW : (W, listOf (vs ++ [Value.ref D]).toArray nW) ∈ tl') (hD : (D, tupO [.str x.1 u, .int x.2 v] nD) ∈ tl') (hs : ∀ p ∈ tl, p ∈ tl') : WordsAt tl' W (ws ++ [x]) := by
  have k := WsAre.snoc (D := D) (x := x) (t := u) (u := v) (n := nD) h
  refine ⟨_, _, hW, k.1, fun i y hy => ?_⟩
  obtain ⟨a, t, u, n', e, m⟩ := k.2 i y hy
  refine ⟨a, t, u, n', e, ?_⟩
  rcases List.mem_cons.mp m with e | m
  · rw [e]; exact hD
  · exact hs _ m
theorem eWordsL1 : True := trivial
end Mine
-- Pars
namespace Mine
inductive Res (α : Type) where
  | ok (a : α) (p : Nat)
  | err (sp : Nat)
  | stuck
theorem ne_res {α : Type} : Nonempty (Res α) := ⟨.stuck⟩
noncomputable def Res.bind {α β : Type} (r : Res α) (k : α → Nat → Res β) : Res β := match r with
  | .ok a p => k a p
  | .err sp => .err sp
  | .stuck => .stuck
abbrev Toks := List (Str × Nat)
noncomputable abbrev lpar : Str := Str.ofString "("
noncomputable abbrev rpar : Str := Str.ofString ")"
noncomputable abbrev nils : Str := Str.ofString ""
noncomputable def pWord (ws : Toks) (p : Nat) : Res Str := match ws[p]? with
  | none => .stuck
  | some x => .ok x.1 p
noncomputable def pOp (ws : Toks) (p : Nat) : Res Str := match ws[p]? with
  | none => .stuck
  | some x => if isOpS x.1 = true then .ok x.1 (p + 1) else .err x.2
noncomputable def pWant (c : Str) (ws : Toks) (p : Nat) : Res Unit := match ws[p]? with
  | none => .stuck
  | some x => if (x.1 != c) = true then .err x.2 else .ok () (p + 1)
noncomputable def pEnd (ws : Toks) (p : Nat) : Res Unit := match ws[p]? with
  | none => .stuck
  | some x => if (x.1 != nils) = true then .err x.2 else .ok () p
noncomputable def pVar (ws : Toks) (p : Nat) : Res Str := match ws[p]? with
  | none => .stuck
  | some x => if (Txt.slice x.1 none (some 1) != Str.ofString "?") = true then .err x.2 else .ok x.1 (p + 1)
noncomputable def pTerm : Nat → Toks → Nat → Res Tm
  | 0, _, _ => .stuck
  | f + 1, ws, p => (pWord ws p).bind fun w _ =>
    if (w != lpar) = true then (pOp ws p).bind fun o p1 => .ok (.leaf o) p1
    else (pOp ws (p + 1)).bind fun o p1 => (pTerm f ws p1).bind fun a p2 => (pWord ws p2).bind fun c _ =>
      if (c != rpar) = true then (pTerm f ws p2).bind fun b p3 => (pWord ws p3).bind fun c _ => if (c != rpar) = true then .stuck else .ok (.two o a b) (p3 + 1)
      else .ok (.one o a) (p2 + 1)
noncomputable def xName : Str := Str.ofString "?x"
noncomputable def yName : Str := Str.ofString "?y"
end Mine
-- Pars2
namespace Mine
noncomputable def pPlaces (f : Nat) (ws : Toks) (p : Nat) : Res (List (Str × Tm)) := (pWord ws p).bind fun c _ =>
  if (c != rpar) = true then (pVar ws p).bind fun v p1 => if v = xName then (pTerm f ws p1).bind fun t p2 => (pWord ws p2).bind fun c _ =>
      if (c != rpar) = true then (pVar ws p2).bind fun v' p3 => if v' = xName then (match ws[p2]? with | none => .stuck | some y => .err y.2)
        else if v' = yName then (pTerm f ws p3).bind fun t' p4 => (pWord ws p4).bind fun c _ =>
          if (c != rpar) = true then (pVar ws p4).bind fun _ _ => .stuck else .ok [(xName, t), (yName, t')] p4
        else .stuck
      else .ok [(xName, t)] p2
    else if v = yName then (pTerm f ws p1).bind fun t p2 => (pWord ws p2).bind fun c _ =>
      if (c != rpar) = true then (pVar ws p2).bind fun v' p3 => if v' = xName then (pTerm f ws p3).bind fun t' p4 => (pWord ws p4).bind fun c _ =>
          if (c != rpar) = true then (pVar ws p4).bind fun _ _ => .stuck else .ok [(xName, t'), (yName, t)] p4
        else .stuck
      else .stuck
    else .stuck
  else .ok [] p
noncomputable def pPapers (rec : Nat → Res Pp) (ws : Toks) (p : Nat) : Res (List Pp) := (pWord ws p).bind fun c _ =>
  if (c != rpar) = true then (rec p).bind fun a p1 => (pWord ws p1).bind fun c _ =>
    if (c != rpar) = true then (rec p1).bind fun b p2 => (pWord ws p2).bind fun c _ =>
      if (c != rpar) = true then (rec p2).bind fun _ _ => .stuck else .ok [a, b] p2
    else .ok [a] p1
  else .ok [] p
noncomputable def pRow (rec : Nat → Res Pp) (ws : Toks) : Nat → Nat → Pp → Res Pp
  | 0, _, _ => .stuck
  | n + 1, p, a => (pWord ws p).bind fun c _ => if (c != rpar) = true then (rec p).bind fun b p1 => pRow rec ws n p1 (.join a b) else .ok a p
noncomputable def underOf (o : Str) : List Pp → Option Pp
  | [] => some (.under0 o)
  | [a] => some (.under1 o a)
  | [a, b] => some (.under2 o a b)
  | _ => none
noncomputable def kSame : Str := Str.ofString "same"
noncomputable def kTold : Str := Str.ofString "told"
noncomputable def kRule : Str := Str.ofString "rule"
noncomputable def kTurn : Str := Str.ofString "turn"
noncomputable def kJoin : Str := Str.ofString "join"
noncomputable def kUnder : Str := Str.ofString "under"
noncomputable def pBody (rec : Nat → Res Pp) (ws : Toks) (k : Str) (q p : Nat) : Res Pp :=
  if (k == kSame) = true then (pTerm 4 ws p).bind fun t p => .ok (.same t) p
  else if (k == kTold) = true then (pOp ws p).bind fun o p => .ok (.told o) p
  else if (k == kRule) = true then (pOp ws p).bind fun o p => (pPlaces 3 ws p).bind fun ps p => .ok (.rule o ps) p
  else if (k == kTurn) = true then (rec p).bind fun a p => .ok (.turn a) p
  else if (k == kJoin) = true then (rec p).bind fun a p => (rec p).bind fun b p => pRow rec ws 6 p (.join a b)
  else if (k == kUnder) = true then (pOp ws p).bind fun o p => (pPapers rec ws p).bind fun l p => match l with
    | [] => .ok (.under0 o) p
    | [a] => .ok (.under1 o a) p
    | [a, b] => .ok (.under2 o a b) p
    | _ => .stuck
  else match ws[q]? with
    | none => .stuck
    | some y => .err y.2
noncomputable def pPaper : Nat → Toks → Nat → Res Pp
  | 0, _, _ => .stuck
  | f + 1, ws, p => (pWant lpar ws p).bind fun _ p1 => (pOp ws p1).bind fun k p2 => (pBody (pPaper f ws) ws k p1 p2).bind fun a p3 => (pWant rpar ws p3).bind fun _ p4 => .ok a p4
noncomputable def pRead (ws : Toks) : Res Pp := (pPaper 6 ws 0).bind fun a p => (pEnd ws p).bind fun _ p => .ok a p
end Mine
-- PL1
namespace Mine
example : True := by
  k_with "omega" => first | ((fail_if_success have hzz := ePL11); (first | k_extra "ub" | (simp +arith only; done) | k_extra "fk" | lia | omega (config := {}))) | fail
  trivial
example : True := by
  k_with "fk" => first | ((fail_if_success have hzz := ePL11); (with_reducible (first | exact fk56 (by assumption) | exact fk57 (by assumption) | exact fk58 (by assumption) | exact fk59 (by assumption) | exact fk60 (by assumption) (by assumption) (by assumption) | exact fk61 (by assumption) | exact fk62 (by assumption) | exact fk63 (by assumption) | exact fk64 (by assumption) | exact fk65 (by assumption) | exact fk66 (by assumption) | exact fk67 (by assumption) | exact fk68 (by assumption) | exact fk69 (by assumption) | exact fk70 (by assumption)))) | fail
  trivial
noncomputable def tmWords : Tm → List Str
  | .leaf op => [op]
  | .one op a => lpar :: op :: (tmWords a ++ [rpar])
  | .two op a b => lpar :: op :: (tmWords a ++ (tmWords b ++ [rpar]))
noncomputable def GoodTm : Tm → Prop
  | .leaf op => isOpS op = true
  | .one op a => isOpS op = true ∧ GoodTm a
  | .two op a b => isOpS op = true ∧ GoodTm a ∧ GoodTm b
noncomputable def tmDepth : Tm → Nat
  | .leaf _ => 0
  | .one _ a => tmDepth a + 1
  | .two _ a b => max (tmDepth a) (tmDepth b) + 1
noncomputable def AtW (ws : Toks) : Nat → List Str → Prop
  | _, [] => True
  | p, x :: l => (∃ s, ws[p]? = some (x, s)) ∧ AtW ws (p + 1) l
theorem AtW.app {ws : Toks} : ∀ {a : List Str} {p : Nat} {b : List Str}, AtW ws p (a ++ b) ↔ AtW ws p a ∧ AtW ws (p + a.length) b
  | [], p, b => by simp [AtW]
  | x :: a, p, b => by
    simp only [List.cons_append, AtW, List.length_cons, AtW.app (a := a), and_assoc]
    rw [show p + 1 + a.length = p + (a.length + 1) by omega]
theorem ne_lpar {x : Str} (h : isOpS x = true) : (x != lpar) = true := by
  rw [bne_iff_ne]; rintro rfl; revert h; decide +kernel
theorem ne_rpar {x : Str} (h : isOpS x = true) : (x != rpar) = true := by
  rw [bne_iff_ne]; rintro rfl; revert h; decide +kernel
theorem lpar_rpar : (lpar != rpar) = true := by decide +kernel
theorem lpar_lpar : (lpar != lpar) = false := by decide +kernel
theorem rpar_rpar : (rpar != rpar) = false := by decide +kernel
theorem nils_rpar : (nils != rpar) = true := by decide +kernel
theorem nils_lpar : (nils != lpar) = true := by decide +kernel
section
variable {ws : Toks} {p : Nat} {x : Str} {s : Nat}
theorem pWord_at (h : ws[p]? = some (x, s)) : pWord ws p = .ok x p := by unfold pWord; rw [h]
theorem pOp_at (h : ws[p]? = some (x, s)) (k : isOpS x = true) : pOp ws p = .ok x (p + 1) := by unfold pOp; rw [h]; simp [k]
theorem pOp_err (h : ws[p]? = some (x, s)) (k : isOpS x = false) : pOp ws p = .err s := by unfold pOp; rw [h]; simp [k]
theorem pWant_at {c : Str} (h : ws[p]? = some (x, s)) (k : (x != c) = false) : pWant c ws p = .ok () (p + 1) := by unfold pWant; rw [h]; simp only [k]; rfl
theorem pWant_err {c : Str} (h : ws[p]? = some (x, s)) (k : (x != c) = true) : pWant c ws p = .err s := by unfold pWant; rw [h]; simp only [k]; rfl
end
theorem tm_head : ∀ {t : Tm}, GoodTm t → ∃ x r, tmWords t = x :: r ∧ (x != rpar) = true
  | .leaf op, h => ⟨op, [], rfl, ne_rpar h⟩
  | .one _ _, _ => ⟨_, _, rfl, lpar_rpar⟩
  | .two _ _ _, _ => ⟨_, _, rfl, lpar_rpar⟩
theorem AtW.head {ws : Toks} {p : Nat} {x : Str} {l : List Str} (h : AtW ws p (x :: l)) : ∃ s, ws[p]? = some (x, s) := h.1
theorem tm_first {ws : Toks} {p : Nat} {t : Tm} (g : GoodTm t) (h : AtW ws p (tmWords t)) : ∃ x s, ws[p]? = some (x, s) ∧ (x != rpar) = true := by
  obtain ⟨x, r, e, k⟩ := tm_head g
  rw [e] at h
  obtain ⟨s, hs⟩ := h.1
  exact ⟨x, s, hs, k⟩
theorem pTerm_ok {ws : Toks} : ∀ (f : Nat) (t : Tm) (p : Nat), GoodTm t → tmDepth t < f → AtW ws p (tmWords t) → pTerm f ws p = .ok t (p + (tmWords t).length)
  | 0, _, _, _, h, _ => absurd h (Nat.not_lt_zero _)
  | f + 1, .leaf op, p, g, _, ⟨⟨s, hs⟩, _⟩ => by
    simp only [pTerm, pWord_at hs, Res.bind, ne_lpar g, if_true, pOp_at hs g, tmWords, List.length_singleton]
  | f + 1, .one op a, p, ⟨g1, g2⟩, h, ⟨⟨s, hs⟩, ⟨s1, hs1⟩, h2⟩ => by
    rw [AtW.app] at h2
    obtain ⟨ha, ⟨s3, h3⟩, _⟩ := h2
    k_extra "c154"
    simp only [pTerm, pWord_at hs, Res.bind, lpar_lpar, Bool.false_eq_true, if_false, pOp_at hs1 g1, e, pWord_at h3, rpar_rpar, tmWords, List.length_cons, List.length_append, List.length_nil]
    congr 1; omega
  | f + 1, .two op a b, p, ⟨g1, g2, g3⟩, h, ⟨⟨s, hs⟩, ⟨s1, hs1⟩, h2⟩ => by
    rw [AtW.app, AtW.app] at h2
    obtain ⟨ha, hb, ⟨s3, h3⟩, _⟩ := h2
    k_extra "c154"
    have e' := pTerm_ok f b _ g3 (by simp only [tmDepth] at h; omega) hb
    obtain ⟨x, sx, hx, kx⟩ := tm_first g3 hb
    simp only [pTerm, pWord_at hs, Res.bind, lpar_lpar, Bool.false_eq_true, if_false, pOp_at hs1 g1, e, pWord_at hx, kx, if_true, e', pWord_at h3, rpar_rpar, tmWords, List.length_cons, List.length_append, List.length_nil]
    congr 1; omega
noncomputable def rowWords : List (Str × Tm) → List Str
  | [] => []
  | (x, t) :: ps => x :: (tmWords t ++ rowWords ps)
noncomputable def PsOk (ps : List (Str × Tm)) : Prop := ps = [] ∨ (∃ t, (GoodTm t ∧ tmDepth t < 3) ∧ ps = [(xName, t)]) ∨ (∃ t t', (GoodTm t ∧ tmDepth t < 3) ∧ (GoodTm t' ∧ tmDepth t' < 3) ∧ ps = [(xName, t), (yName, t')])
noncomputable def GoodPp : Pp → Prop
  | .told l => isOpS l = true
  | .same t => GoodTm t ∧ tmDepth t < 4
  | .rule l ps => isOpS l = true ∧ PsOk ps
  | .turn p => GoodPp p
  | .join p q => GoodPp p ∧ GoodPp q
  | .under0 l => isOpS l = true
  | .under1 l p => isOpS l = true ∧ GoodPp p
  | .under2 l p q => isOpS l = true ∧ GoodPp p ∧ GoodPp q
noncomputable def ppDepth : Pp → Nat
  | .turn p => ppDepth p + 1
  | .join p q => max (ppDepth p) (ppDepth q) + 1
  | .under1 _ p => ppDepth p + 1
  | .under2 _ p q => max (ppDepth p) (ppDepth q) + 1
  | _ => 0
inductive Spell : Bool → Pp → List Str → Prop
  | told {l : Str} : Spell false (.told l) [lpar, kTold, l, rpar]
  | same {t : Tm} : Spell false (.same t) (lpar :: kSame :: (tmWords t ++ [rpar]))
  | rule {l : Str} {ps : List (Str × Tm)} : Spell false (.rule l ps) (lpar :: kRule :: l :: (rowWords ps ++ [rpar]))
  | ruleR {l : Str} {ps : List (Str × Tm)} : Spell false (.rule l ps) (lpar :: kRule :: l :: (rowWords ps.reverse ++ [rpar]))
  | turn {p : Pp} {w : List Str} : Spell false p w → Spell false (.turn p) (lpar :: kTurn :: (w ++ [rpar]))
  | join {p q : Pp} {w : List Str} : Spell true (.join p q) w → Spell false (.join p q) (lpar :: kJoin :: (w ++ [rpar]))
  | row0 {p q : Pp} {w w' : List Str} : Spell false p w → Spell false q w' → Spell true (.join p q) (w ++ w')
  | row1 {p q : Pp} {w w' : List Str} : Spell true p w → Spell false q w' → Spell true (.join p q) (w ++ w')
  | under0 {l : Str} : Spell false (.under0 l) [lpar, kUnder, l, rpar]
  | under1 {l : Str} {p : Pp} {w : List Str} : Spell false p w → Spell false (.under1 l p) (lpar :: kUnder :: l :: (w ++ [rpar]))
  | under2 {l : Str} {p q : Pp} {w w' : List Str} : Spell false p w → Spell false q w' → Spell false (.under2 l p q) (lpar :: kUnder :: l :: (w ++ (w' ++ [rpar])))
theorem Spell.head {b : Bool} {p : Pp} {w : List Str} (h : Spell b p w) : ∃ r, w = lpar :: r := by
  induction h with
  | row0 _ _ ih _ => obtain ⟨r, rfl⟩ := ih; exact ⟨_, rfl⟩
  | row1 _ _ ih _ => obtain ⟨r, rfl⟩ := ih; exact ⟨_, rfl⟩
  | _ => exact ⟨_, rfl⟩
theorem Spell.first {b : Bool} {p : Pp} {w : List Str} {ws : Toks} {i : Nat} (h : Spell b p w) (a : AtW ws i w) : ∃ s, ws[i]? = some (lpar, s) := by
  obtain ⟨r, rfl⟩ := h.head
  exact a.1
theorem pVar_x {ws : Toks} {p s : Nat} (h : ws[p]? = some (xName, s)) : pVar ws p = .ok xName (p + 1) := by
  unfold pVar; rw [h]; dsimp only; rw [if_neg (by decide +kernel)]
theorem pVar_y {ws : Toks} {p s : Nat} (h : ws[p]? = some (yName, s)) : pVar ws p = .ok yName (p + 1) := by
  unfold pVar; rw [h]; dsimp only; rw [if_neg (by decide +kernel)]
theorem pVar_nil {ws : Toks} {p s : Nat} (h : ws[p]? = some (nils, s)) : pVar ws p = .err s := by
  unfold pVar; rw [h]; dsimp only; rw [if_pos (by decide +kernel)]
theorem x_rpar : (xName != rpar) = true := by decide +kernel
theorem y_rpar : (yName != rpar) = true := by decide +kernel
theorem y_x : ¬ yName = xName := by decide +kernel
set_option Elab.async true in
theorem pPlaces_ok {ws : Toks} {p s : Nat} {ps qs : List (Str × Tm)} (g : PsOk ps) (hq : qs = ps ∨ qs = ps.reverse) (h : AtW ws p (rowWords qs)) (he : ws[p + (rowWords qs).length]? = some (rpar, s)) : pPlaces 3 ws p = .ok ps (p + (rowWords qs).length) := by
  k_extra "c120"
  · obtain rfl : qs = [] := by rcases hq with h | h <;> exact h
    simp only [rowWords, List.length_nil, Nat.add_zero] at he ⊢
    simp only [pPlaces, pWord_at he, Res.bind, rpar_rpar, Bool.false_eq_true, if_false]
  · obtain rfl : qs = [(xName, t)] := by rcases hq with h | h <;> exact h
    simp only [rowWords, List.append_nil, List.length_cons] at h he ⊢
    obtain ⟨⟨s1, h1⟩, h2⟩ := h
    have e := pTerm_ok 3 t (p + 1) g1 g2 h2
    rw [show p + ((tmWords t).length + 1) = p + 1 + (tmWords t).length by omega] at he ⊢
    simp only [pPlaces, pWord_at h1, Res.bind, x_rpar, if_true, pVar_x h1, e, pWord_at he, rpar_rpar, Bool.false_eq_true, if_false]
  · rcases hq with rfl | rfl
    · simp only [rowWords, List.append_nil, List.length_cons, List.length_append] at h he ⊢
      obtain ⟨⟨s1, h1⟩, h2⟩ := h
      rw [AtW.app] at h2
      obtain ⟨ha, ⟨s3, h3⟩, hb⟩ := h2
      have e := pTerm_ok 3 t (p + 1) g1 g2 ha
      have e' := pTerm_ok 3 t' _ g3 g4 hb
      rw [show p + ((tmWords t).length + ((tmWords t').length + 1) + 1) = p + 1 + (tmWords t).length + 1 + (tmWords t').length by omega] at he ⊢
      simp only [pPlaces, pWord_at h1, Res.bind, x_rpar, if_true, pVar_x h1, e, pWord_at h3, y_rpar, pVar_y h3, if_neg y_x, e', pWord_at he, rpar_rpar, Bool.false_eq_true, if_false]
    · simp only [List.reverse_cons, List.reverse_nil, List.nil_append, List.singleton_append, rowWords, List.append_nil, List.length_cons, List.length_append] at h he ⊢
      obtain ⟨⟨s1, h1⟩, h2⟩ := h
      rw [AtW.app] at h2
      obtain ⟨ha, ⟨s3, h3⟩, hb⟩ := h2
      have e := pTerm_ok 3 t' (p + 1) g3 g4 ha
      have e' := pTerm_ok 3 t _ g1 g2 hb
      rw [show p + ((tmWords t').length + ((tmWords t).length + 1) + 1) = p + 1 + (tmWords t').length + 1 + (tmWords t).length by omega] at he ⊢
      simp only [pPlaces, pWord_at h1, Res.bind, y_rpar, if_true, pVar_y h1, if_neg y_x, e, pWord_at h3, x_rpar, pVar_x h3, e', pWord_at he, rpar_rpar, Bool.false_eq_true, if_false]
in #guard_msgs (drop info, drop warning) in open Nat
set_option Elab.async true in
theorem pPlaces_nil {ws : Toks} {p s : Nat} {ps qs : List (Str × Tm)} (g : PsOk ps) (hq : qs = ps ∨ qs = ps.reverse) (h : AtW ws p (rowWords qs)) (he : ws[p + (rowWords qs).length]? = some (nils, s)) : pPlaces 3 ws p = .err s := by
  k_extra "c120"
  · obtain rfl : qs = [] := by rcases hq with h | h <;> exact h
    simp only [rowWords, List.length_nil, Nat.add_zero] at he ⊢
    simp only [pPlaces, pWord_at he, Res.bind, nils_rpar, if_true, pVar_nil he]
  · obtain rfl : qs = [(xName, t)] := by rcases hq with h | h <;> exact h
    simp only [rowWords, List.append_nil, List.length_cons] at h he ⊢
    obtain ⟨⟨s1, h1⟩, h2⟩ := h
    have e := pTerm_ok 3 t (p + 1) g1 g2 h2
    rw [show p + ((tmWords t).length + 1) = p + 1 + (tmWords t).length by omega] at he
    simp only [pPlaces, pWord_at h1, Res.bind, x_rpar, if_true, pVar_x h1, e, pWord_at he, nils_rpar, pVar_nil he]
  · rcases hq with rfl | rfl
    · simp only [rowWords, List.append_nil, List.length_cons, List.length_append] at h he ⊢
      obtain ⟨⟨s1, h1⟩, h2⟩ := h
      rw [AtW.app] at h2
      obtain ⟨ha, ⟨s3, h3⟩, hb⟩ := h2
      have e := pTerm_ok 3 t (p + 1) g1 g2 ha
      have e' := pTerm_ok 3 t' _ g3 g4 hb
      rw [show p + ((tmWords t).length + ((tmWords t').length + 1) + 1) = p + 1 + (tmWords t).length + 1 + (tmWords t').length by omega] at he
      simp only [pPlaces, pWord_at h1, Res.bind, x_rpar, if_true, pVar_x h1, e, pWord_at h3, y_rpar, pVar_y h3, if_neg y_x, e', pWord_at he, nils_rpar, pVar_nil he]
    · simp only [List.reverse_cons, List.reverse_nil, List.nil_append, List.singleton_append, rowWords, List.append_nil, List.length_cons, List.length_append] at h he ⊢
      obtain ⟨⟨s1, h1⟩, h2⟩ := h
      rw [AtW.app] at h2
      obtain ⟨ha, ⟨s3, h3⟩, hb⟩ := h2
      have e := pTerm_ok 3 t' (p + 1) g3 g4 ha
      have e' := pTerm_ok 3 t _ g1 g2 hb
      rw [show p + ((tmWords t').length + ((tmWords t).length + 1) + 1) = p + 1 + (tmWords t').length + 1 + (tmWords t).length by omega] at he
      simp only [pPlaces, pWord_at h1, Res.bind, y_rpar, if_true, pVar_y h1, if_neg y_x, e, pWord_at h3, x_rpar, pVar_x h3, e', pWord_at he, nils_rpar, pVar_nil he]
in #guard_msgs (drop info, drop warning) in open Nat
theorem op_kind : isOpS kSame = true ∧ isOpS kTold = true ∧ isOpS kRule = true ∧ isOpS kTurn = true ∧ isOpS kJoin = true ∧ isOpS kUnder = true := by decide +kernel
section
variable {rec : Nat → Res Pp} {ws : Toks} {q p : Nat}
theorem pBody_same : pBody rec ws kSame q p = (pTerm 4 ws p).bind fun t p => .ok (.same t) p := rfl
theorem pBody_told : pBody rec ws kTold q p = (pOp ws p).bind fun o p => .ok (.told o) p := by unfold pBody; rw [if_neg (by decide +kernel), if_pos (by decide +kernel)]
theorem pBody_rule : pBody rec ws kRule q p = (pOp ws p).bind fun o p => (pPlaces 3 ws p).bind fun ps p => .ok (.rule o ps) p := by
  unfold pBody; rw [if_neg (by decide +kernel), if_neg (by decide +kernel), if_pos (by decide +kernel)]
theorem pBody_turn : pBody rec ws kTurn q p = (rec p).bind fun a p => .ok (.turn a) p := by
  unfold pBody; rw [if_neg (by decide +kernel), if_neg (by decide +kernel), if_neg (by decide +kernel), if_pos (by decide +kernel)]
theorem pBody_join : pBody rec ws kJoin q p = (rec p).bind fun a p => (rec p).bind fun b p => pRow rec ws 6 p (.join a b) := by
  unfold pBody; rw [if_neg (by decide +kernel), if_neg (by decide +kernel), if_neg (by decide +kernel), if_neg (by decide +kernel), if_pos (by decide +kernel)]
theorem pBody_under : pBody rec ws kUnder q p = (pOp ws p).bind fun o p => (pPapers rec ws p).bind fun l p => match l with
    | [] => .ok (.under0 o) p
    | [a] => .ok (.under1 o a) p
    | [a, b] => .ok (.under2 o a b) p
    | _ => .stuck := by
  unfold pBody; rw [if_neg (by decide +kernel), if_neg (by decide +kernel), if_neg (by decide +kernel), if_neg (by decide +kernel), if_neg (by decide +kernel), if_pos (by decide +kernel)]; (try rfl)
end
noncomputable def spine : Pp → Nat
  | .join p _ => spine p + 1
  | _ => 0
theorem spine_le : ∀ p : Pp, spine p ≤ ppDepth p
  | .join p q => by have := spine_le p; simp only [spine, ppDepth]; omega
  | .told _ | .same _ | .rule _ _ | .turn _ | .under0 _ | .under1 _ _ | .under2 _ _ _ => Nat.zero_le _
noncomputable def SpellOk (ws : Toks) : Bool → Pp → List Str → Prop
  | false, P, w => ∀ f p, ppDepth P < f → ppDepth P ≤ 5 → AtW ws p w → pPaper f ws p = .ok P (p + w.length)
  | true, P, w => ∃ k, k ≤ spine P - 1 ∧ ∀ f p n, ppDepth P ≤ f → ppDepth P ≤ 5 → AtW ws p w → ((pPaper f ws p).bind fun a p1 => (pPaper f ws p1).bind fun b p2 => pRow (pPaper f ws) ws (n + k) p2 (.join a b)) = pRow (pPaper f ws) ws n (p + w.length) P
theorem spell_join {b : Bool} {P : Pp} {w : List Str} (h : Spell b P w) : b = true → ∃ p q, P = .join p q := by
  cases h <;> intro e <;> first | exact absurd e Bool.false_ne_true | exact ⟨_, _, rfl⟩
theorem pPaper_unf {f : Nat} {ws : Toks} {p : Nat} {k : Str} {s s1 : Nat} (h0 : ws[p]? = some (lpar, s)) (h1 : ws[p + 1]? = some (k, s1)) (hk : isOpS k = true) :
    pPaper (f + 1) ws p = (pBody (pPaper f ws) ws k (p + 1) (p + 1 + 1)).bind fun a p3 => (pWant rpar ws p3).bind fun _ p4 => .ok a p4 := by
  simp only [pPaper, pWant_at h0 lpar_lpar, Res.bind, pOp_at h1 hk]
set_option Elab.async true in
theorem pPaper_ok {ws : Toks} {b : Bool} {P : Pp} {w : List Str} (h : Spell b P w) : GoodPp P → SpellOk ws b P w := by
  induction h with
  | told =>
    rintro g (_ | f) p hf hd ⟨⟨s0, h0⟩, ⟨s1, h1⟩, ⟨s2, h2⟩, ⟨s3, h3⟩, _⟩
    · omega
    · rw [pPaper_unf h0 h1 op_kind.2.1, pBody_told]
      simp only [pOp_at h2 g, Res.bind, pWant_at h3 rpar_rpar, List.length_cons, List.length_nil]
  | @same t =>
    rintro g (_ | f) p hf hd ⟨⟨s0, h0⟩, ⟨s1, h1⟩, h2⟩
    · omega
    · rw [AtW.app] at h2
      obtain ⟨ha, ⟨s3, h3⟩, _⟩ := h2
      rw [pPaper_unf h0 h1 op_kind.1, pBody_same]
      simp only [pTerm_ok 4 t _ g.1 g.2 ha, Res.bind, pWant_at h3 rpar_rpar, List.length_cons, List.length_append, List.length_nil]
      congr 1; omega
  | @rule l ps =>
    rintro g (_ | f) p hf hd ⟨⟨s0, h0⟩, ⟨s1, h1⟩, ⟨s2, h2⟩, h4⟩
    · omega
    · rw [AtW.app] at h4
      obtain ⟨ha, ⟨s3, h3⟩, _⟩ := h4
      k_extra "c105"
      simp only [pOp_at h2 g.1, Res.bind, pPlaces_ok g.2 (.inl rfl) ha h3, pWant_at h3 rpar_rpar, List.length_cons, List.length_append, List.length_nil]
      congr 1; omega
  | @ruleR l ps =>
    rintro g (_ | f) p hf hd ⟨⟨s0, h0⟩, ⟨s1, h1⟩, ⟨s2, h2⟩, h4⟩
    · omega
    · rw [AtW.app] at h4
      obtain ⟨ha, ⟨s3, h3⟩, _⟩ := h4
      k_extra "c105"
      simp only [pOp_at h2 g.1, Res.bind, pPlaces_ok g.2 (.inr rfl) ha h3, pWant_at h3 rpar_rpar, List.length_cons, List.length_append, List.length_nil]
      congr 1; omega
  | turn _ ih =>
    rintro g (_ | f) p hf hd ⟨⟨s0, h0⟩, ⟨s1, h1⟩, h2⟩
    · omega
    · rw [AtW.app] at h2
      obtain ⟨ha, ⟨s3, h3⟩, _⟩ := h2
      simp only [ppDepth] at hf hd
      k_extra "c135"
      simp only [ih g f _ (by omega) (by omega) ha, Res.bind, pWant_at h3 rpar_rpar, List.length_cons, List.length_append, List.length_nil]
      congr 1; omega
  | @join p' q' w _ ih =>
    rintro g (_ | f) p hf hd ⟨⟨s0, h0⟩, ⟨s1, h1⟩, h2⟩
    · omega
    · rw [AtW.app] at h2
      obtain ⟨ha, ⟨s3, h3⟩, _⟩ := h2
      obtain ⟨k, hk, H⟩ := ih g
      have hs := spine_le (.join p' q')
      obtain ⟨n, hn⟩ : ∃ n, (n + 1) + k = 6 := ⟨5 - k, by omega⟩
      rw [pPaper_unf h0 h1 op_kind.2.2.2.2.1, pBody_join, ← hn, H f _ (n + 1) (by omega) hd ha]
      simp only [pRow, pWord_at h3, Res.bind, rpar_rpar, Bool.false_eq_true, if_false, pWant_at h3 rpar_rpar, List.length_cons, List.length_append, List.length_nil]
      congr 1; omega
  | @row0 p' q' w w' _ _ ih1 ih2 =>
    intro g
    refine ⟨0, Nat.zero_le _, fun f p n hf hd h => ?_⟩
    rw [AtW.app] at h
    simp only [ppDepth] at hf hd
    simp only [ih1 g.1 f p (by omega) (by omega) h.1, ih2 g.2 f _ (by omega) (by omega) h.2, Res.bind, List.length_append, Nat.add_zero, Nat.add_assoc]
  | @row1 p' q' w w' h1 h2 ih1 ih2 =>
    intro g
    obtain ⟨k, hk, H⟩ := ih1 g.1
    obtain ⟨p1, q1, rfl⟩ := spell_join h1 rfl
    refine ⟨k + 1, by simp only [spine] at hk ⊢; omega, fun f p n hf hd h => ?_⟩
    rw [AtW.app] at h
    obtain ⟨s, hs⟩ := h2.first h.2
    have e2 := ih2 g.2 f (p + w.length) (by simp only [ppDepth] at hf; omega) (by simp only [ppDepth] at hd; omega) h.2
    rw [show n + (k + 1) = (n + 1) + k by omega, H f p (n + 1) (by simp only [ppDepth] at hf ⊢; omega) (by simp only [ppDepth] at hd ⊢; omega) h.1]
    simp only [pRow, pWord_at hs, Res.bind, lpar_rpar, if_true, e2, List.length_append, Nat.add_assoc]
  | under0 =>
    rintro g (_ | f) p hf hd ⟨⟨s0, h0⟩, ⟨s1, h1⟩, ⟨s2, h2⟩, ⟨s3, h3⟩, _⟩
    · omega
    · rw [pPaper_unf h0 h1 op_kind.2.2.2.2.2, pBody_under]
      simp only [pOp_at h2 g, Res.bind, pPapers, pWord_at h3, rpar_rpar, Bool.false_eq_true, if_false, pWant_at h3 rpar_rpar, List.length_cons, List.length_nil]
  | under1 k ih =>
    rintro g (_ | f) p hf hd ⟨⟨s0, h0⟩, ⟨s1, h1⟩, ⟨s2, h2⟩, h4⟩
    · omega
    · rw [AtW.app] at h4
      obtain ⟨ha, ⟨s3, h3⟩, _⟩ := h4
      obtain ⟨s4, h4⟩ := k.first ha
      simp only [ppDepth] at hf hd
      k_extra "c78"
      simp only [pOp_at h2 g.1, Res.bind, pPapers, pWord_at h4, lpar_rpar, if_true, ih g.2 f _ (by omega) (by omega) ha, pWord_at h3, rpar_rpar, Bool.false_eq_true, if_false, pWant_at h3 rpar_rpar, List.length_cons, List.length_append, List.length_nil]
      congr 1; omega
  | under2 k k' ih ih' =>
    rintro g (_ | f) p hf hd ⟨⟨s0, h0⟩, ⟨s1, h1⟩, ⟨s2, h2⟩, h4⟩
    · omega
    · rw [AtW.app, AtW.app] at h4
      obtain ⟨ha, hb, ⟨s3, h3⟩, _⟩ := h4
      obtain ⟨s4, h4⟩ := k.first ha
      obtain ⟨s5, h5⟩ := k'.first hb
      simp only [ppDepth] at hf hd
      k_extra "c78"
      simp only [pOp_at h2 g.1, Res.bind, pPapers, pWord_at h4, lpar_rpar, if_true, ih g.2.1 f _ (by omega) (by omega) ha, pWord_at h5, ih' g.2.2 f _ (by omega) (by omega) hb, pWord_at h3, rpar_rpar, Bool.false_eq_true, if_false, pWant_at h3 rpar_rpar, List.length_cons, List.length_append, List.length_nil]
      congr 1; omega
in #guard_msgs (drop info, drop warning) in open Nat
theorem ePL11 : True := trivial
end Mine
-- TermW
namespace Mine
example : True := by
  k_with "fk" => first | ((fail_if_success have hzz := eTermW1); (with_reducible (first | exact fk71 (by assumption) | exact fk72 (by assumption)))) | fail
  trivial
open LCg
noncomputable def OutStrs (news : Led) (ws : List Str) (r : Value) (news' : Led) : Prop := ∃ D vs n tl, r = .ref D ∧ news' = tl ++ news ∧ Above news tl ∧ (D, listOf vs.toArray n) ∈ tl ∧ StrsAre vs ws
noncomputable def TWC (w : World) (mean : ExcName → Option Value) (mg mb : Str → Option Value) (t : Tm) : Prop := ∀ (v : Value) (news : Led), IsTm news v t → (tmWords t).length ≤ 1000 → Tri LAW hd.heap_39 w mean mg mb 306 [v] (tmDepth t + 4) (60 * (tmDepth t + 2)) news (OutStrs news (tmWords t))
set_option Elab.async true in
theorem tw_use {w : World} {mean : ExcName → Option Value} {mg mb : Str → Option Value} {dp un : Nat} {gd : Option (List Code)} {cn : Str} {cs : Scope} {a : Addr} {ccd : Value} {cl : List (Str × Addr)} {outer : List Env} {A₀ : Around} {base h₀ : Heap} {L : Addr} {m : Str → Option Value} {s : Shared} {Q E : Value → Shared → Prop} {t : Tm} {v : Value} {all : Led} (B : Below A₀ base outer h₀) (F : Fr h₀ L s.heap m) (X : (hd.heap_39 w.params).In h₀) (N : News h₀ L s.heap all) (T : Top view (looseW view []) mean mg mb h₀) (hk : cs.kind = .function) (hv : IsTm all v t) (C : TWC w mean mg mb t)
    (hl : (tmWords t).length ≤ 1000) (hd : dp + (tmDepth t + 4) < recursionLimit) (hu : un + 60 * (tmDepth t + 2) < cLine)
    (h : ∀ D vs n tl h' tk', Fr h₀ L h' m → News h₀ L h' (tl ++ all) → Above all tl → (D, listOf vs.toArray n) ∈ tl → StrsAre vs (tmWords t) → Q (.ref D) { s with heap := h', toks := tk' }) :
    wpAny (model PySem.Challenge.rw_pq0122_01.row.prog w) (ktrTop dp un gd cn cs L a ccd cl outer) (call (.ref 306) [v]) Q E s := by
  k_extra "c75"
  rintro r news' h' tk' F' N' ⟨D, vs, n, tl, rfl, rfl, A, hD, hS⟩
  exact h D vs n tl h' tk' F' N' A hD hS
in #guard_msgs (drop info, drop warning) in open Nat
set_option Elab.async true in
theorem comp2_end {h₀ : Heap} {L I C D l : Addr} {m : Str → Option Value} {s₁ : Shared} {oI oC : Obj} {ys vs : List Value} {n : Nat} {S : Led → Prop} {rest : List Value → Led → Prop} {h' : Heap} {tk : Nat} {all r1 r2 news' : Led}
    (F : Fr h₀ L h' m) (N : News h₀ L h' all) (p1 : Pick I oI all r1) (p2 : Pick C oC r1 r2) (p3 : Pick D (lst ys) r2 news') (off : LCg.Off3 I C D news') (hS : S news') (hl : (l, listOf vs.toArray n) ∈ news') (hsz : ys.length + vs.length ≤ 1000000) (r : rest vs news') :
    CompEnd2 h₀ L m s₁ I oI C oC D ys S rest (.ref l) { s₁ with heap := h', toks := tk } := by
  refine ⟨h', tk, news', l, vs, n, rfl, rfl, F, News.sub N (fun p hp => ?_), off, hS, hl, hsz, r⟩
  k_extra "c22"
  · exact p1.sub _ (.head _)
  · rcases List.mem_cons.mp hp with rfl | hp
    · k_extra "c155"
    · k_extra "c113"
in #guard_msgs (drop info, drop warning) in open Nat
theorem comp2_succ {prog : Program} {w : World} {A : Around} {h₀ : Heap} {L : Addr} {m : Str → Option Value} {env : Env} {iter2 : Expr} {scope : Scope} {cl : List (Str × Addr)} {s : Shared} {S : Led → Prop} {G : Nat → (Str → Option Value) → Prop} {Fin : List Value → Led → Prop} {k i : Nat} {ys : List Value} {news : Led}
    (h : ∀ I oI C oC D m₂ h tk (E' : Value → Shared → Prop), NsObj oC m₂ → G i m₂ → Fr h₀ L h m → News h₀ L h ((I, oI) :: (C, oC) :: (D, lst ys) :: news) → Off3 I C D news → ((@Ne Nat I C) ∧ (@Ne Nat I D) ∧ (@Ne Nat C D)) →
      wpAny (model prog w) A (eval iter2 (compEnvC scope cl C env)) (CompEnd2 h₀ L m { s with heap := h, toks := tk } I oI C oC D ys S (fun vs news' => CompRest2 prog w A h₀ L m env iter2 scope cl s S G Fin k (i + 1) (ys ++ vs) news')) E' { s with heap := h, toks := tk }) : CompRest2 prog w A h₀ L m env iter2 scope cl s S G Fin (k + 1) i ys news := h
theorem mem_upW {tl tl' : Led} {x : Addr × Obj} (m : x ∈ tl) (h : ∀ p ∈ tl, p ∈ tl') : List.Mem x tl' := h _ m
theorem sa_assocS {vs : List Value} {a b c : List Str} (h : StrsAre vs ((a ++ b) ++ c)) : StrsAre vs (a ++ (b ++ c)) := by rw [← List.append_assoc]; exact h
theorem Above.monoW {old old' tl : Led} (h : Above old' tl) (k : ∀ q ∈ old, q ∈ old') : Above old tl := fun q hq p hp => h q (k q hq) p hp
theorem ne_allW {l : Led} {d : Addr} (h : ∀ p ∈ l, p.1 < d) : ∀ p ∈ l, p.1 ≠ d := fun p hp => Nat.ne_of_lt (h p hp)
theorem tail_newsW {h₀ h : Heap} {L : Addr} {news all tl : Led} (N : News h₀ L h all) (t : Tail news all tl) : News h₀ L h (tl ++ news) := by rw [← t.eq]; exact N
theorem s_use {S : Led → Prop} {rest nw : Led} (h : ∀ nw, (∀ p ∈ rest, p ∈ nw) → S nw) (k : ∀ p ∈ rest, p ∈ nw) : S nw := h nw k
theorem off3_tail {I C D : Addr} {q : Addr × Obj} {l : Led} (h : LCg.Off3 I C D (q :: l)) : LCg.Off3 I C D l := h.2
theorem off3_sub {I C D : Addr} {l l' : Led} (h : LCg.Off3 I C D l') (k : ∀ p ∈ l, p ∈ l') : LCg.Off3 I C D l := LCg.Off3.of fun p hp => h.mem p (k p hp)
theorem off3_cons {I C D P : Addr} {o o' : Obj} {l l' : Led} (h : LCg.Off3 I C D l') (m : (P, o') ∈ l') (r : LCg.Off3 I C D l) : LCg.Off3 I C D ((P, o) :: l) := LCg.Off3.of fun p hp => by
  k_extra "c22"
  · exact (show P ≠ I ∧ P ≠ C ∧ P ≠ D from h.mem _ m)
  · exact r.mem p hp
theorem row_step {I C D D' l' : Addr} {oI oC oD x y : Obj} {tl base : Led} (h1 : ∀ q ∈ tl ++ (l', y) :: (I, oI) :: (C, oC) :: (D, oD) :: base, q.1 < D') (h2 : Above ((l', y) :: (I, oI) :: (C, oC) :: (D, oD) :: base) tl)
    (hI : @LT.lt Nat _ I l') (hC : @LT.lt Nat _ C l') (hD : @LT.lt Nat _ D l') (h3 : AllLt l' base) : Above ((I, oI) :: (C, oC) :: (D, oD) :: base) ((D', x) :: (tl ++ [(l', y)])) :=
  Above.cons (fun q hq => Nat.ne_of_lt (h1 q (List.mem_append_right _ (.tail _ hq)))) (Above.app (fun q hq p hp => h2 q (.tail _ hq) p hp) (Above.cons (fun q hq => by
    k_extra "c30"
    · exact Nat.ne_of_lt hI
    · rcases List.mem_cons.mp hq with rfl | hq
      · exact Nat.ne_of_lt hC
      · rcases List.mem_cons.mp hq with rfl | hq
        · exact Nat.ne_of_lt hD
        · exact Nat.ne_of_lt (ktn_ltOf h3 q hq)) Above.nil))
theorem row_next {D' l' : Addr} {x y : Obj} {tl base : Led} {Next : List Value → Led → Prop} {vs : List Value} (h : Next vs (((D', x) :: (tl ++ [(l', y)])) ++ base)) : Next vs ((D', x) :: (tl ++ (l', y) :: base)) := by simpa using h
theorem next_tail {base nw tl : Led} {Next : List Value → Led → Prop} {vs : List Value} (t : Tail base nw tl) (h : Next vs (tl ++ base)) : Next vs nw := by rw [t.eq]; exact h
theorem Above.atW {old tl : Led} (h : Above old tl) {a : Addr} {o : Obj} (hm : (a, o) ∈ old) {p : Addr × Obj} (hp : p ∈ tl) : p.1 ≠ a := (h _ hm p hp).symm
theorem Above.consA {P D : Addr} {o o' x : Obj} {news l tl : Led} (h : AllLt D l) (m : (P, o') ∈ l) (k : ∀ q ∈ news, q ∈ l) (r : Above ((P, o) :: news) tl) : Above ((P, o) :: news) ((D, x) :: tl) :=
  Above.cons (fun q hq => by
    k_extra "c30"
    · exact Nat.ne_of_lt (show @LT.lt Nat _ P D from ktn_ltOf h _ m)
    · exact Nat.ne_of_lt (ktn_ltOf h _ (k q hq))) r
theorem Above.consO {P D : Addr} {o o' x : Obj} {news l tl : Led} (h : LCg.Off1 D l) (m : (P, o') ∈ l) (k : ∀ q ∈ news, q ∈ l) (r : Above ((P, o) :: news) tl) : Above ((P, o) :: news) ((D, x) :: tl) :=
  Above.cons (fun q hq => by
    k_extra "c30"
    · exact (show P ≠ D from off1_mem h _ m)
    · exact off1_mem h _ (k q hq)) r
theorem off3_newR {I C D X : Addr} {oI oC oD x : Obj} {l tl : Led} (h : ∀ q ∈ l, q.1 < X) (hI : (I, oI) ∈ l) (hC : (C, oC) ∈ l) (hD : (D, oD) ∈ l) (r : LCg.Off3 I C D tl) : LCg.Off3 I C D ((X, x) :: tl) :=
  LCg.Off3.of fun p hp => by
    k_extra "c22"
    · exact ⟨Nat.ne_of_gt (h _ hI), Nat.ne_of_gt (h _ hC), Nat.ne_of_gt (h _ hD)⟩
    · exact r.mem p hp
theorem Above.subA {P : Addr} {o o' : Obj} {news old tl : Led} (h : Above old tl) (m : (P, o') ∈ old) (k : ∀ q ∈ news, q ∈ old) : Above ((P, o) :: news) tl := fun q hq p hp => by
  k_extra "c30"
  · exact h _ m p hp
  · exact h _ (k q hq) p hp
theorem Above.consS {P L : Addr} {o x : Obj} {news tl : Led} (h : @LT.lt Nat _ P L) (k : AllLt L news) (r : Above ((P, o) :: news) tl) : Above ((P, o) :: news) ((@HAdd.hAdd Nat Nat Nat _ L 1, x) :: tl) :=
  Above.cons (fun q hq => by
    k_extra "c30"
    · exact Nat.ne_of_lt (Nat.lt_succ_of_lt h)
    · exact Nat.ne_of_lt (Nat.lt_succ_of_lt (ktn_ltOf k _ hq))) r
theorem Above.consSS {P L : Addr} {o x : Obj} {news tl : Led} (h : @LT.lt Nat _ P L) (k : AllLt L news) (r : Above ((P, o) :: news) tl) : Above ((P, o) :: news) ((@HAdd.hAdd Nat Nat Nat _ (@HAdd.hAdd Nat Nat Nat _ L 1) 1, x) :: tl) :=
  Above.cons (fun q hq => by
    k_extra "c30"
    · exact Nat.ne_of_lt (Nat.lt_succ_of_lt (Nat.lt_succ_of_lt h))
    · exact Nat.ne_of_lt (Nat.lt_succ_of_lt (Nat.lt_succ_of_lt (ktn_ltOf k _ hq)))) r
theorem comp2_zero {prog : Program} {w : World} {A : Around} {h₀ : Heap} {L : Addr} {m : Str → Option Value} {env : Env} {iter2 : Expr} {scope : Scope} {cl : List (Str × Addr)} {s : Shared} {S : Led → Prop} {G : Nat → (Str → Option Value) → Prop} {Fin : List Value → Led → Prop} {i : Nat} {ys : List Value} {news : Led} (h : Fin ys news) : CompRest2 prog w A h₀ L m env iter2 scope cl s S G Fin 0 i ys news := h
section
variable {prog : Program} {w : World} {A : Around} {E : Value → Shared → Prop} {s : Shared} {h₀ : Heap} {L : Addr} {m : Str → Option Value} {news : Led}
set_option Elab.async true in
theorem m_tupFrom {value slice : Expr} {t : Addr} {vs zs : List Value} {n : Nat} {tk : Tok} {Q : Value → Shared → Prop} {hp : Heap} {g : Array GenState} {dr : Drawn} {tt : Nat} {os : OsState} (F : Fr h₀ L hp m) (N : News h₀ L hp news) (hm : (t, tupO vs n) ∈ news) (h1 : 1 ≤ vs.length) (hz : vs.length ≤ 1000) (e : vs.drop 1 = zs)
    (h : ∀ D h', Fr h₀ L h' m → News h₀ L h' ((D, tupO zs 0) :: news) → (∀ p ∈ news, p.1 < D) → Q (.ref D) ⟨h', g, dr, tt, os⟩)
    (hs : subscripted slice false (.ref t) (.ref hp.objs.size) = operate [.ref hp.objs.size, .ref t] (getItem (.ref t) (.ref hp.objs.size))) (ht : ∀ r, letTemporaryGo value (.ref t) r = pure ()) :
    wpAny (model prog w) A (subscriptTail value slice (.ref t) (.ref hp.objs.size)) Q E ⟨hp.push { cls := .type "slice", data := .fields #[.int 1 tk, .none, .none] }, g, dr, tt, os⟩ := by
  subst e
  refine slice_tuple_from (s := ⟨hp, g, dr, tt, os⟩) (a := 1) (items := vs.toArray) F N (N.isTup hm) (Nat.le_refl _) (by rw [List.size_toArray]; exact h1) (fun h' F' N' => h _ h' F' N' fun p hp' => Nat.lt_succ_of_lt (Heap.lt_size (N p hp').1)) hs ht (by rw [sizeLine_eq, List.size_toArray]; omega)
in #guard_msgs (drop info, drop warning) in open Nat
end
theorem eTermW1 : True := trivial
end Mine
namespace Mine
example : True := by
  k_with "fk" => first | ((fail_if_success have hzz := eTermW3); (with_reducible (first | exact fk71 (by assumption) | exact fk72 (by assumption)))) | fail
  trivial
open LCg
example : True := by
  k_with "k_all" => first | ((fail_if_success have hzz := eTermW3); (first | with_reducible assumption | with_reducible exact List.forall_mem_nil _ | ((with_reducible refine List.forall_mem_cons.mpr ⟨?_, ?_⟩) <;> first | exact ne_ltR (by with_reducible assumption) | exact ne_ofR (by with_reducible assumption) (by k_mem) | exact ne_ofA (by with_reducible assumption) (by k_mem) | exact off3_I (by with_reducible assumption) (by k_mem) | exact off3_C (by with_reducible assumption) (by k_mem) | exact off3_D (by with_reducible assumption) (by k_mem) | exact Nat.ne_of_lt (by with_reducible assumption) | exact ne_ofL (by with_reducible assumption) (by k_mem) | exact ne_S (by with_reducible assumption) | exact ne_SS (by with_reducible assumption) | k_ne | k_all) | exact fun q hq => Nat.ne_of_lt (ktn_ltOf (by with_reducible assumption) q hq) | exact fun q hq => ne_allW (by with_reducible assumption) q (by k_mem) | ((with_reducible refine List.forall_mem_append.mpr ⟨?_, ?_⟩) <;> k_all) | exact fun p hp => Above.atW (by with_reducible assumption) (by k_mem) hp | exact fun q hq => Nat.ne_of_lt (ktn_ltOf (by assumption) q hq) | assumption)) | fail
  k_with "k_mem" => first | ((fail_if_success have hzz := eTermW3); (first | ((repeat (first | exact List.Mem.head _ | apply List.Mem.tail | apply mem_inr | with_reducible assumption | assumption)); done) | exact mem_upW (by with_reducible assumption) (fun p hp => by (simp only [List.mem_cons, List.mem_append, hp, true_or, or_true]; done)))) | fail
  k_with "k_room" => first | ((fail_if_success have hzz := eTermW3); (ktr_room)) | fail
  k_with "ktr_room" => first | ((fail_if_success have hzz := eTermW3); (first | ((try dsimp only [ktrTop]); omega) | ((try dsimp only [ktrTop]); (simp only [tmDepth] at *); omega))) | fail
  k_with "ktr_units" => first | ((fail_if_success have hzz := eTermW3); (first | ((try dsimp only [ktrTop]); omega) | ((try dsimp only [ktrTop]); (simp only [tmDepth] at *); omega))) | fail
  k_with "call ref" => first | ((fail_if_success have hzz := eTermW3); (k_here; refine stuck_of ?_)) | fail
  k_with "callWith ref cons nil" => first | ((fail_if_success have hzz := eTermW3); (k_here; k_dflt (first | (refine callWith_K0 (by k_in) (by k_is) ?_; k_whole) | (refine callWith_K (by k_asm) (by k_is) ?_; k_whole)))) | fail
  k_with "k_in" => first | ((fail_if_success have hzz := eTermW3); (first | with_reducible assumption | with_reducible exact Frag.In.keeps (by with_reducible assumption) (Fr.keep (by with_reducible assumption)) | exact Frag.In.keeps (by k_asm) (Fr.keep (by k_asm)))) | fail
  k_with "Src2" => first | ((fail_if_success have hzz := eTermW3); (k_here; refine stuck_of ?_)) | fail
  k_with "Src1" => first | ((fail_if_success have hzz := eTermW3); (k_here; refine stuck_of ?_)) | fail
  k_with "eval ListComp" => first | ((fail_if_success have hzz := eTermW3); (k_here; k_dflt (first | refine ListComp_2 (by k_asm) (by with_unfolding_all rfl) (by decide) (by rfl) (by decide) (by rfl) ?_ (by decide) (by intro _; rfl) (by intro _ _; rfl) | refine ListComp_1 (by k_asm) (by with_unfolding_all rfl) (by decide) (by rfl) (by decide) ?_ (by intro _; rfl)))) | fail
  k_with "CompRest2" => first | ((fail_if_success have hzz := eTermW3); (k_dflt (refine comp2_succ ?_); intro qI9 qoI9 qC9 qoC9 qD9 qm9 qh9 qtk9 qE9 qhC9 qhG9 qF9 qN9 qoff9 qne9; obtain ⟨qv9, qhv9, qhx9⟩ := qhG9; (simp only [List.getElem?_toArray, List.getElem?_cons_zero, List.getElem?_cons_succ, Nat.zero_add, Option.some.injEq] at qhv9); subst qhv9)) | fail
  k_with "CompEnd2" => first | ((fail_if_success have hzz := eTermW3); ((repeat (with_reducible rename _ ∧ _ => qhc9; obtain ⟨_, _⟩ := qhc9)); k_dflt (refine comp2_end (by k_asm) (by k_asm) (by k_extra "c3") (by k_extra "c3") (by k_extra "c3") (by k_extra "c6") (by k_extra "c13") (by k_mem) (by k_extra "c16") ?_); (try dsimp only); (try with_reducible_and_instances (refine comp2_zero ?_)); (try simp only [List.nil_append]))) | fail
  k_with "CompEnd1" => first | ((fail_if_success have hzz := eTermW3); (refine stuck_of ?_)) | fail
  k_with "subscriptTail Name Slice ref ref" => first | ((fail_if_success have hzz := eTermW3); (k_here; k_dflt (refine m_tupFrom (by k_asm) (by k_asm) (by k_mem) (by simp) (by simp) (by k_extra "c33") ?_ (by with_unfolding_all rfl) (by k_extra "c23")); intro qD' qh' qF' qN' ql1; (try k_lt ql1); (try k_sweep))) | fail
  k_with "call ref" => first | ((fail_if_success have hzz := eTermW3); (k_here; (with_reducible show wpAny _ _ (call (Value.ref 306) _) _ _ _); first | (k_dflt (refine tw_use (by k_asm) (by k_asm) (by k_asm) (by k_asm) (by k_asm) (by k_extra "c9") (IsTm.mono (by assumption) (fun p hp => by simp only [List.mem_cons, List.mem_append, hp, true_or, or_true])) (by assumption) (by omega) (by ktr_room) (by ktr_units) ?_); intro qD9 qvs9 qn9 qtl9 qh9 qtk9 qF9 qN9 qA9 qhD9 qhS9; (have qz9 := StrsAre.length qhS9); (try k_sweep); (try k_fold)) | refine stuck_of ?_)) | fail
  k_with "binaryOp Add ref ref" => first | ((fail_if_success have hzz := eTermW3); (k_here; k_dflt (refine m_addL (by k_asm) (by k_asm) (by k_mem) (by k_mem) (by simp; omega) ?_); intro qD' qh' qF' qN' ql1; (try k_lt ql1); (try k_sweep))) | fail
  trivial
namespace Z
example : True := by
  k_with "eps" => first | ((fail_if_success have hzz := zTermW6); skip) | fail
  trivial
set_option Elab.async true in
set_option maxHeartbeats 1000000 in
theorem tw_tri : ∀ (w : World) (mean : ExcName → Option Value) (mg : Str → Option Value) (mb : Str → Option Value), ∀ t, TWC w mean mg mb t := by
  intro w mean mg mb
  k_extra "c11"
  clear hK
  w_top off
  refine tm_ind ?_ ?_ ?_
  · intro op
    intro v news hv hl
    unfold Tri
    k_extra "c14"
    obtain ⟨b9, tk9, n9, rfl, hm⟩ := isTm_leaf hv
    refine wpAny_call ?_
    k_dflt ktr_enter
    k_steps
    k_extra "c10"
    exact hret _ _ _ _ kF (tail_newsW kN (by k_extra "c8")) ⟨_, _, _, _, rfl, rfl, (by k_extra "c19"), .head _, .cons _ _ .nil⟩
  · intro op x ih
    intro v news hv hl
    unfold Tri
    k_extra "c14"
    have hlx : (tmWords x).length ≤ 1000 := by simp only [tmWords, List.length_cons, List.length_append, List.length_nil] at hl; omega
    obtain ⟨b9, tk9, n9, u9, rfl, hm, hx⟩ := isTm_one hv
    refine wpAny_call ?_
    k_dflt ktr_enter
    k_steps
    refine ⟨?_⟩
    k_extra "c37"
    k_steps
    k_extra "c10"
    exact hret _ _ _ _ kF (tail_newsW kN (by k_extra "c8")) ⟨_, _, _, _, rfl, rfl, (by k_extra "c19"), .head _, .cons _ _ (.cons _ _ (StrsAre.append (by assumption) (.cons _ _ .nil)))⟩
  · intro op x y ih1 ih2
    intro v news hv hl
    unfold Tri
    k_extra "c14"
    have hlx : (tmWords x).length + (tmWords y).length ≤ 1000 := by simp only [tmWords, List.length_cons, List.length_append, List.length_nil] at hl; omega
    k_extra "c119"
    k_extra "c118"
    obtain ⟨b9, tk9, n9, u9, z9, rfl, hm, hx, hy⟩ := isTm_two hv
    refine wpAny_call ?_
    k_dflt ktr_enter
    k_steps
    refine ⟨?_⟩
    k_extra "c37"
    k_steps
    k_extra "c10"
    rename StrsAre _ (tmWords x) => S1
    rename StrsAre _ (tmWords y) => S2
    have S3 := StrsAre.append S1 S2
    exact hret _ _ _ _ kF (tail_newsW kN (by k_extra "c8")) ⟨_, _, _, _, rfl, rfl, (by k_extra "c19"), .head _, .cons _ _ (.cons _ _ (sa_assocS (StrsAre.append S3 (.cons _ _ .nil))))⟩
in #guard_msgs (drop info, drop warning) in open Nat
theorem zTermW6 : True := trivial
end Z
theorem eTermW3 : True := trivial
end Mine
-- PL2
namespace Mine
example : True := by
  k_with "omega" => first | ((fail_if_success have hzz := ePL21); (first | k_extra "ub" | (simp +arith only; done) | k_extra "fk" | lia | omega (config := {}))) | fail
  trivial
example : True := by
  k_with "fk" => first | ((fail_if_success have hzz := ePL21); (with_reducible (first | exact fk73 (by assumption) | exact fk74 (by assumption) | exact fk75 (by assumption) | exact fk76 (by assumption) | exact fk77 (by assumption) | exact fk78 (by assumption) | exact fk79 (by assumption)))) | fail
  trivial
theorem cut_eq {a b : List Str} {x : Str} (h : a ++ [x] = b ++ [x]) : a = b := List.append_cancel_right h
set_option Elab.async true in
theorem spell_cut {ws : Toks} {b : Bool} {P : Pp} {w0 w : List Str} {f p s : Nat} (h : Spell b P w0) (hb : b = false) (e : w0 = w ++ [rpar]) (g : GoodPp P) (hf : ppDepth P + 2 ≤ f) (hd : ppDepth P ≤ 4) (ha : AtW ws p w) (he : ws[p + w.length]? = some (nils, s)) :
    pPaper f ws p = .err s := by
  obtain ⟨f, rfl⟩ : ∃ f', f = f' + 2 := ⟨f - 2, by omega⟩
  have last : ∀ q, ws[q]? = some (nils, s) → pPaper (f + 1) ws q = .err s := fun q hq => by simp only [pPaper, pWant_err hq nils_lpar, Res.bind]
  cases h with
  | told =>
    obtain rfl := cut_eq (a := [lpar, kTold, _]) e
    obtain ⟨⟨s0, h0⟩, ⟨s1, h1⟩, ⟨s2, h2⟩, _⟩ := ha
    simp only [List.length_cons, List.length_nil] at he
    rw [show p + (0 + 1 + 1 + 1) = p + 1 + 1 + 1 by omega] at he
    rw [pPaper_unf h0 h1 op_kind.2.1, pBody_told]
    simp only [pOp_at h2 g, Res.bind, pWant_err (c := rpar) he nils_rpar]
  | @same t =>
    obtain rfl := cut_eq (a := lpar :: kSame :: tmWords t) e
    k_extra "c136"
    rw [pPaper_unf h0 h1 op_kind.1, pBody_same]
    k_extra "c103"
    rw [show p + ((tmWords t).length + 1 + 1) = p + 1 + 1 + (tmWords t).length by omega] at he
    simp only [pTerm_ok 4 t _ g.1 g.2 ha, Res.bind, pWant_err (c := rpar) he nils_rpar]
  | @rule l ps =>
    obtain rfl := cut_eq (a := lpar :: kRule :: l :: rowWords ps) e
    k_extra "c80"
    k_extra "c105"
    k_extra "c103"
    rw [show p + ((rowWords ps).length + 1 + 1 + 1) = p + 1 + 1 + 1 + (rowWords ps).length by omega] at he
    simp only [pOp_at h2 g.1, Res.bind, pPlaces_nil g.2 (.inl rfl) ha he]
  | @ruleR l ps =>
    obtain rfl := cut_eq (a := lpar :: kRule :: l :: rowWords ps.reverse) e
    k_extra "c80"
    k_extra "c105"
    k_extra "c103"
    rw [show p + ((rowWords ps.reverse).length + 1 + 1 + 1) = p + 1 + 1 + 1 + (rowWords ps.reverse).length by omega] at he
    simp only [pOp_at h2 g.1, Res.bind, pPlaces_nil g.2 (.inr rfl) ha he]
  | @turn P w' k =>
    obtain rfl := cut_eq (a := lpar :: kTurn :: w') e
    k_extra "c136"
    simp only [ppDepth] at hf hd
    k_extra "c135"
    k_extra "c103"
    rw [show p + (w'.length + 1 + 1) = p + 1 + 1 + w'.length by omega] at he
    simp only [pPaper_ok k g (f + 1) _ (by omega) (by omega) ha, Res.bind, pWant_err (c := rpar) he nils_rpar]
  | @join p' q' w' k =>
    obtain rfl := cut_eq (a := lpar :: kJoin :: w') e
    k_extra "c136"
    obtain ⟨k, hk, H⟩ := pPaper_ok (ws := ws) k g
    have hs := spine_le (.join p' q')
    obtain ⟨n, hn⟩ : ∃ n, (n + 1) + k = 6 := ⟨5 - k, by omega⟩
    k_extra "c103"
    rw [show p + (w'.length + 1 + 1) = p + 1 + 1 + w'.length by omega] at he
    rw [pPaper_unf h0 h1 op_kind.2.2.2.2.1, pBody_join, ← hn, H (f + 1) _ (n + 1) (by omega) (by omega) ha]
    simp only [pRow, pWord_at he, Res.bind, nils_rpar, if_true, last _ he]
  | @under0 l =>
    obtain rfl := cut_eq (a := [lpar, kUnder, _]) e
    obtain ⟨⟨s0, h0⟩, ⟨s1, h1⟩, ⟨s2, h2⟩, _⟩ := ha
    simp only [List.length_cons, List.length_nil] at he
    rw [show p + (0 + 1 + 1 + 1) = p + 1 + 1 + 1 by omega] at he
    k_extra "c78"
    simp only [pOp_at h2 g, Res.bind, pPapers, pWord_at he, nils_rpar, if_true, last _ he]
  | @under1 l P w' k =>
    obtain rfl := cut_eq (a := lpar :: kUnder :: l :: w') e
    k_extra "c80"
    obtain ⟨s4, h4⟩ := k.first ha
    simp only [ppDepth] at hf hd
    k_extra "c103"
    rw [show p + (w'.length + 1 + 1 + 1) = p + 1 + 1 + 1 + w'.length by omega] at he
    k_extra "c78"
    simp only [pOp_at h2 g.1, Res.bind, pPapers, pWord_at h4, lpar_rpar, if_true, pPaper_ok k g.2 (f + 1) _ (by omega) (by omega) ha, pWord_at he, nils_rpar, last _ he]
  | @under2 l P P' w' w'' k k' =>
    obtain rfl := cut_eq (a := lpar :: kUnder :: l :: (w' ++ w'')) (by simpa using e)
    k_extra "c80"
    rw [AtW.app] at ha
    obtain ⟨s4, h4⟩ := k.first ha.1
    obtain ⟨s5, h5⟩ := k'.first ha.2
    simp only [ppDepth] at hf hd
    simp only [List.length_cons, List.length_append] at he
    rw [show p + (w'.length + w''.length + 1 + 1 + 1) = p + 1 + 1 + 1 + w'.length + w''.length by omega] at he
    k_extra "c78"
    simp only [pOp_at h2 g.1, Res.bind, pPapers, pWord_at h4, lpar_rpar, if_true, pPaper_ok k g.2.1 (f + 1) _ (by omega) (by omega) ha.1, pWord_at h5, pPaper_ok k' g.2.2 (f + 1) _ (by omega) (by omega) ha.2, pWord_at he, nils_rpar, last _ he]
  | row0 _ _ => cases hb
  | row1 _ _ => cases hb
in #guard_msgs (drop info, drop warning) in open Nat
section
variable {ws : Toks} {P : Pp} {w : List Str} {s : Nat}
theorem pEnd_at {p : Nat} (h : ws[p]? = some (nils, s)) : pEnd ws p = .ok () p := by unfold pEnd; rw [h]; dsimp only; rw [if_neg (by decide +kernel)]
theorem pEnd_err {p : Nat} {x : Str} (h : ws[p]? = some (x, s)) (k : (x != nils) = true) : pEnd ws p = .err s := by unfold pEnd; rw [h]; dsimp only; rw [if_pos k]
theorem read_ok (h : Spell false P w) (g : GoodPp P) (hd : ppDepth P ≤ 4) (ha : AtW ws 0 w) (he : ws[w.length]? = some (nils, s)) : pRead ws = .ok P w.length := by
  unfold pRead
  simp only [pPaper_ok h g 6 0 (by omega) (by omega) ha, Nat.zero_add, Res.bind, pEnd_at he]
theorem read_on {x : Str} (h : Spell false P w) (g : GoodPp P) (hd : ppDepth P ≤ 4) (ha : AtW ws 0 w) (he : ws[w.length]? = some (x, s)) (k : (x != nils) = true) : pRead ws = .err s := by
  unfold pRead
  simp only [pPaper_ok h g 6 0 (by omega) (by omega) ha, Nat.zero_add, Res.bind, pEnd_err he k]
theorem read_cut {w0 : List Str} (h : Spell false P w0) (e : w0 = w ++ [rpar]) (g : GoodPp P) (hd : ppDepth P ≤ 4) (ha : AtW ws 0 w) (he : ws[w.length]? = some (nils, s)) : pRead ws = .err s := by
  unfold pRead
  rw [spell_cut h rfl e g (by omega) hd ha (by rw [Nat.zero_add]; exact he)]; rfl
theorem read_turn {x : Str} {s0 s1 : Nat} (h0 : ws[0]? = some (lpar, s0)) (h1 : ws[1]? = some (kTurn, s1)) (h : Spell false P w) (g : GoodPp P) (hd : ppDepth P ≤ 4) (ha : AtW ws 2 w) (he : ws[2 + w.length]? = some (x, s)) (k : (x != rpar) = true) : pRead ws = .err s := by
  unfold pRead
  k_extra "c135"
  simp only [pPaper_ok h g 5 _ (by omega) (by omega) ha, Nat.zero_add, Res.bind, pWant_err (c := rpar) he k]
theorem kWas_not : isOpS (Str.ofString "was") = true := by decide +kernel
theorem pBody_was {rec : Nat → Res Pp} {q p : Nat} (h : ws[q]? = some (Str.ofString "was", s)) : pBody rec ws (Str.ofString "was") q p = .err s := by
  unfold pBody; rw [if_neg (by decide +kernel), if_neg (by decide +kernel), if_neg (by decide +kernel), if_neg (by decide +kernel), if_neg (by decide +kernel), if_neg (by decide +kernel), h]
theorem read_was {s0 : Nat} (h0 : ws[0]? = some (lpar, s0)) (h1 : ws[1]? = some (Str.ofString "was", s)) : pRead ws = .err s := by
  unfold pRead
  rw [pPaper_unf h0 h1 kWas_not, pBody_was h1]; rfl
theorem read_turn_was {s0 s1 s2 : Nat} (h0 : ws[0]? = some (lpar, s0)) (h1 : ws[1]? = some (kTurn, s1)) (h2 : ws[2]? = some (lpar, s2)) (h3 : ws[3]? = some (Str.ofString "was", s)) : pRead ws = .err s := by
  unfold pRead
  rw [pPaper_unf h0 h1 op_kind.2.2.2.1, pBody_turn, pPaper_unf h2 h3 kWas_not, pBody_was h3]; rfl
theorem read_told {s0 s1 : Nat} (h0 : ws[0]? = some (lpar, s0)) (h1 : ws[1]? = some (kTold, s1)) (h2 : ws[2]? = some (lpar, s)) : pRead ws = .err s := by
  unfold pRead
  rw [pPaper_unf h0 h1 op_kind.2.1, pBody_told, pOp_err h2 (by decide +kernel)]; rfl
theorem read_under {s0 s1 : Nat} (h0 : ws[0]? = some (lpar, s0)) (h1 : ws[1]? = some (kUnder, s1)) (h2 : ws[2]? = some (lpar, s)) : pRead ws = .err s := by
  unfold pRead
  rw [pPaper_unf h0 h1 op_kind.2.2.2.2.2, pBody_under, pOp_err h2 (by decide +kernel)]; rfl
theorem read_leaf {x : Str} (h0 : ws[0]? = some (x, s)) (k : (x != lpar) = true) : pRead ws = .err s := by
  unfold pRead
  simp only [pPaper, pWant_err h0 k, Res.bind]
set_option Elab.async true in
theorem read_twice {s0 s1 : Nat} {t : Tm} {l : Str} (hl : isOpS l = true) (h : Spell false P w) (g : GoodPp P) (hd : ppDepth P ≤ 4) (gt : GoodTm t) (dt : tmDepth t < 3)
    (h0 : ws[0]? = some (lpar, s0)) (h1 : ws[1]? = some (kJoin, s1)) (ha : AtW ws 2 (w ++ (lpar :: kRule :: l :: xName :: tmWords t))) (he : ws[2 + w.length + 4 + (tmWords t).length]? = some (xName, s)) : pRead ws = .err s := by
  rw [AtW.app] at ha
  obtain ⟨ha, ⟨s2, h2⟩, ⟨s3, h3⟩, ⟨s4, h4⟩, ⟨s5, h5⟩, hb⟩ := ha
  rw [show 2 + w.length + 4 + (tmWords t).length = 2 + w.length + 1 + 1 + 1 + 1 + (tmWords t).length by omega] at he
  have e : pPlaces 3 ws (2 + w.length + 1 + 1 + 1) = .err s := by
    simp only [pPlaces, pWord_at h5, Res.bind, x_rpar, if_true, pVar_x h5, pTerm_ok 3 t _ gt dt hb, pWord_at he, pVar_x he, he]
  unfold pRead
  rw [pPaper_unf h0 h1 op_kind.2.2.2.2.1, pBody_join]
  simp only [pPaper_ok h g 5 _ (by omega) (by omega) ha, Nat.zero_add, Res.bind]
  rw [pPaper_unf h2 h3 op_kind.2.2.1, pBody_rule]
  simp only [pOp_at h4 hl, e, Res.bind]
in #guard_msgs (drop info, drop warning) in open Nat
end
theorem ePL21 : True := trivial
end Mine
-- PL3
namespace Mine
example : True := by
  k_with "omega" => first | ((fail_if_success have hzz := ePL31); (first | k_extra "ub" | (simp +arith only; done) | k_extra "fk" | lia | omega (config := {}))) | fail
  trivial
example : True := by
  k_with "fk" => first | ((fail_if_success have hzz := ePL31); (with_reducible (first | exact fk80 (by assumption) (by assumption) | exact fk81 (by assumption) (by assumption) | exact fk82 (by assumption) (by assumption) | exact fk83 (by assumption) | exact fk84 (by assumption) | exact fk85 (by assumption) (by assumption)))) | fail
  trivial
noncomputable def ppW : Bool → Pp → List Str
  | _, .told l => [lpar, kTold, l, rpar]
  | _, .same t => lpar :: kSame :: (tmWords t ++ [rpar])
  | _, .rule l ps => lpar :: kRule :: l :: (rowWords ps ++ [rpar])
  | _, .turn p => lpar :: kTurn :: (ppW false p ++ [rpar])
  | true, .join p q => ppW true p ++ ppW false q
  | false, .join p q => lpar :: kJoin :: ((ppW true p ++ ppW false q) ++ [rpar])
  | _, .under0 l => [lpar, kUnder, l, rpar]
  | _, .under1 l p => lpar :: kUnder :: l :: (ppW false p ++ [rpar])
  | _, .under2 l p q => lpar :: kUnder :: l :: (ppW false p ++ (ppW false q ++ [rpar]))
noncomputable def isJoin : Pp → Bool
  | .join _ _ => true
  | _ => false
theorem ppW_row {p : Pp} (h : isJoin p = false) : ppW true p = ppW false p := by cases p <;> first | rfl | cases h
theorem spell_ppW : ∀ (p : Pp), Spell false p (ppW false p) ∧ (isJoin p = true → Spell true p (ppW true p))
  | .told _ => ⟨.told, fun h => nomatch h⟩
  | .same _ => ⟨.same, fun h => nomatch h⟩
  | .rule _ _ => ⟨.rule, fun h => nomatch h⟩
  | .turn p => ⟨.turn (spell_ppW p).1, fun h => nomatch h⟩
  | .join p q => by
    have hp := spell_ppW p
    have hq := (spell_ppW q).1
    have : Spell true (.join p q) (ppW true p ++ ppW false q) := by
      cases h : isJoin p
      · rw [ppW_row h]; exact .row0 hp.1 hq
      · exact .row1 (hp.2 h) hq
    exact ⟨.join this, fun _ => this⟩
  | .under0 _ => ⟨.under0, fun h => nomatch h⟩
  | .under1 _ p => ⟨.under1 (spell_ppW p).1, fun h => nomatch h⟩
  | .under2 _ p q => ⟨.under2 (spell_ppW p).1 (spell_ppW q).1, fun h => nomatch h⟩
noncomputable def cost : Pp → Nat
  | .rule _ _ => 1
  | .turn p => cost p
  | .join p q => 1 + cost p + cost q
  | .under1 _ p => cost p
  | .under2 _ p q => cost p + cost q
  | _ => 0
noncomputable def plen : Pp → Nat
  | .told _ => 4
  | .same t => 3 + (tmWords t).length
  | .rule _ ps => 4 + (rowWords ps).length
  | .turn p => 3 + plen p
  | .join p q => 3 + plen p + plen q
  | .under0 _ => 4
  | .under1 _ p => 4 + plen p
  | .under2 _ p q => 4 + plen p + plen q
theorem rowWords_app : ∀ (a b : List (Str × Tm)), rowWords (a ++ b) = rowWords a ++ rowWords b
  | [], _ => rfl
  | (x, t) :: a, b => by simp only [List.cons_append, rowWords, rowWords_app a b, List.append_assoc]
theorem rowWords_rev : ∀ (a : List (Str × Tm)), (rowWords a.reverse).length = (rowWords a).length
  | [] => rfl
  | (x, t) :: a => by
    rw [List.reverse_cons, rowWords_app, List.length_append, rowWords_rev a]
    simp only [rowWords, List.length_cons, List.length_append, List.length_nil]; omega
set_option Elab.async true in
theorem spell_len' {b : Bool} {p : Pp} {w : List Str} (h : Spell b p w) : w.length + (if b then 3 else 0) ≤ plen p := by
  induction h with
  | told => exact Nat.le_refl _
  | under0 => exact Nat.le_refl _
  | same => simp only [plen, List.length_cons, List.length_append, List.length_nil, Bool.false_eq_true, if_false]; omega
  | rule => simp only [plen, List.length_cons, List.length_append, List.length_nil, Bool.false_eq_true, if_false]; omega
  | ruleR => simp only [plen, List.length_cons, List.length_append, List.length_nil, rowWords_rev, Bool.false_eq_true, if_false]; omega
  | turn _ ih => simp only [plen, List.length_cons, List.length_append, List.length_nil, Bool.false_eq_true, if_false] at *; omega
  | join _ ih => simp only [plen, List.length_cons, List.length_append, List.length_nil, Bool.false_eq_true, if_false, if_true] at *; omega
  | row0 _ _ ih1 ih2 => simp only [plen, List.length_append, Bool.false_eq_true, if_false, if_true] at *; omega
  | row1 _ _ ih1 ih2 => simp only [plen, List.length_append, Bool.false_eq_true, if_false, if_true] at *; omega
  | under1 _ ih => simp only [plen, List.length_cons, List.length_append, List.length_nil, Bool.false_eq_true, if_false] at *; omega
  | under2 _ _ ih1 ih2 => simp only [plen, List.length_cons, List.length_append, List.length_nil, Bool.false_eq_true, if_false] at *; omega
in #guard_msgs (drop info, drop warning) in open Nat
theorem spell_len {b : Bool} {p : Pp} {w : List Str} (h : Spell b p w) : w.length ≤ plen p := by have := spell_len' h; omega
inductive PartsW (plain : Bool) : List Pp → List Str → Prop
  | nil : PartsW plain [] []
  | snoc {ps : List Pp} {p : Pp} {ws w : List Str} : PartsW plain ps ws → Spell false p w → (plain = true → w = ppW false p) → PartsW plain (ps ++ [p]) (ws ++ w)
noncomputable def sumC (ps : List Pp) : Nat := (ps.map cost).sum
noncomputable def sumL (ps : List Pp) : Nat := (ps.map plen).sum
theorem sumC_app (a b : List Pp) : sumC (a ++ b) = sumC a + sumC b := by simp [sumC]
theorem sumL_app (a b : List Pp) : sumL (a ++ b) = sumL a + sumL b := by simp [sumL]
theorem sumC_take_le : ∀ (ps : List Pp) (i : Nat), sumC (ps.take i) ≤ sumC ps := fun ps i => by
  conv => rhs; rw [← List.take_append_drop i ps, sumC_app]
  omega
theorem sumL_take_le : ∀ (ps : List Pp) (i : Nat), sumL (ps.take i) ≤ sumL ps := fun ps i => by
  conv => rhs; rw [← List.take_append_drop i ps, sumL_app]
  omega
theorem take_snoc {α : Type} {ps : List α} {i : Nat} {p : α} (h : ps[i]? = some p) : ps.take (i + 1) = ps.take i ++ [p] := by rw [List.take_add_one, h]; rfl
theorem PartsW.len {plain : Bool} {ps : List Pp} {ws : List Str} (h : PartsW plain ps ws) : ws.length ≤ sumL ps := by
  induction h with
  | nil => exact Nat.zero_le _
  | snoc _ s _ ih => have := spell_len s; rw [List.length_append, sumL_app]; simp only [sumL, List.map_cons, List.map_nil, List.sum_cons, List.sum_nil]; unfold sumL at ih; omega
theorem PartsW.zero {plain : Bool} {ws : List Str} (h : PartsW plain [] ws) : ws = [] := by
  generalize e : ([] : List Pp) = ps at h
  cases h with
  | nil => rfl
  | snoc _ _ _ => simp at e
theorem PartsW.last {plain : Bool} {ps : List Pp} {p : Pp} {ws : List Str} (h : PartsW plain (ps ++ [p]) ws) : ∃ w1 w2, ws = w1 ++ w2 ∧ PartsW plain ps w1 ∧ Spell false p w2 ∧ (plain = true → w2 = ppW false p) := by
  generalize e : ps ++ [p] = qs at h
  cases h with
  | nil => simp at e
  | snoc h1 h2 h3 =>
    have := List.append_inj' e rfl
    obtain ⟨rfl, e2⟩ := this
    cases e2
    exact ⟨_, _, rfl, h1, h2, h3⟩
theorem PartsW.one {plain : Bool} {p : Pp} {ws : List Str} (h : PartsW plain [p] ws) : Spell false p ws ∧ (plain = true → ws = ppW false p) := by
  obtain ⟨w1, w2, rfl, h1, h2, h3⟩ := PartsW.last (ps := []) h
  rw [PartsW.zero h1]
  exact ⟨h2, h3⟩
theorem PartsW.two {plain : Bool} {p q : Pp} {ws : List Str} (h : PartsW plain [p, q] ws) : ∃ w1 w2, ws = w1 ++ w2 ∧ Spell false p w1 ∧ Spell false q w2 ∧ (plain = true → w1 = ppW false p ∧ w2 = ppW false q) := by
  obtain ⟨w1, w2, rfl, h1, h2, h3⟩ := PartsW.last (ps := [p]) h
  have := h1.one
  exact ⟨_, _, rfl, this.1, h2, fun e => ⟨this.2 e, h3 e⟩⟩
noncomputable def joinAll (p : Pp) (qs : List Pp) : Pp := qs.foldl .join p
theorem joinAll_snoc (p : Pp) (qs : List Pp) (q : Pp) : joinAll p (qs ++ [q]) = .join (joinAll p qs) q := by simp [joinAll]
theorem parts_row {plain : Bool} {p : Pp} : ∀ (n : Nat) {qs : List Pp} {ws : List Str}, qs.length = n → PartsW plain (p :: qs) ws → (qs ≠ [] → Spell true (joinAll p qs) ws) ∧ (plain = true → isJoin p = false → ws = ppW true (joinAll p qs))
  | 0, qs, ws, hn, h => by
    obtain rfl := List.eq_nil_of_length_eq_zero hn
    have := h.one
    exact ⟨fun k => absurd rfl k, fun e j => by rw [this.2 e]; exact (ppW_row j).symm⟩
  | n + 1, qs, ws, hn, h => by
    obtain ⟨qs', q, rfl⟩ : ∃ qs' q, qs = qs' ++ [q] := ⟨qs.dropLast, qs.getLast (by intro e; rw [e] at hn; cases hn), (List.dropLast_concat_getLast _).symm⟩
    have hn' : qs'.length = n := by simpa using hn
    obtain ⟨w1, w2, rfl, h1, h2, h3⟩ := PartsW.last (ps := p :: qs') h
    have ih := parts_row n hn' h1
    rw [joinAll_snoc]
    refine ⟨fun _ => ?_, fun e j => ?_⟩
    · by_cases hq : qs' = []
      · subst hq; exact .row0 h1.one.1 h2
      · exact .row1 (ih.1 hq) h2
    · rw [ih.2 e j, h3 e]; rfl
theorem ePL31 : True := trivial
end Mine
-- LW0
namespace Mine
example : True := by
  k_with "omega" => first | ((fail_if_success have hzz := eLW01); (first | k_extra "ub" | (simp +arith only; done) | k_extra "fk" | lia | omega (config := {}))) | fail
  trivial
example : True := by
  k_with "fk" => first | ((fail_if_success have hzz := eLW01); (with_reducible (first | exact fk86 (by assumption) | exact fk87 (by assumption) (by assumption)))) | fail
  trivial
open LCg
inductive PpsAre (news : Led) : List Value → List Pp → Prop
  | nil : PpsAre news [] []
  | cons {v : Value} {p : Pp} {vs : List Value} {ps : List Pp} : IsPp news v p → PpsAre news vs ps → PpsAre news (v :: vs) (p :: ps)
theorem ppsAre_head {news : Led} {v : Value} {p : Pp} {vs : List Value} {ps : List Pp} (h : PpsAre news (v :: vs) (p :: ps)) : IsPp news v p := by cases h with | cons h _ => exact h
theorem PpsAre.mono {news news' : Led} {vs : List Value} {ps : List Pp} (h : PpsAre news vs ps) (hs : ∀ p ∈ news, p ∈ news') : PpsAre news' vs ps := by
  induction h with
  | nil => exact .nil
  | cons h _ ih => exact .cons (h.mono hs) ih
theorem PpsAre.length {news : Led} {vs : List Value} {ps : List Pp} (h : PpsAre news vs ps) : vs.length = ps.length := by
  induction h with
  | nil => rfl
  | cons _ _ ih => simp [ih]
theorem PpsAre.get {news : Led} {vs : List Value} {ps : List Pp} (h : PpsAre news vs ps) : ∀ {i : Nat} {v : Value}, vs[i]? = some v → ∃ p, ps[i]? = some p ∧ IsPp news v p := by
  induction h with
  | nil => intro i v e; cases e
  | cons h _ ih =>
    intro i v e
    cases i with
    | zero => cases e; exact ⟨_, rfl, h⟩
    | succ i => exact ih (i := i) e
noncomputable def LWOut (w : World) (P R : Addr) (news : Led) (o : Obj) (k : Nat) (plain : Bool) (p : Pp) (r : Value) (news' : Led) : Prop :=
  ∃ D vs n ws k' tl o', r = .ref D ∧ news' = (P, o') :: (tl ++ news) ∧ Above ((P, o) :: news) tl ∧ PenD w o' R k' ∧ k' ≤ k + cost p ∧ (D, listOf vs.toArray n) ∈ tl ∧ StrsAre vs ws ∧ Spell false p ws ∧ (plain = true → ws = ppW false p)
noncomputable def LWC (w : World) (mean : ExcName → Option Value) (mg mb : Str → Option Value) (P R : Addr) (row : List Int) (rvs : List Value) (rn : Nat) (plain : Bool) (p : Pp) : Prop := ∀ (k : Nat) (v : Value) (o : Obj) (news : Led), k + cost p ≤ 45000 → PenD w o R k → (∀ q ∈ news, q.1 ≠ P) → (R, listOf rvs.toArray rn) ∈ news → IsPp news v p → plen p ≤ 900 →
  Tri LAW hd.heap_39 w mean mg mb 311 [.ref P, v, .bool plain] (ppDepth p + 12) (80 * (ppDepth p + 12)) ((P, o) :: news) (LWOut w P R news o k plain p)
set_option Elab.async true in
theorem lw_use {w : World} {mean : ExcName → Option Value} {mg mb : Str → Option Value} {dp un : Nat} {gd : Option (List Code)} {cn : Str} {cs : Scope} {a : Addr} {ccd : Value} {cl : List (Str × Addr)} {outer : List Env} {A₀ : Around} {base h₀ : Heap} {L : Addr} {m : Str → Option Value} {s : Shared} {Q E : Value → Shared → Prop} {P R : Addr} {row : List Int} {rvs : List Value} {rn k : Nat} {plain : Bool} {p : Pp} {v : Value} {o : Obj} {all rest : Led} (B : Below A₀ base outer h₀) (F : Fr h₀ L s.heap m) (X : (hd.heap_39 w.params).In h₀) (N : News h₀ L s.heap all) (T : Top view (looseW view []) mean mg mb h₀) (hk : cs.kind = .function)
    (pk : Pick P o all rest) (hP : PenD w o R k) (hne : ∀ q ∈ rest, q.1 ≠ P) (hR : (R, listOf rvs.toArray rn) ∈ rest) (hv : IsPp rest v p) (C : LWC w mean mg mb P R row rvs rn plain p) (hkk : k + cost p ≤ 45000) (hl : plen p ≤ 900) (hd : dp + (ppDepth p + 12) < recursionLimit) (hu : un + 80 * (ppDepth p + 12) < cLine)
    (h : ∀ D vs n ws k' tl o' h' tk', Fr h₀ L h' m → News h₀ L h' ((P, o') :: (tl ++ rest)) → Above ((P, o) :: rest) tl → (∀ q ∈ tl, q.1 ≠ P) → PenD w o' R k' → k' ≤ k + cost p → (D, listOf vs.toArray n) ∈ tl → StrsAre vs ws → Spell false p ws → (plain = true → ws = ppW false p) → Q (.ref D) { s with heap := h', toks := tk' }) :
    wpAny (model PySem.Challenge.rw_pq0122_01.row.prog w) (ktrTop dp un gd cn cs L a ccd cl outer) (call (.ref 311) [.ref P, v, .bool plain]) Q E s := by
  refine C k v o rest hkk hP hne hR hv hl dp un gd cn cs a ccd cl outer A₀ base h₀ L m s Q E B F X (News.sub N pk.sub) T hk hd hu ?_
  rintro r news' h' tk' F' N' ⟨D, vs, n, ws, k', tl, o', rfl, rfl, A, hP', hk', hD, hS, sp, pl⟩
  exact h D vs n ws k' tl o' h' tk' F' N' A A.ne hP' hk' hD hS sp pl
in #guard_msgs (drop info, drop warning) in open Nat
noncomputable def IvW (w : World) (plain : Bool) (P R : Addr) (rest : Led) (o : Obj) (k : Nat) (ps : List Pp) (i : Nat) (ys : List Value) (nw : Led) : Prop :=
  ∃ o' k' tl ws, nw = (P, o') :: (tl ++ rest) ∧ Above ((P, o) :: rest) tl ∧ PenD w o' R k' ∧ k' ≤ k + sumC (ps.take i) ∧ StrsAre ys ws ∧ PartsW plain (ps.take i) ws
theorem IvW.start {w : World} {plain : Bool} {P R : Addr} {rest : Led} {o : Obj} {k : Nat} {ps : List Pp} (hP : PenD w o R k) : IvW w plain P R rest o k ps 0 [] ((P, o) :: rest) :=
  ⟨o, k, [], [], rfl, Above.nil, hP, Nat.le_add_right _ _, .nil, .nil⟩
set_option Elab.async true in
theorem IvW.step {w : World} {plain : Bool} {P R I C D : Addr} {rest tl tl2 : Led} {o o1 o2 oI oC oD : Obj} {k k1 k2 : Nat} {ps : List Pp} {p : Pp} {i : Nat} {ys vs : List Value} {ws w2 : List Str}
    (hp : ps[i]? = some p) (hA : Above ((P, o) :: rest) tl) (hk : k1 ≤ k + sumC (ps.take i)) (hS : StrsAre ys ws) (hW : PartsW plain (ps.take i) ws)
    (hA2 : Above ((P, o1) :: (I, oI) :: (C, oC) :: (D, oD) :: (tl ++ rest)) tl2) (hP2 : PenD w o2 R k2) (hk2 : k2 ≤ k1 + cost p) (hS2 : StrsAre vs w2) (sp : Spell false p w2) (pl : plain = true → w2 = ppW false p) :
    IvW w plain P R rest o k ps (i + 1) (ys ++ vs) ((P, o2) :: (tl2 ++ (tl ++ rest))) := by
  refine ⟨o2, k2, tl2 ++ tl, ws ++ w2, by rw [List.append_assoc], ?_, hP2, ?_, StrsAre.append hS hS2, by rw [take_snoc hp]; exact .snoc hW sp pl⟩
  · refine Above.app (fun q hq p hp => ?_) hA
    k_extra "c30"
    · exact hA2 _ (.head _) p hp
    · exact hA2 q (.tail _ (.tail _ (.tail _ (.tail _ (List.mem_append_right _ hq))))) p hp
  · rw [take_snoc hp, sumC_app]; simp only [sumC, List.map_cons, List.map_nil, List.sum_cons, List.sum_nil] at hk ⊢; omega
in #guard_msgs (drop info, drop warning) in open Nat
set_option Elab.async true in
theorem src_parts {prog : Program} {w : World} {A : Around} {h₀ : Heap} {L : Addr} {m : Str → Option Value} {env : Env} {iter2 : Expr} {x : Str} {px : Pos} {scope : Scope} {cl : List (Str × Addr)} {Fin : Shared → List Value → Led → Prop} {s₁ : Shared}
    {P R ax : Addr} {o oS : Obj} {k : Nat} {us : List Value} {ps : List Pp} {all rest : Led} (plain : Bool) (hh : A.handled = none) (F : Fr h₀ L s₁.heap m) (N : News h₀ L s₁.heap all) (pk : Pick P o all rest) (hP : PenD w o R k)
    (hax : (ax, oS) ∈ rest) (hO : SrcO oS us.toArray) (hU : PpsAre rest us ps) (hx : scope.names.lookup x = some .local)
    (hend : ∀ (g : Heap) ys nw o' k' tl ws, nw = (P, o') :: (tl ++ rest) → Above ((P, o) :: rest) tl → PenD w o' R k' → k' ≤ k + sumC ps → StrsAre ys ws → PartsW plain ps ws → Fin { s₁ with heap := g } ys nw)
    (step : ∀ i ys o₁ k₁ tl (Next : List Value → Led → Prop) v p, ps[i]? = some p → IsPp rest v p → k₁ ≤ k + sumC (ps.take i) → PenD w o₁ R k₁ → Above ((P, o) :: rest) tl → ys.length ≤ sumL ps → p ∈ ps →
      (∀ I C D oI oC oD tl2 o2 k2 vs w2, Above ((P, o₁) :: (I, oI) :: (C, oC) :: (D, oD) :: (tl ++ rest)) tl2 → PenD w o2 R k2 → k2 ≤ k₁ + cost p → StrsAre vs w2 → Spell false p w2 → (plain = true → w2 = ppW false p) → Next vs ((P, o2) :: (tl2 ++ (tl ++ rest)))) →
      ∀ I oI C oC D m₂ h tk (E' : Value → Shared → Prop), NsObj oC m₂ → m₂ x = some v → Fr h₀ L h m → News h₀ L h ((I, oI) :: (C, oC) :: (D, lst ys) :: (P, o₁) :: (tl ++ rest)) → Off3 I C D ((P, o₁) :: (tl ++ rest)) → ((@Ne Nat I C) ∧ (@Ne Nat I D) ∧ (@Ne Nat C D)) →
      wpAny (model prog w) A (eval iter2 (compEnvC scope cl C env)) (CompEnd2 h₀ L m { s₁ with heap := h, toks := tk } I oI C oC D ys (fun nw => (ax, oS) ∈ nw ∧ True) Next) E' { s₁ with heap := h, toks := tk }) :
    Src2 prog w A h₀ L m env (.Name x px) iter2 scope cl Fin (.ref ax) s₁ := by
  refine ⟨ax, us.toArray, oS, (P, o) :: rest, _, _, rfl, hh, F, News.sub N pk.sub, .tail _ hax, hO, .name hx, trivial, fun g => ?_⟩
  k_extra "c44"
  rw [hlen]
  refine rest2_ind (IvW w plain P R rest o k ps) (.start hP) ?_ ?_
  · rintro ys nw ⟨o', k', tl, ws, rfl, hA, hP', hk', hS, hW⟩
    rw [List.take_length] at hk' hW
    exact hend g ys _ o' k' tl ws rfl hA hP' hk' hS hW
  · rintro i ys nw Next hi ⟨o₁, k₁, tl, ws, rfl, hA, hP₁, hk₁, hS, hW⟩ hn I oI C oC D m₂ h tk E' hC ⟨v, hv, hxv⟩ F9 N9 off ne
    obtain ⟨p, hp, hI⟩ := hU.get (i := i) (v := v) (by simpa using hv)
    have hyl : ys.length ≤ sumL ps := by rw [hS.length]; exact Nat.le_trans hW.len (sumL_take_le _ _)
    exact step i ys o₁ k₁ tl Next v p hp hI hk₁ hP₁ hA hyl (List.mem_of_getElem? hp) (fun I C D oI oC oD tl2 o2 k2 vs w2 hA2 hP2 hk2 hS2 sp pl => hn _ _ (IvW.step hp hA hk₁ hS hW hA2 hP2 hk2 hS2 sp pl)) I oI C oC D m₂ h tk E' hC hxv F9 N9 off ne
in #guard_msgs (drop info, drop warning) in open Nat
theorem sumC_take_at {ps : List Pp} {i : Nat} {p : Pp} (h : ps[i]? = some p) : sumC (ps.take i) + cost p ≤ sumC ps := by
  have := sumC_take_le ps (i + 1)
  rw [take_snoc h, sumC_app] at this
  simpa [sumC] using this
theorem sumL_mem {ps : List Pp} {p : Pp} (h : p ∈ ps) : plen p ≤ sumL ps := by
  induction ps with
  | nil => cases h
  | cons q ps ih =>
    simp only [sumL, List.map_cons, List.sum_cons]
    k_extra "c131"
    · exact Nat.le_add_right _ _
    · exact Nat.le_trans (ih h) (Nat.le_add_left _ _)
theorem IsRow.append {news : Led} {vs us : List Value} {ps qs : List (Str × Tm)} (h : IsRow news vs ps) (k : IsRow news us qs) : IsRow news (vs ++ us) (ps ++ qs) := by
  induction h with
  | nil => exact k
  | cons a b _ ih => exact .cons a b ih
theorem IsRow.reverse {news : Led} {vs : List Value} {ps : List (Str × Tm)} (h : IsRow news vs ps) : IsRow news vs.reverse ps.reverse := by
  induction h with
  | nil => exact .nil
  | cons a b _ ih => rw [List.reverse_cons, List.reverse_cons]; exact ih.append (.cons a b .nil)
theorem IsRow.length {news : Led} {vs : List Value} {ps : List (Str × Tm)} (h : IsRow news vs ps) : vs.length = ps.length := by
  induction h with
  | nil => rfl
  | cons _ _ _ ih => simp [ih]
theorem IsRow.pairs {news : Led} {vs : List Value} {ps : List (Str × Tm)} (h : IsRow news vs ps) : ∃ pv : Nat → Value × Value, ∀ i v, vs[i]? = some v → ∃ t n x tk tm, v = .ref t ∧ (t, tupO [(pv i).1, (pv i).2] n) ∈ news ∧ ps[i]? = some (x, tm) ∧ (pv i).1 = .str x tk ∧ IsTm news (pv i).2 tm := by
  induction h with
  | nil => exact ⟨fun _ => (.none, .none), fun i v e => by cases e⟩
  | @cons c x tk n v t vs ps a b _ ih =>
    obtain ⟨pv, hpv⟩ := ih
    refine ⟨fun i => match i with | 0 => (.str x tk, v) | i + 1 => pv i, fun i u e => ?_⟩
    cases i with
    | zero => cases e; exact ⟨c, n, x, tk, t, rfl, a, rfl, rfl, b⟩
    | succ i => exact hpv i u e
theorem rowWords_snoc (ps : List (Str × Tm)) (x : Str) (t : Tm) : rowWords (ps ++ [(x, t)]) = rowWords ps ++ (x :: tmWords t) := by rw [rowWords_app]; simp [rowWords]
theorem rowWords_mem {ps : List (Str × Tm)} {x : Str} {t : Tm} (h : (x, t) ∈ ps) : (tmWords t).length ≤ (rowWords ps).length := by
  induction ps with
  | nil => cases h
  | cons q ps ih =>
    obtain ⟨y, u⟩ := q
    simp only [rowWords, List.length_cons, List.length_append]
    rcases List.mem_cons.mp h with h | h
    · cases h; omega
    · have := ih h; omega
theorem rowWords_ge : ∀ (ps : List (Str × Tm)), ps.length ≤ (rowWords ps).length
  | [] => Nat.le_refl _
  | (x, t) :: ps => by have := rowWords_ge ps; simp only [rowWords, List.length_cons, List.length_append]; omega
theorem rowWords_take (ps : List (Str × Tm)) (i : Nat) : (rowWords (ps.take i)).length ≤ (rowWords ps).length := by
  conv => rhs; rw [← List.take_append_drop i ps, rowWords_app, List.length_append]
  omega
set_option Elab.async true in
theorem src_rows {prog : Program} {w : World} {A : Around} {h₀ : Heap} {L : Addr} {m : Str → Option Value} {env : Env} {iter2 : Expr} {x x₂ : Str} {px px₂ tp : Pos} {tk} {scope : Scope} {cl : List (Str × Addr)} {Fin : Shared → List Value → Led → Prop} {s₁ : Shared}
    {ax : Addr} {oS : Obj} {us : List Value} {ps : List (Str × Tm)} {rest : Led} (hh : A.handled = none) (F : Fr h₀ L s₁.heap m) (N : News h₀ L s₁.heap rest)
    (hax : (ax, oS) ∈ rest) (hO : SrcO oS us.toArray) (hU : IsRow rest us ps) (hx : scope.names.lookup x = some .local) (hx₂ : scope.names.lookup x₂ = some .local) (hxx : x ≠ x₂)
    (hend : ∀ (g : Heap) ys tl, Above rest tl → StrsAre ys (rowWords ps) → Fin { s₁ with heap := g } ys (tl ++ rest))
    (step : ∀ ys tl (Next : List Value → Led → Prop) (S : Led → Prop) y t yt tv, (y, t) ∈ ps → IsTm rest tv t → Above rest tl → ys.length ≤ (rowWords ps).length → (∀ nw, (∀ p ∈ rest, p ∈ nw) → S nw) →
      (∀ I C D oI oC oD tl2 vs, Above ((I, oI) :: (C, oC) :: (D, oD) :: (tl ++ rest)) tl2 → StrsAre vs (y :: tmWords t) → Next vs (tl2 ++ (tl ++ rest))) →
      ∀ I oI C oC D m₂ h tk (E' : Value → Shared → Prop), NsObj oC m₂ → m₂ x = some (.str y yt) → m₂ x₂ = some tv → Fr h₀ L h m → News h₀ L h ((I, oI) :: (C, oC) :: (D, lst ys) :: (tl ++ rest)) → Off3 I C D (tl ++ rest) → ((@Ne Nat I C) ∧ (@Ne Nat I D) ∧ (@Ne Nat C D)) →
      wpAny (model prog w) A (eval iter2 (compEnvC scope cl C env)) (CompEnd2 h₀ L m { s₁ with heap := h, toks := tk } I oI C oC D ys S Next) E' { s₁ with heap := h, toks := tk }) :
    Src2 prog w A h₀ L m env (.Tuple [.Name x px, .Name x₂ px₂] tk tp) iter2 scope cl Fin (.ref ax) s₁ := by
  obtain ⟨pv, hpv⟩ := hU.pairs
  k_extra "c46"
  · obtain ⟨t, n, _, _, _, rfl, hm, _⟩ := hpv i v (by simpa using e)
    exact ⟨t, n, rfl, hm⟩
  k_extra "c44"
  rw [hlen]
  refine rest2_ind (fun i ys nw => ∃ tl, nw = tl ++ rest ∧ Above rest tl ∧ StrsAre ys (rowWords (ps.take i))) ⟨[], rfl, Above.nil, .nil⟩ ?_ ?_
  · rintro ys nw ⟨tl, rfl, hA, hS⟩
    rw [List.take_length] at hS
    exact hend g ys tl hA hS
  · rintro i ys nw Next hi ⟨tl, rfl, hA, hS⟩ hn I oI C oC D m₂ h tk9 E' hC ⟨hx1, hx2⟩ F9 N9 off ne
    k_extra "c117"
    k_extra "c148"
    have hyl : ys.length ≤ (rowWords ps).length := by rw [hS.length]; exact rowWords_take _ _
    rw [e2] at hx1
    refine step ys tl Next _ y tm yt _ (List.mem_of_getElem? hp) hT hA hyl (fun nw hk => ⟨hk _ hax, fun i v e => ?_⟩) (fun I C D oI oC oD tl2 vs hA2 hS2 => hn _ _ ⟨tl2 ++ tl, by rw [List.append_assoc], Above.app (fun q hq p hp' => hA2 q (.tail _ (.tail _ (.tail _ (List.mem_append_right _ hq)))) p hp') hA, ?_⟩) I oI C oC D m₂ h tk9 E' hC hx1 hx2 F9 N9 off ne
    · rw [take_snoc hp, rowWords_snoc]; exact StrsAre.append hS hS2
    · obtain ⟨t, n, _, _, _, rfl, hm, _⟩ := hpv i v (by simpa using e)
      exact ⟨t, n, rfl, hk _ hm⟩
in #guard_msgs (drop info, drop warning) in open Nat
section
variable {prog : Program} {w : World} {A : Around} {E : Value → Shared → Prop} {s : Shared} {h₀ : Heap} {L : Addr} {m : Str → Option Value} {news : Led}
theorem m_listT {b : Addr} {vs : List Value} {n : Nat} {Q : Value → Shared → Prop} (F : Fr h₀ L s.heap m) (N : News h₀ L s.heap news) (hb : (b, tupO vs n) ∈ news) (hz : vs.length ≤ 100000)
    (h : ∀ D c h', Fr h₀ L h' m → News h₀ L h' ((D, listOf vs.toArray c) :: news) → (∀ q ∈ news, q.1 < D) → Q (.ref D) { s with heap := h' }) : wpAny (model prog w) A (call (.type "list") [.ref b]) Q E s :=
  kup_listOfT (its2 := vs.toArray) (zs := vs) F N hb (by simp) h (by rw [sizeLine_eq]; simp; omega)
set_option Elab.async true in
theorem m_rev {value slice : Expr} {l : Addr} {vs : List Value} {n : Nat} {tk : Tok} {ops : List Value} {Q : Value → Shared → Prop} {hp : Heap} {g : Array GenState} {dr : Drawn} {tt : Nat} {os : OsState} (F : Fr h₀ L hp m) (N : News h₀ L hp news) (hm : (l, listOf vs.toArray n) ∈ news) (hz : vs.length ≤ 100000)
    (h : ∀ D h', Fr h₀ L h' m → News h₀ L h' ((D, listOf vs.reverse.toArray 0) :: news) → (∀ p ∈ news, p.1 < D) → Q (.ref D) ⟨h', g, dr, tt, os⟩)
    (hs : subscripted slice false (.ref l) (.ref hp.objs.size) = operate ops (getItem (.ref l) (.ref hp.objs.size))) (ht : ∀ r, letTemporaryGo value (.ref l) r = pure ()) :
    wpAny (model prog w) A (subscriptTail value slice (.ref l) (.ref hp.objs.size)) Q E ⟨hp.push { cls := .type "slice", data := .fields #[.none, .none, .int (-1) tk] }, g, dr, tt, os⟩ :=
  krv_lit (s := ⟨hp, g, dr, tt, os⟩) (its := vs.toArray) (zs := vs.reverse) F N (N.isList hm) (IsPart.int _ _) (by simp) h hs ht (by rw [sizeLine_eq, List.size_toArray]; omega)
in #guard_msgs (drop info, drop warning) in open Nat
set_option Elab.async true in
theorem m_listFrom {value slice : Expr} {l : Addr} {v : Value} {vs : List Value} {n : Nat} {tk : Tok} {Q : Value → Shared → Prop} {hp : Heap} {g : Array GenState} {dr : Drawn} {tt : Nat} {os : OsState} (F : Fr h₀ L hp m) (N : News h₀ L hp news) (hm : (l, listOf (v :: vs).toArray n) ∈ news) (hz : vs.length ≤ 100000)
    (h : ∀ D h', Fr h₀ L h' m → News h₀ L h' ((D, listOf vs.toArray 0) :: news) → (∀ p ∈ news, p.1 < D) → Q (.ref D) ⟨h', g, dr, tt, os⟩)
    (hs : subscripted slice false (.ref l) (.ref hp.objs.size) = operate [.ref hp.objs.size, .ref l] (getItem (.ref l) (.ref hp.objs.size))) (ht : ∀ r, letTemporaryGo value (.ref l) r = pure ()) :
    wpAny (model prog w) A (subscriptTail value slice (.ref l) (.ref hp.objs.size)) Q E ⟨hp.push { cls := .type "slice", data := .fields #[.int 1 tk, .none, .none] }, g, dr, tt, os⟩ := by
  refine kms_slice_lit (s := ⟨hp, g, dr, tt, os⟩) (lo := some 1) (hi := none) (its := (v :: vs).toArray) F N (N.isList hm) (IsPart.int _ _) IsPart.none ?_ h hs ht (by rw [sizeLine_eq, List.size_toArray, List.length_cons]; omega)
  unfold kms_pick kms_lo kms_hi
  simp
in #guard_msgs (drop info, drop warning) in open Nat
end
theorem cell_is {o : Obj} {v v' : Option Value} (h : o.data = .cell v) (e : v = v') : o.data = .cell v' := e ▸ h
set_option Elab.async true in
theorem pp_join {news : Led} {v : Value} {p : Pp} (h : IsPp news v p) : (∃ a t v' u' n p' q', v = .ref a ∧ (a, tupO [.str kJoin t, v', u'] n) ∈ news ∧ p = .join p' q' ∧ IsPp news v' p' ∧ IsPp news u' q') ∨ (isJoin p = false ∧ ∃ a k t rest n, v = .ref a ∧ (a, tupO (.str k t :: rest) n) ∈ news ∧ (k == kJoin) = false) := by
  cases h with
  | join hm e hp hq => subst e; exact .inl ⟨_, _, _, _, _, _, _, rfl, hm, rfl, hp, hq⟩
  | told hm e => subst e; exact .inr ⟨rfl, _, _, _, _, _, rfl, hm, by decide⟩
  | same hm e _ => subst e; exact .inr ⟨rfl, _, _, _, _, _, rfl, hm, by decide⟩
  | rule hm e _ _ => subst e; exact .inr ⟨rfl, _, _, _, _, _, rfl, hm, by decide⟩
  | turn hm e _ => subst e; exact .inr ⟨rfl, _, _, _, _, _, rfl, hm, by decide⟩
  | under0 hm e _ => subst e; exact .inr ⟨rfl, _, _, _, _, _, rfl, hm, by decide⟩
  | under1 hm e _ _ => subst e; exact .inr ⟨rfl, _, _, _, _, _, rfl, hm, by decide⟩
  | under2 hm e _ _ _ => subst e; exact .inr ⟨rfl, _, _, _, _, _, rfl, hm, by decide⟩
in #guard_msgs (drop info, drop warning) in open Nat
theorem eLW01 : True := trivial
end Mine
-- LW1
namespace Mine
example : True := by
  k_with "fk" => first | ((fail_if_success have hzz := eLW11); (with_reducible (first | exact fk88 (by assumption) (by assumption) (by assumption)))) | fail
  trivial
open LCg
example : True := by
  k_with "k_all" => first | ((fail_if_success have hzz := eLW11); (first | with_reducible assumption | with_reducible exact List.forall_mem_nil _ | ((with_reducible refine List.forall_mem_cons.mpr ⟨?_, ?_⟩) <;> first | exact ne_ltR (by with_reducible assumption) | exact ne_ofR (by with_reducible assumption) (by k_mem) | exact ne_ofA (by with_reducible assumption) (by k_mem) | exact off3_I (by with_reducible assumption) (by k_mem) | exact off3_C (by with_reducible assumption) (by k_mem) | exact off3_D (by with_reducible assumption) (by k_mem) | exact Nat.ne_of_lt (by with_reducible assumption) | exact ne_ofL (by with_reducible assumption) (by k_mem) | exact ne_S (by with_reducible assumption) | exact ne_SS (by with_reducible assumption) | k_ne | k_all) | exact fun q hq => Nat.ne_of_lt (ktn_ltOf (by with_reducible assumption) q hq) | exact fun q hq => ne_allW (by with_reducible assumption) q (by k_mem) | ((with_reducible refine List.forall_mem_append.mpr ⟨?_, ?_⟩) <;> k_all) | exact fun p hp => Above.atW (by with_reducible assumption) (by k_mem) hp | exact fun q hq => Nat.ne_of_lt (ktn_ltOf (by assumption) q hq) | assumption)) | fail
  k_with "k_mem" => first | ((fail_if_success have hzz := eLW11); (first | ((repeat (first | exact List.Mem.head _ | apply List.Mem.tail | apply mem_inr | with_reducible assumption | assumption)); done) | exact mem_upW (by with_reducible assumption) (fun p hp => by (simp only [List.mem_cons, List.mem_append, hp, true_or, or_true]; done)))) | fail
  k_with "k_room" => first | ((fail_if_success have hzz := eLW11); (ktr_room)) | fail
  k_with "ktr_room" => first | ((fail_if_success have hzz := eLW11); (first | ((try dsimp only [ktrTop]); omega) | ((try dsimp only [ktrTop]); (simp only [tmDepth] at *); omega))) | fail
  k_with "ktr_units" => first | ((fail_if_success have hzz := eLW11); (first | ((try dsimp only [ktrTop]); omega) | ((try dsimp only [ktrTop]); (simp only [tmDepth] at *); omega))) | fail
  k_with "call ref" => first | ((fail_if_success have hzz := eLW11); (k_here; refine stuck_of ?_)) | fail
  k_with "callWith ref cons nil" => first | ((fail_if_success have hzz := eLW11); (k_here; k_dflt (first | (refine callWith_K0 (by k_in) (by k_is) ?_; k_whole) | (refine callWith_K (by k_asm) (by k_is) ?_; k_whole)))) | fail
  k_with "k_in" => first | ((fail_if_success have hzz := eLW11); (first | with_reducible assumption | with_reducible exact Frag.In.keeps (by with_reducible assumption) (Fr.keep (by with_reducible assumption)) | exact Frag.In.keeps (by k_asm) (Fr.keep (by k_asm)))) | fail
  k_with "Src2" => first | ((fail_if_success have hzz := eLW11); (k_here; refine stuck_of ?_)) | fail
  k_with "Src1" => first | ((fail_if_success have hzz := eLW11); (k_here; refine stuck_of ?_)) | fail
  k_with "eval ListComp" => first | ((fail_if_success have hzz := eLW11); (k_here; k_dflt (first | refine ListComp_2 (by k_asm) (by with_unfolding_all rfl) (by decide) (by rfl) (by decide) (by rfl) ?_ (by decide) (by intro _; rfl) (by intro _ _; rfl) | refine ListComp_1 (by k_asm) (by with_unfolding_all rfl) (by decide) (by rfl) (by decide) ?_ (by intro _; rfl)))) | fail
  k_with "CompRest2" => first | ((fail_if_success have hzz := eLW11); (k_dflt (refine comp2_succ ?_); intro qI9 qoI9 qC9 qoC9 qD9 qm9 qh9 qtk9 qE9 qhC9 qhG9 qF9 qN9 qoff9 qne9; obtain ⟨qv9, qhv9, qhx9⟩ := qhG9; (simp only [List.getElem?_toArray, List.getElem?_cons_zero, List.getElem?_cons_succ, Nat.zero_add, Option.some.injEq] at qhv9); subst qhv9)) | fail
  k_with "CompEnd2" => first | ((fail_if_success have hzz := eLW11); ((repeat (with_reducible rename _ ∧ _ => qhc9; obtain ⟨_, _⟩ := qhc9)); k_dflt (refine comp2_end (by k_asm) (by k_asm) (by k_extra "c3") (by k_extra "c3") (by k_extra "c3") (by k_extra "c6") (by k_extra "c13") (by k_mem) (by k_extra "c16") ?_); (try dsimp only); (try with_reducible_and_instances (refine comp2_zero ?_)); (try simp only [List.nil_append]))) | fail
  k_with "CompEnd1" => first | ((fail_if_success have hzz := eLW11); (refine stuck_of ?_)) | fail
  k_with "call ref" => first | ((fail_if_success have hzz := eLW11); (k_here; (with_reducible show wpAny _ _ (call (Value.ref 306) _) _ _ _); first | (k_dflt (refine tw_use (by k_asm) (by k_asm) (by k_asm) (by k_asm) (by k_asm) (by k_extra "c9") (IsTm.mono (by assumption) (fun p hp => by simp only [List.mem_cons, List.mem_append, hp, true_or, or_true])) (tw_tri _ _ _ _ _) (by omega) (by ktr_room) (by ktr_units) ?_); intro qD9 qvs9 qn9 qtl9 qh9 qtk9 qF9 qN9 qA9 qhD9 qhS9; (have qz9 := StrsAre.length qhS9); (try k_sweep); (try k_fold)) | refine stuck_of ?_)) | fail
  k_with "call ref" => first | ((fail_if_success have hzz := eLW11); (k_here; (with_reducible show wpAny _ _ (call (Value.ref 291) _) _ _ _); first | (k_dflt (refine draw_use (by k_asm) (by k_asm) (by k_asm) (by k_asm) (by k_asm) (by k_extra "c9") (by k_extra "c3") (by assumption) (by k_all) (by k_mem) (by assumption) (by assumption) (by decide) (by omega) (by ktr_room) (by ktr_units) ?_); intro qv9 qtk9 qo9 qh9 qtk9' qF9 qN9 qP9 qe9 qlo9 qhi9 qne9 qhR9; (try k_sweep); (try k_fold)) | refine stuck_of ?_)) | fail
  k_with "call ref" => first | ((fail_if_success have hzz := eLW11); (k_here; (with_reducible show wpAny _ _ (call (Value.ref 311) _) _ _ _); first | (k_dflt (refine lw_use (by k_asm) (by k_asm) (by k_asm) (by k_asm) (by k_asm) (by k_extra "c9") (by k_extra "c3") (by assumption) (by k_all) (by k_mem) (IsPp.mono (by assumption) (fun p hp => by simp only [List.mem_cons, List.mem_append, hp, true_or, or_true])) (by assumption) (by omega) (by omega) (by ktr_room) (by ktr_units) ?_); intro qD9 qvs9 qn9 qws9 qk9 qtl9 qo9 qh9 qtk9 qF9 qN9 qA9 qne9 qP9 qkk9 qhD9 qhS9 qsp9 qpl9; (have qz9 := StrsAre.length qhS9); (have qzl9 := spell_len qsp9); (try k_sweep); (try k_fold)) | refine stuck_of ?_)) | fail
  k_with "binaryOp Add ref ref" => first | ((fail_if_success have hzz := eLW11); (k_here; k_dflt (refine m_addL (by k_asm) (by k_asm) (by k_mem) (by k_mem) (by k_extra "c16") ?_); intro qD' qh' qF' qN' ql1; (try k_lt ql1); (try k_sweep))) | fail
  k_with "subscriptTail Name Slice ref ref" => first | ((fail_if_success have hzz := eLW11); (k_here; (with_reducible show wpAny _ _ (subscriptTail _ (PySem.Expr.Slice (some _) none none _) (Value.ref _) (Value.ref _)) _ _ _); k_dflt (refine m_tupFrom (by k_asm) (by k_asm) (by k_mem) (by simp) (by simp) (by k_extra "c33") ?_ (by with_unfolding_all rfl) (by k_extra "c23")); intro qD' qh' qF' qN' ql1; (try k_lt ql1); (try k_sweep))) | fail
  k_with "subscriptTail Name Slice ref ref" => first | ((fail_if_success have hzz := eLW11); (k_here; (with_reducible show wpAny _ _ (subscriptTail _ (PySem.Expr.Slice none none (some _) _) (Value.ref _) (Value.ref _)) _ _ _); k_dflt (refine m_rev (by k_asm) (by k_asm) (by k_mem) (by omega) ?_ (by with_unfolding_all rfl) (by k_extra "c23")); intro qD' qh' qF' qN' ql1; (try k_lt ql1); (try k_sweep))) | fail
  k_with "call type:list cons nil" => first | ((fail_if_success have hzz := eLW11); (k_here; k_dflt (refine m_listT (by k_asm) (by k_asm) (by k_mem) (by k_extra "c60") ?_); intro qD' qc' qh' qF' qN' ql1; (try k_lt ql1); (try k_sweep))) | fail
  k_with "exec While" => first | ((fail_if_success have hzz := eLW11); (k_here; k_dflt (refine whl_start 100 ?_))) | fail
  k_with "exec While BoolOp" => first | ((fail_if_success have hzz := eLW11); (k_here; k_dflt (refine whl_start 100 ?_))) | fail
  k_with "exec While BoolOp cons" => first | ((fail_if_success have hzz := eLW11); (k_here; k_dflt (refine whl_start 100 ?_))) | fail
  k_with "exec While BoolOp cons nil" => first | ((fail_if_success have hzz := eLW11); (k_here; k_dflt (refine whl_start 100 ?_))) | fail
  trivial
noncomputable def OutG (w : World) (P R : Addr) (news : Led) (o : Obj) (k c : Nat) (W : List Str → Prop) (r : Value) (news' : Led) : Prop :=
  ∃ D vs n ws k' tl o', r = .ref D ∧ news' = (P, o') :: (tl ++ news) ∧ Above ((P, o) :: news) tl ∧ PenD w o' R k' ∧ k' ≤ k + c ∧ (D, listOf vs.toArray n) ∈ tl ∧ StrsAre vs ws ∧ W ws
theorem outG_end {w : World} {P R D : Addr} {news all rest tl : Led} {o o' : Obj} {k k' c n : Nat} {vs : List Value} {ws : List Str} {W : List Str → Prop} {h₀ h : Heap} {L : Addr} (kN : News h₀ L h all) (pk : Pick P o' all rest) (t : Tail news rest tl)
    (ab : Above ((P, o) :: news) tl) (hp : PenD w o' R k') (hk : k' ≤ k + c) (hD : (D, listOf vs.toArray n) ∈ tl) (hS : StrsAre vs ws) (hW : W ws) : ∃ news', News h₀ L h news' ∧ OutG w P R news o k c W (.ref D) news' := by
  have e := t.eq
  exact ⟨(P, o') :: rest, News.sub kN pk.sub, D, vs, n, ws, k', tl, o', rfl, by rw [e], ab, hp, hk, hD, hS, hW⟩
namespace Z
example : True := by
  k_with "eps" => first | ((fail_if_success have hzz := zLW14); skip) | fail
  trivial
set_option Elab.async true in
set_option maxHeartbeats 1000000 in
theorem lw_told : ∀ (w : World) (mean : ExcName → Option Value) (mg : Str → Option Value) (mb : Str → Option Value) (P R : Addr) (row : List Int) (rvs : List Value) (rn : Nat) (hl : row.length ≤ 60) (hI : IntsAre rvs row) (plain : Bool) (l : Str) (b : Addr) (t u : Tok) (n : Nat) (k : Nat) (o : Obj) (news : Led) (hP : PenD w o R k) (hne : ∀ q ∈ news, q.1 ≠ P) (hR : (R, listOf rvs.toArray rn) ∈ news) (hv : (b, tupO [.str kTold t, .str l u] n) ∈ news), Tri LAW hd.heap_39 w mean mg mb 311 [.ref P, .ref b, .bool plain] (0 + 12) (80 * (0 + 12)) ((P, o) :: news) (OutG w P R news o k 0 (fun ws => ws = [lpar, kTold, l, rpar])) := by
  intro w mean mg mb P R row rvs rn hl hI plain l b t u n k o news hP hne hR hv
  k_extra "c11"
  clear hK
  w_top off
  unfold Tri
  k_extra "c14"
  refine wpAny_call ?_
  refine' code_defC ?k1 ?k2 ?k3 ?k4 ?k5 ?kA ?kF ?kK ?k6 ?k7 ?k8 ?k9 ?kB ?kD ?_ ?c2 ?c3 ?c4; (case kA => exact rfl); (case kF => exact rfl); (case kK => assumption); (case k1 => k_asm); (case k2 => k_asm); (case k3 => k_asm); (case k4 => k_asm); (case k5 => k_asm); (case k6 => k_is); (case k7 => k_is); (case k8 => ktr_room); (case k9 => exact BindsTo.of_eq rfl); (case kB => exact rfl); (case kD => decide +kernel); (case c2 => exact rfl); (case c3 => exact rfl); (case c4 => exact rfl); k_whole; intro g' L' h' tk' cells' FG' F' N' Y' B' X' T' l1; (try k_lt l1); k_cells Y'; (try simp only [List.cons_append, List.nil_append] at N'); (try dsimp only); (try k_fold)
  k_extra "c17"
  k_steps
  · ((with_reducible rename Fr h₀ L _ _ => kF); (with_reducible rename News h₀ L _ _ => kN); (repeat (with_reducible rename _ ∧ _ => hc; obtain ⟨_, _⟩ := hc)))
    obtain ⟨nw, hN, hO⟩ := outG_end (w := w) (P := P) (R := R) (news := news) (o := o) (k := k) (c := 0) (W := fun ws => ws = [lpar, kTold, l, rpar]) kN (by k_extra "c3") (by k_extra "c8") (by k_extra "c2") (by assumption) (Nat.le_refl _) (by k_extra "c122") (.cons _ _ (.cons _ _ (.cons _ _ (.cons _ _ .nil)))) rfl
    exact hret _ _ _ _ kF hN hO
in #guard_msgs (drop info, drop warning) in open Nat
set_option Elab.async true in
set_option maxHeartbeats 1000000 in
theorem lw_same : ∀ (w : World) (mean : ExcName → Option Value) (mg : Str → Option Value) (mb : Str → Option Value) (P R : Addr) (row : List Int) (rvs : List Value) (rn : Nat) (hl : row.length ≤ 60) (hI : IntsAre rvs row) (plain : Bool) (x : Tm) (hx3 : tmDepth x < 4) (hxl : (tmWords x).length ≤ 1000) (v : Value) (b : Addr) (t : Tok) (n : Nat) (k : Nat) (o : Obj) (news : Led) (hP : PenD w o R k) (hne : ∀ q ∈ news, q.1 ≠ P) (hR : (R, listOf rvs.toArray rn) ∈ news) (hv : (b, tupO [.str kSame t, v] n) ∈ news) (hx : IsTm news v x), Tri LAW hd.heap_39 w mean mg mb 311 [.ref P, .ref b, .bool plain] (0 + 12) (80 * (0 + 12)) ((P, o) :: news) (OutG w P R news o k 0 (fun ws => ws = lpar :: kSame :: (tmWords x ++ [rpar]))) := by
  intro w mean mg mb P R row rvs rn hl hI plain x hx3 hxl v b t n k o news hP hne hR hv hx
  k_extra "c11"
  clear hK
  w_top off
  unfold Tri
  k_extra "c14"
  refine wpAny_call ?_
  refine' code_defC ?k1 ?k2 ?k3 ?k4 ?k5 ?kA ?kF ?kK ?k6 ?k7 ?k8 ?k9 ?kB ?kD ?_ ?c2 ?c3 ?c4; (case kA => exact rfl); (case kF => exact rfl); (case kK => assumption); (case k1 => k_asm); (case k2 => k_asm); (case k3 => k_asm); (case k4 => k_asm); (case k5 => k_asm); (case k6 => k_is); (case k7 => k_is); (case k8 => ktr_room); (case k9 => exact BindsTo.of_eq rfl); (case kB => exact rfl); (case kD => decide +kernel); (case c2 => exact rfl); (case c3 => exact rfl); (case c4 => exact rfl); k_whole; intro g' L' h' tk' cells' FG' F' N' Y' B' X' T' l1; (try k_lt l1); k_cells Y'; (try simp only [List.cons_append, List.nil_append] at N'); (try dsimp only); (try k_fold)
  k_extra "c17"
  k_steps
  · ((with_reducible rename Fr h₀ L _ _ => kF); (with_reducible rename News h₀ L _ _ => kN); (repeat (with_reducible rename _ ∧ _ => hc; obtain ⟨_, _⟩ := hc)))
    obtain ⟨nw, hN, hO⟩ := outG_end (w := w) (P := P) (R := R) (news := news) (o := o) (k := k) (c := 0) (W := fun ws => ws = lpar :: kSame :: (tmWords x ++ [rpar])) kN (by k_extra "c3") (by k_extra "c8") (by k_extra "c2") (by assumption) (Nat.le_refl _) (by k_extra "c122") (.cons _ _ (.cons _ _ (StrsAre.append (by assumption) (.cons _ _ .nil)))) rfl
    exact hret _ _ _ _ kF hN hO
in #guard_msgs (drop info, drop warning) in open Nat
set_option Elab.async true in
set_option maxHeartbeats 1000000 in
theorem lw_under : ∀ (w : World) (mean : ExcName → Option Value) (mg : Str → Option Value) (mb : Str → Option Value) (P R : Addr) (row : List Int) (rvs : List Value) (rn : Nat) (hl : row.length ≤ 60) (hI : IntsAre rvs row) (plain : Bool) (l : Str) (us : List Value) (ps : List Pp) (Dm : Nat) (hC : ∀ q ∈ ps, LWC w mean mg mb P R row rvs rn plain q) (hD : ∀ q ∈ ps, ppDepth q + 1 ≤ Dm) (hL : sumL ps ≤ 900) (b c : Addr) (t u : Tok) (n n' : Nat) (k : Nat) (o : Obj) (news : Led) (hP : PenD w o R k) (hne : ∀ q ∈ news, q.1 ≠ P) (hR : (R, listOf rvs.toArray rn) ∈ news) (hkk : k + sumC ps ≤ 45000) (hv : (b, tupO [.str kUnder t, .str l u, .ref c] n) ∈ news) (hc : (c, tupO us n') ∈ news) (hU : PpsAre news us ps), Tri LAW hd.heap_39 w mean mg mb 311 [.ref P, .ref b, .bool plain] (Dm + 12) (80 * (Dm + 12)) ((P, o) :: news) (OutG w P R news o k (sumC ps) (fun ws => ∃ w1, ws = lpar :: kUnder :: l :: (w1 ++ [rpar]) ∧ PartsW plain ps w1)) := by
  intro w mean mg mb P R row rvs rn hl hI plain l us ps Dm hC hD hL b c t u n n' k o news hP hne hR hkk hv hc hU
  k_extra "c11"
  clear hK
  w_top off
  unfold Tri
  k_extra "c14"
  refine wpAny_call ?_
  refine' code_defC ?k1 ?k2 ?k3 ?k4 ?k5 ?kA ?kF ?kK ?k6 ?k7 ?k8 ?k9 ?kB ?kD ?_ ?c2 ?c3 ?c4; (case kA => exact rfl); (case kF => exact rfl); (case kK => assumption); (case k1 => k_asm); (case k2 => k_asm); (case k3 => k_asm); (case k4 => k_asm); (case k5 => k_asm); (case k6 => k_is); (case k7 => k_is); (case k8 => ktr_room); (case k9 => exact BindsTo.of_eq rfl); (case kB => exact rfl); (case kD => decide +kernel); (case c2 => exact rfl); (case c3 => exact rfl); (case c4 => exact rfl); k_whole; intro g' L' h' tk' cells' FG' F' N' Y' B' X' T' l1; (try k_lt l1); k_cells Y'; (try simp only [List.cons_append, List.nil_append] at N'); (try dsimp only); (try k_fold)
  k_extra "c17"
  k_steps
  refine ⟨?_⟩
  refine src_parts (P := P) (R := R) plain (by rfl) (by k_asm) (by k_asm) (by k_extra "c3") (by assumption) (by k_mem) (.inr ⟨_, rfl⟩) (PpsAre.mono hU (fun p hp => by simp only [List.mem_cons, List.mem_append, hp, true_or, or_true])) (by rfl) ?_ ?_
  · intro g9 ys9 nw9 o9 k9 tl9 ws9 e9 A9 P9 hk9 S9 W9
    subst e9
    have z9 := StrsAre.length S9
    have z8 := W9.len
    k_steps
    k_extra "c10"
    obtain ⟨nw, hN, hO⟩ := outG_end (w := w) (P := P) (R := R) (news := news) (o := o) (k := k) (c := sumC ps) (W := fun ws => ∃ w1, ws = lpar :: kUnder :: l :: (w1 ++ [rpar]) ∧ PartsW plain ps w1) kN (by k_extra "c3") (by k_extra "c8") (by k_extra "c2") (by assumption) (by omega) (by k_extra "c122") (.cons _ _ (.cons _ _ (.cons _ _ (StrsAre.append (by assumption) (.cons _ _ .nil))))) ⟨_, rfl, by assumption⟩
    exact hret _ _ _ _ kF hN hO
  ·
    intro i9 ys9 o9 k9 tl9 Next9 v9 p9 hp9 hI9 hk9 P9 A9 hyl9 hmem9 hn9 I9 oI9 C9 oC9 D9 m9 h9 tk9 E9 hC9 hx9 F9 N9 off9 ne9
    have C8 := hC p9 hmem9
    have d8 := hD p9 hmem9
    have c8 := sumC_take_at hp9
    have l8 := sumL_mem hmem9
    k_extra "c65"
    k_steps
    k_extra "c31"
in #guard_msgs (drop info, drop warning) in open Nat
theorem zLW14 : True := trivial
end Z
theorem eLW11 : True := trivial
end Mine
-- LW2
namespace Mine
example : True := by
  k_with "fk" => first | ((fail_if_success have hzz := eLW21); (with_reducible (first | exact fk23 (by assumption) | exact fk24 (by assumption)))) | fail
  trivial
open LCg
example : True := by
  k_with "k_all" => first | ((fail_if_success have hzz := eLW21); (first | with_reducible assumption | with_reducible exact List.forall_mem_nil _ | ((with_reducible refine List.forall_mem_cons.mpr ⟨?_, ?_⟩) <;> first | exact ne_ltR (by with_reducible assumption) | exact ne_ofR (by with_reducible assumption) (by k_mem) | exact ne_ofA (by with_reducible assumption) (by k_mem) | exact off3_I (by with_reducible assumption) (by k_mem) | exact off3_C (by with_reducible assumption) (by k_mem) | exact off3_D (by with_reducible assumption) (by k_mem) | exact Nat.ne_of_lt (by with_reducible assumption) | exact ne_ofL (by with_reducible assumption) (by k_mem) | exact ne_S (by with_reducible assumption) | exact ne_SS (by with_reducible assumption) | k_ne | k_all) | exact fun q hq => Nat.ne_of_lt (ktn_ltOf (by with_reducible assumption) q hq) | exact fun q hq => ne_allW (by with_reducible assumption) q (by k_mem) | ((with_reducible refine List.forall_mem_append.mpr ⟨?_, ?_⟩) <;> k_all) | exact fun p hp => Above.atW (by with_reducible assumption) (by k_mem) hp | exact fun q hq => Nat.ne_of_lt (ktn_ltOf (by assumption) q hq) | assumption)) | fail
  k_with "k_mem" => first | ((fail_if_success have hzz := eLW21); (first | ((repeat (first | exact List.Mem.head _ | apply List.Mem.tail | apply mem_inr | with_reducible assumption | assumption)); done) | exact mem_upW (by with_reducible assumption) (fun p hp => by (simp only [List.mem_cons, List.mem_append, hp, true_or, or_true]; done)))) | fail
  k_with "k_room" => first | ((fail_if_success have hzz := eLW21); (ktr_room)) | fail
  k_with "ktr_room" => first | ((fail_if_success have hzz := eLW21); (first | ((try dsimp only [ktrTop]); omega) | ((try dsimp only [ktrTop]); (simp only [tmDepth] at *); omega))) | fail
  k_with "ktr_units" => first | ((fail_if_success have hzz := eLW21); (first | ((try dsimp only [ktrTop]); omega) | ((try dsimp only [ktrTop]); (simp only [tmDepth] at *); omega))) | fail
  k_with "call ref" => first | ((fail_if_success have hzz := eLW21); (k_here; refine stuck_of ?_)) | fail
  k_with "callWith ref cons nil" => first | ((fail_if_success have hzz := eLW21); (k_here; k_dflt (first | (refine callWith_K0 (by k_in) (by k_is) ?_; k_whole) | (refine callWith_K (by k_asm) (by k_is) ?_; k_whole)))) | fail
  k_with "k_in" => first | ((fail_if_success have hzz := eLW21); (first | with_reducible assumption | with_reducible exact Frag.In.keeps (by with_reducible assumption) (Fr.keep (by with_reducible assumption)) | exact Frag.In.keeps (by k_asm) (Fr.keep (by k_asm)))) | fail
  k_with "Src2" => first | ((fail_if_success have hzz := eLW21); (k_here; refine stuck_of ?_)) | fail
  k_with "Src1" => first | ((fail_if_success have hzz := eLW21); (k_here; refine stuck_of ?_)) | fail
  k_with "eval ListComp" => first | ((fail_if_success have hzz := eLW21); (k_here; k_dflt (first | refine ListComp_2 (by k_asm) (by with_unfolding_all rfl) (by decide) (by rfl) (by decide) (by rfl) ?_ (by decide) (by intro _; rfl) (by intro _ _; rfl) | refine ListComp_1 (by k_asm) (by with_unfolding_all rfl) (by decide) (by rfl) (by decide) ?_ (by intro _; rfl)))) | fail
  k_with "CompRest2" => first | ((fail_if_success have hzz := eLW21); (k_dflt (refine comp2_succ ?_); intro qI9 qoI9 qC9 qoC9 qD9 qm9 qh9 qtk9 qE9 qhC9 qhG9 qF9 qN9 qoff9 qne9; obtain ⟨qv9, qhv9, qhx9⟩ := qhG9; (simp only [List.getElem?_toArray, List.getElem?_cons_zero, List.getElem?_cons_succ, Nat.zero_add, Option.some.injEq] at qhv9); subst qhv9)) | fail
  k_with "CompEnd2" => first | ((fail_if_success have hzz := eLW21); ((repeat (with_reducible rename _ ∧ _ => qhc9; obtain ⟨_, _⟩ := qhc9)); k_dflt (refine comp2_end (by k_asm) (by k_asm) (by k_extra "c3") (by k_extra "c3") (by k_extra "c3") (by k_extra "c6") (by k_extra "c13") (by k_mem) (by k_extra "c16") ?_); (try dsimp only); (try with_reducible_and_instances (refine comp2_zero ?_)); (try simp only [List.nil_append]))) | fail
  k_with "CompEnd1" => first | ((fail_if_success have hzz := eLW21); (refine stuck_of ?_)) | fail
  k_with "call ref" => first | ((fail_if_success have hzz := eLW21); (k_here; (with_reducible show wpAny _ _ (call (Value.ref 306) _) _ _ _); first | (k_dflt (refine tw_use (by k_asm) (by k_asm) (by k_asm) (by k_asm) (by k_asm) (by k_extra "c9") (IsTm.mono (by assumption) (fun p hp => by simp only [List.mem_cons, List.mem_append, hp, true_or, or_true])) (tw_tri _ _ _ _ _) (by omega) (by ktr_room) (by ktr_units) ?_); intro qD9 qvs9 qn9 qtl9 qh9 qtk9 qF9 qN9 qA9 qhD9 qhS9; (have qz9 := StrsAre.length qhS9); (try k_sweep); (try k_fold)) | refine stuck_of ?_)) | fail
  k_with "call ref" => first | ((fail_if_success have hzz := eLW21); (k_here; (with_reducible show wpAny _ _ (call (Value.ref 291) _) _ _ _); first | (k_dflt (refine draw_use (by k_asm) (by k_asm) (by k_asm) (by k_asm) (by k_asm) (by k_extra "c9") (by k_extra "c3") (by assumption) (by k_all) (by k_mem) (by assumption) (by assumption) (by decide) (by omega) (by ktr_room) (by ktr_units) ?_); intro qv9 qtk9 qo9 qh9 qtk9' qF9 qN9 qP9 qe9 qlo9 qhi9 qne9 qhR9; (try k_sweep); (try k_fold)) | refine stuck_of ?_)) | fail
  k_with "call ref" => first | ((fail_if_success have hzz := eLW21); (k_here; (with_reducible show wpAny _ _ (call (Value.ref 311) _) _ _ _); first | (k_dflt (refine lw_use (by k_asm) (by k_asm) (by k_asm) (by k_asm) (by k_asm) (by k_extra "c9") (by k_extra "c3") (by assumption) (by k_all) (by k_mem) (IsPp.mono (by assumption) (fun p hp => by simp only [List.mem_cons, List.mem_append, hp, true_or, or_true])) (by assumption) (by omega) (by omega) (by ktr_room) (by ktr_units) ?_); intro qD9 qvs9 qn9 qws9 qk9 qtl9 qo9 qh9 qtk9 qF9 qN9 qA9 qne9 qP9 qkk9 qhD9 qhS9 qsp9 qpl9; (have qz9 := StrsAre.length qhS9); (have qzl9 := spell_len qsp9); (try k_sweep); (try k_fold)) | refine stuck_of ?_)) | fail
  k_with "binaryOp Add ref ref" => first | ((fail_if_success have hzz := eLW21); (k_here; k_dflt (refine m_addL (by k_asm) (by k_asm) (by k_mem) (by k_mem) (by k_extra "c16") ?_); intro qD' qh' qF' qN' ql1; (try k_lt ql1); (try k_sweep))) | fail
  k_with "subscriptTail Name Slice ref ref" => first | ((fail_if_success have hzz := eLW21); (k_here; (with_reducible show wpAny _ _ (subscriptTail _ (PySem.Expr.Slice (some _) none none _) (Value.ref _) (Value.ref _)) _ _ _); k_dflt (refine m_tupFrom (by k_asm) (by k_asm) (by k_mem) (by simp) (by simp) (by k_extra "c33") ?_ (by with_unfolding_all rfl) (by k_extra "c23")); intro qD' qh' qF' qN' ql1; (try k_lt ql1); (try k_sweep))) | fail
  k_with "subscriptTail Name Slice ref ref" => first | ((fail_if_success have hzz := eLW21); (k_here; (with_reducible show wpAny _ _ (subscriptTail _ (PySem.Expr.Slice (some _) none none _) (Value.ref _) (Value.ref _)) _ _ _); k_dflt (first | (refine m_listFrom (by k_asm) (by k_asm) (by k_mem) (by omega) ?_ (by with_unfolding_all rfl) (by k_extra "c23")) | (refine m_tupFrom (by k_asm) (by k_asm) (by k_mem) (by simp) (by simp) (by k_extra "c33") ?_ (by with_unfolding_all rfl) (by k_extra "c23"))); intro qD' qh' qF' qN' ql1; (try k_lt ql1); (try k_sweep))) | fail
  k_with "subscriptTail Subscript Slice ref ref" => first | ((fail_if_success have hzz := eLW21); (k_here; (with_reducible show wpAny _ _ (subscriptTail _ (PySem.Expr.Slice (some _) none none _) (Value.ref _) (Value.ref _)) _ _ _); k_dflt (refine m_tupFrom (by k_asm) (by k_asm) (by k_mem) (by simp) (by simp) (by k_extra "c33") ?_ (by with_unfolding_all rfl) (by k_extra "c23")); intro qD' qh' qF' qN' ql1; (try k_lt ql1); (try k_sweep))) | fail
  k_with "subscriptTail Name Slice ref ref" => first | ((fail_if_success have hzz := eLW21); (k_here; (with_reducible show wpAny _ _ (subscriptTail _ (PySem.Expr.Slice none none (some _) _) (Value.ref _) (Value.ref _)) _ _ _); k_dflt (refine m_rev (by k_asm) (by k_asm) (by k_mem) (by omega) ?_ (by with_unfolding_all rfl) (by k_extra "c23")); intro qD' qh' qF' qN' ql1; (try k_lt ql1); (try k_sweep))) | fail
  k_with "call type:list cons nil" => first | ((fail_if_success have hzz := eLW21); (k_here; k_dflt (refine m_listT (by k_asm) (by k_asm) (by k_mem) (by k_extra "c60") ?_); intro qD' qc' qh' qF' qN' ql1; (try k_lt ql1); (try k_sweep))) | fail
  trivial
namespace Z
example : True := by
  k_with "eps" => first | ((fail_if_success have hzz := zLW24); skip) | fail
  trivial
set_option Elab.async true in
set_option maxHeartbeats 1000000 in
theorem lw_rule : ∀ (w : World) (mean : ExcName → Option Value) (mg : Str → Option Value) (mb : Str → Option Value) (P R : Addr) (row : List Int) (rvs : List Value) (rn : Nat) (hl : row.length ≤ 60) (hI : IntsAre rvs row) (plain : Bool) (l : Str) (us : List Value) (ps : List (Str × Tm)) (hps : ∀ x ∈ ps, tmDepth x.2 < 3) (hrl : (rowWords ps).length ≤ 1000) (b c : Addr) (t u : Tok) (n n' : Nat) (k : Nat) (o : Obj) (news : Led) (hP : PenD w o R k) (hne : ∀ q ∈ news, q.1 ≠ P) (hR : (R, listOf rvs.toArray rn) ∈ news) (hkk : k + 1 ≤ 45000) (hv : (b, tupO [.str kRule t, .str l u, .ref c] n) ∈ news) (hc : (c, tupO us n') ∈ news) (hU : IsRow news us ps), Tri LAW hd.heap_39 w mean mg mb 311 [.ref P, .ref b, .bool plain] (0 + 12) (80 * (0 + 12)) ((P, o) :: news) (OutG w P R news o k 1 (fun ws => ∃ qs, (qs = ps ∨ (plain = false ∧ qs = ps.reverse)) ∧ ws = lpar :: kRule :: l :: (rowWords qs ++ [rpar]))) := by
  intro w mean mg mb P R row rvs rn hl hI plain l us ps hps hrl b c t u n n' k o news hP hne hR hkk hv hc hU
  k_extra "c11"
  clear hK
  w_top off
  unfold Tri
  k_extra "c14"
  refine wpAny_call ?_
  refine' code_defC ?k1 ?k2 ?k3 ?k4 ?k5 ?kA ?kF ?kK ?k6 ?k7 ?k8 ?k9 ?kB ?kD ?_ ?c2 ?c3 ?c4; (case kA => exact rfl); (case kF => exact rfl); (case kK => assumption); (case k1 => k_asm); (case k2 => k_asm); (case k3 => k_asm); (case k4 => k_asm); (case k5 => k_asm); (case k6 => k_is); (case k7 => k_is); (case k8 => ktr_room); (case k9 => exact BindsTo.of_eq rfl); (case kB => exact rfl); (case kD => decide +kernel); (case c2 => exact rfl); (case c3 => exact rfl); (case c4 => exact rfl); k_whole; intro g' L' h' tk' cells' FG' F' N' Y' B' X' T' l1; (try k_lt l1); k_cells Y'; (try simp only [List.cons_append, List.nil_append] at N'); (try dsimp only); (try k_fold)
  k_extra "c17"
  have hul := hU.length
  have hpl : ps.length ≤ (rowWords ps).length := rowWords_ge ps
  k_steps
  · refine ⟨?_⟩
    k_extra "c47"
    · intro g9 ys9 tl9 A9 S9
      have z9 := StrsAre.length S9
      have z8 := hrl
      k_steps
      k_extra "c10"
      k_extra "c69"
      exact hret _ _ _ _ kF hN hO
    · intro ys9 tl9 Next9 SS9 y9 t9 yt9 tv9 hp9 hT9 A9 hyl9 hS9 hn9 I9 oI9 C9 oC9 D9 m9 h9 tk9 E9 hC9 hx9 hx8 F9 N9 off9 ne9
      have d8 := hps _ hp9
      (try dsimp only at d8)
      have l8 := rowWords_mem hp9
      have z8 := hrl
      k_extra "c65"
      k_steps
      k_extra "c65"
      k_extra "c28"
  · refine ⟨?_⟩
    refine src_rows (ps := ps.reverse) (by rfl) (by k_asm) (by k_asm) (by k_mem) (.inl ⟨_, rfl⟩) (IsRow.mono hU.reverse (fun p hp => by simp only [List.mem_cons, List.mem_append, hp, true_or, or_true])) (by rfl) (by rfl) (by decide) ?_ ?_
    · intro g9 ys9 tl9 A9 S9
      have z9 := StrsAre.length S9
      have z8 := rowWords_rev ps
      k_steps
      k_extra "c10"
      obtain ⟨nw, hN, hO⟩ := outG_end (w := w) (P := P) (R := R) (news := news) (o := o) (k := k) (c := 1) (W := fun ws => ∃ qs, (qs = ps ∨ (plain = false ∧ qs = ps.reverse)) ∧ ws = lpar :: kRule :: l :: (rowWords qs ++ [rpar])) kN (by k_extra "c3") (by k_extra "c8") (by k_extra "c2") (by assumption) (by omega) (by k_extra "c122") (.cons _ _ (.cons _ _ (.cons _ _ (StrsAre.append (by assumption) (.cons _ _ .nil))))) ⟨ps.reverse, .inr ⟨by assumption, rfl⟩, rfl⟩
      exact hret _ _ _ _ kF hN hO
    · intro ys9 tl9 Next9 SS9 y9 t9 yt9 tv9 hp9 hT9 A9 hyl9 hS9 hn9 I9 oI9 C9 oC9 D9 m9 h9 tk9 E9 hC9 hx9 hx8 F9 N9 off9 ne9
      have d8 := hps _ (List.mem_reverse.mp hp9)
      (try dsimp only at d8)
      have l8 := rowWords_mem hp9
      have z8 := rowWords_rev ps
      k_extra "c65"
      k_steps
      k_extra "c65"
      k_extra "c28"
  · refine ⟨?_⟩
    k_extra "c47"
    · intro g9 ys9 tl9 A9 S9
      have z9 := StrsAre.length S9
      have z8 := hrl
      k_steps
      k_extra "c10"
      k_extra "c69"
      exact hret _ _ _ _ kF hN hO
    · intro ys9 tl9 Next9 SS9 y9 t9 yt9 tv9 hp9 hT9 A9 hyl9 hS9 hn9 I9 oI9 C9 oC9 D9 m9 h9 tk9 E9 hC9 hx9 hx8 F9 N9 off9 ne9
      have d8 := hps _ hp9
      (try dsimp only at d8)
      have l8 := rowWords_mem hp9
      have z8 := hrl
      k_extra "c65"
      k_steps
      k_extra "c65"
      k_extra "c28"
in #guard_msgs (drop info, drop warning) in open Nat
theorem zLW24 : True := trivial
end Z
theorem eLW21 : True := trivial
end Mine
-- Comp3
namespace Mine
open LCg
section
variable {prog : Program} {w : World} {A : Around} {E : Value → Shared → Prop} {s : Shared} {h₀ : Heap} {L : Addr} {m : Str → Option Value} {env : Env}
set_option Elab.async true in
theorem Assign_2 {target iter iter2 : Expr} {y z : Str} {py pe pz : Pos} {scope : Scope} {cl : List (Str × Addr)} {pos spos : Pos} {Q : Flow → Shared → Prop} (_F₀ : Fr h₀ L s.heap m) (hLe : env.locals = L)
    (hsw : swapsWith (.ListComp (.Name y pe) [⟨target, iter, [], 0⟩, ⟨.Name y py, iter2, [], 0⟩] scope pos) (some (.Name z pz)) spos.line env = pure true)
    (hclos : closureFor scope env = pure cl) (hcell : ∀ y ∈ scope.names, y.2 ≠ .cell) (hkind : scope.kind = .function)
    (hnames : ∀ y ∈ scope.names, y.2 = .local → scope.names.lookup y.1 = some .local) (hyl : scope.names.lookup y = some .local)
    (hz : env.kindOf z = some .local) (hpz : (env.scope.kind == .class || (env.scope.kind == .module && env.locals != env.globals)) = false)
    (h : wpAny (model prog w) A (eval iter env) (Src2 prog w A h₀ L m env target iter2 scope cl (fun s₂ => FinA h₀ L m s₂ z Q)) E s)
    (hyd : (y == ("__debug__" : Str)) = false) (hs : ∀ x, foldedSetIterable iter env x = pure x) (hs2 : ∀ C x, foldedSetIterable iter2 (compEnvC scope cl C env) x = pure x) :
    wpAny (model prog w) A (exec (.Assign [.Name z pz] (.ListComp (.Name y pe) [⟨target, iter, [], 0⟩, ⟨.Name y py, iter2, [], 0⟩] scope pos) spos) env) Q E s := by
  subst hLe
  rw [exec_Assign_Name_used _ _ _ _ hsw]
  refine wpAny_bind (wpAny_standAt (wpAny_bind ?_))
  show wpAny _ A (do let _ ← comprehension (.ListComp (.Name y pe) [⟨target, iter, [], 0⟩, ⟨.Name y py, iter2, [], 0⟩] scope pos) scope env _ (newList []) false (eval iter env) (some (assign (.Name z pz) env))) _ _ s
  refine wpAny_bind (wpAny_mono (wpAny_comprehension_free (use := some (assign (.Name z pz) env)) (Q := fun _ s' => Q .next s') rfl hs hclos hkind hnames
    (wpAny_mono h (fun xv s₁ h₁ => ?_) fun _ _ e => e)) (fun _ s' hq => wpAny_pure (wpAny_pure hq)) fun _ _ e => e)
  k_extra "c49"
  refine src_walk hh N hm ho fun St oi W hIo hSt hlet hst hfp => ?_
  k_extra "c35"
  refine block_2 (s₂ := { s₁ with heap := s₁.heap.push oi }) hh W hIo (fun i h h' oo nw st e e' k N' S' => hSt i h h' oo nw st e e' k N' S'.1) hcell hkind hyl hyd hs2
    (fun C i v h₂ tk₂ m' nw Q' E' hP st hn N' hS' hq => tgt_asg hh hkind tg (fun elts x1 pos T s' Q'' E'' e hq' => hlet (i + 1) elts x1 pos T s' Q'' E'' (by rw [e]; exact st) hq') hP hn N' hS'.2 hq) hst hfp (F.keeps up) (N.grown up) (Nat.ne_of_lt F.ns.lt) (next_is_new F) (fun p hp => Nat.ne_of_lt (Heap.lt_size (N p hp).1)) ⟨hm, hS⟩ (R _) ?_
  k_extra "c55"
  show wpAny _ A (assign (.Name z pz) env (.ref D)) _ _ _
  k_extra "c128"
  have hL₀ : h₀.get? env.locals = none := Heap.get?_none_of_le F'.above
  k_extra "c51"
  k_extra "c106"
  k_extra "c147"
  refine ⟨hs''.extBut _ _ ?_ zz, (N' p hp).2⟩
  k_extra "c22"
  · exact Ne.symm hCD
  · exact offC p hp
in #guard_msgs (drop info, drop warning) in open Nat
set_option Elab.async true in
theorem Assign_1 {target iter elt : Expr} {z : Str} {pz : Pos} {scope : Scope} {cl : List (Str × Addr)} {pos spos : Pos} {Q : Flow → Shared → Prop} (_F₀ : Fr h₀ L s.heap m) (hLe : env.locals = L)
    (hsw : swapsWith (.ListComp elt [⟨target, iter, [], 0⟩] scope pos) (some (.Name z pz)) spos.line env = pure true)
    (hclos : closureFor scope env = pure cl) (hcell : ∀ y ∈ scope.names, y.2 ≠ .cell) (hkind : scope.kind = .function)
    (hnames : ∀ y ∈ scope.names, y.2 = .local → scope.names.lookup y.1 = some .local)
    (hz : env.kindOf z = some .local) (hpz : (env.scope.kind == .class || (env.scope.kind == .module && env.locals != env.globals)) = false)
    (h : wpAny (model prog w) A (eval iter env) (Src1 prog w A h₀ L m env target elt scope cl (fun s₂ => FinA h₀ L m s₂ z Q)) E s)
    (hs : ∀ x, foldedSetIterable iter env x = pure x) :
    wpAny (model prog w) A (exec (.Assign [.Name z pz] (.ListComp elt [⟨target, iter, [], 0⟩] scope pos) spos) env) Q E s := by
  subst hLe
  rw [exec_Assign_Name_used _ _ _ _ hsw]
  refine wpAny_bind (wpAny_standAt (wpAny_bind ?_))
  show wpAny _ A (do let _ ← comprehension (.ListComp elt [⟨target, iter, [], 0⟩] scope pos) scope env _ (newList []) false (eval iter env) (some (assign (.Name z pz) env))) _ _ s
  refine wpAny_bind (wpAny_mono (wpAny_comprehension_free (use := some (assign (.Name z pz) env)) (Q := fun _ s' => Q .next s') rfl hs hclos hkind hnames
    (wpAny_mono h (fun xv s₁ h₁ => ?_) fun _ _ e => e)) (fun _ s' hq => wpAny_pure (wpAny_pure hq)) fun _ _ e => e)
  k_extra "c49"
  refine src_walk hh N hm ho fun St oi W hIo hSt hlet hst hfp => ?_
  k_extra "c35"
  refine block_1 (s₂ := { s₁ with heap := s₁.heap.push oi }) hh W hIo (fun i h h' oo nw st e e' k N' S' => hSt i h h' oo nw st e e' k N' S'.1) hcell hkind
    (fun C i v h₂ tk₂ m' nw Q' E' hP st hn N' hS' hq => tgt_asg hh hkind tg (fun elts x1 pos T s' Q'' E'' e hq' => hlet (i + 1) elts x1 pos T s' Q'' E'' (by rw [e]; exact st) hq') hP hn N' hS'.2 hq) hst hfp (F.keeps up) (N.grown up) (Nat.ne_of_lt F.ns.lt) (next_is_new F) (fun p hp => Nat.ne_of_lt (Heap.lt_size (N p hp).1)) ⟨hm, hS⟩ (R _) ?_
  k_extra "c55"
  show wpAny _ A (assign (.Name z pz) env (.ref D)) _ _ _
  k_extra "c128"
  have hL₀ : h₀.get? env.locals = none := Heap.get?_none_of_le F'.above
  k_extra "c51"
  k_extra "c106"
  k_extra "c147"
  refine ⟨hs''.extBut _ _ ?_ zz, (N' p hp).2⟩
  k_extra "c22"
  · exact Ne.symm hCD
  · exact offC p hp
in #guard_msgs (drop info, drop warning) in open Nat
end
end Mine
-- LW3
namespace Mine
example : True := by
  k_with "fk" => first | ((fail_if_success have hzz := eLW31); (with_reducible (first | exact fk89 (by assumption) (by assumption) (by assumption)))) | fail
  trivial
theorem ldLC {M : Model} {A : Around} {E : Value → Shared → Prop} {s : Shared} {name : Str} {scope : Scope} {L a : Addr} {cd : Value} {h₀ : Heap} {m : Str → Option Value} {x : Str} {pos : Pos} {v : Value} {Q : Value → Shared → Prop} (F : Fr h₀ L s.heap m) (hv : m x = some v) (h : Q v s)
    (hk : scope.kind = .function) (hl : (envOfC name scope L a cd).kindOf x = some .local) (hd : (x == ("__debug__" : Str)) = false) :
    wpAny M A (eval (.Name x pos) (envOfC name scope L a cd)) Q E s := wpAny_Name (wpAny_loadName_local hk hl F.ns hv h) hd
theorem m_list0 {prog : Program} {w : World} {A : Around} {E : Value → Shared → Prop} {s : Shared} {h₀ : Heap} {L : Addr} {news : Led} {value slice : Expr} {t : Addr} {v : Value} {vs : List Value} {n : Nat} {u : Tok} {Q : Value → Shared → Prop} (N : News h₀ L s.heap news) (ht : (t, listOf (v :: vs).toArray n) ∈ news) (h : Q v s)
    (hs : subscripted slice false (.ref t) (.int 0 u) = operate [.ref t, .int 0 u] (getItem (.ref t) (.int 0 u))) (hg : ∀ r, letTemporaryGo value (.ref t) r = pure ()) :
    wpAny (model prog w) A (subscriptTail value slice (.ref t) (.int 0 u)) Q E s :=
  item_list (N.isList ht) (by decide) (by decide) (by simp) h hs hg
theorem m_tup0 {prog : Program} {w : World} {A : Around} {E : Value → Shared → Prop} {s : Shared} {h₀ : Heap} {L : Addr} {news : Led} {value slice : Expr} {t : Addr} {v : Value} {vs : List Value} {n : Nat} {u : Tok} {Q : Value → Shared → Prop} (N : News h₀ L s.heap news) (ht : (t, tupO (v :: vs) n) ∈ news) (h : Q v s)
    (hs : subscripted slice false (.ref t) (.int 0 u) = operate [.ref t, .int 0 u] (getItem (.ref t) (.int 0 u))) (hg : ∀ r, letTemporaryGo value (.ref t) r = pure ()) :
    wpAny (model prog w) A (subscriptTail value slice (.ref t) (.int 0 u)) Q E s :=
  item_tupleL (j := 0) (N.isTup ht) (by decide) (by decide) (by simp [seqIndex?]) rfl h hs hg
theorem eLW31 : True := trivial
end Mine
namespace Mine
example : True := by
  k_with "fk" => first | ((fail_if_success have hzz := eLW33); (with_reducible (first | exact fk89 (by assumption) (by assumption) (by assumption)))) | fail
  trivial
open LCg
example : True := by
  k_with "k_all" => first | ((fail_if_success have hzz := eLW33); (first | with_reducible assumption | with_reducible exact List.forall_mem_nil _ | ((with_reducible refine List.forall_mem_cons.mpr ⟨?_, ?_⟩) <;> first | exact ne_ltR (by with_reducible assumption) | exact ne_ofR (by with_reducible assumption) (by k_mem) | exact ne_ofA (by with_reducible assumption) (by k_mem) | exact off3_I (by with_reducible assumption) (by k_mem) | exact off3_C (by with_reducible assumption) (by k_mem) | exact off3_D (by with_reducible assumption) (by k_mem) | exact Nat.ne_of_lt (by with_reducible assumption) | exact ne_ofL (by with_reducible assumption) (by k_mem) | exact ne_S (by with_reducible assumption) | exact ne_SS (by with_reducible assumption) | k_ne | k_all) | exact fun q hq => Nat.ne_of_lt (ktn_ltOf (by with_reducible assumption) q hq) | exact fun q hq => ne_allW (by with_reducible assumption) q (by k_mem) | ((with_reducible refine List.forall_mem_append.mpr ⟨?_, ?_⟩) <;> k_all) | exact fun p hp => Above.atW (by with_reducible assumption) (by k_mem) hp | exact fun q hq => Nat.ne_of_lt (ktn_ltOf (by assumption) q hq) | assumption)) | fail
  k_with "k_mem" => first | ((fail_if_success have hzz := eLW33); (first | ((repeat (first | exact List.Mem.head _ | apply List.Mem.tail | apply mem_inr | with_reducible assumption | assumption)); done) | exact mem_upW (by with_reducible assumption) (fun p hp => by (simp only [List.mem_cons, List.mem_append, hp, true_or, or_true]; done)))) | fail
  k_with "k_room" => first | ((fail_if_success have hzz := eLW33); (ktr_room)) | fail
  k_with "ktr_room" => first | ((fail_if_success have hzz := eLW33); (first | ((try dsimp only [ktrTop]); omega) | ((try dsimp only [ktrTop]); (simp only [tmDepth] at *); omega))) | fail
  k_with "ktr_units" => first | ((fail_if_success have hzz := eLW33); (first | ((try dsimp only [ktrTop]); omega) | ((try dsimp only [ktrTop]); (simp only [tmDepth] at *); omega))) | fail
  k_with "call ref" => first | ((fail_if_success have hzz := eLW33); (k_here; refine stuck_of ?_)) | fail
  k_with "callWith ref cons nil" => first | ((fail_if_success have hzz := eLW33); (k_here; k_dflt (first | (refine callWith_K0 (by k_in) (by k_is) ?_; k_whole) | (refine callWith_K (by k_asm) (by k_is) ?_; k_whole)))) | fail
  k_with "k_in" => first | ((fail_if_success have hzz := eLW33); (first | with_reducible assumption | with_reducible exact Frag.In.keeps (by with_reducible assumption) (Fr.keep (by with_reducible assumption)) | exact Frag.In.keeps (by k_asm) (Fr.keep (by k_asm)))) | fail
  k_with "Src2" => first | ((fail_if_success have hzz := eLW33); (k_here; refine stuck_of ?_)) | fail
  k_with "Src1" => first | ((fail_if_success have hzz := eLW33); (k_here; refine stuck_of ?_)) | fail
  k_with "eval ListComp" => first | ((fail_if_success have hzz := eLW33); (k_here; k_dflt (first | refine ListComp_2 (by k_asm) (by with_unfolding_all rfl) (by decide) (by rfl) (by decide) (by rfl) ?_ (by decide) (by intro _; rfl) (by intro _ _; rfl) | refine ListComp_1 (by k_asm) (by with_unfolding_all rfl) (by decide) (by rfl) (by decide) ?_ (by intro _; rfl)))) | fail
  k_with "CompRest2" => first | ((fail_if_success have hzz := eLW33); (k_dflt (refine comp2_succ ?_); intro qI9 qoI9 qC9 qoC9 qD9 qm9 qh9 qtk9 qE9 qhC9 qhG9 qF9 qN9 qoff9 qne9; obtain ⟨qv9, qhv9, qhx9⟩ := qhG9; (simp only [List.getElem?_toArray, List.getElem?_cons_zero, List.getElem?_cons_succ, Nat.zero_add, Option.some.injEq] at qhv9); subst qhv9)) | fail
  k_with "CompEnd2" => first | ((fail_if_success have hzz := eLW33); ((repeat (with_reducible rename _ ∧ _ => qhc9; obtain ⟨_, _⟩ := qhc9)); k_dflt (refine comp2_end (by k_asm) (by k_asm) (by k_extra "c3") (by k_extra "c3") (by k_extra "c3") (by k_extra "c6") (by k_extra "c13") (by k_mem) (by k_extra "c16") ?_); (try dsimp only); (try with_reducible_and_instances (refine comp2_zero ?_)); (try simp only [List.nil_append]))) | fail
  k_with "CompEnd1" => first | ((fail_if_success have hzz := eLW33); (refine stuck_of ?_)) | fail
  k_with "call ref" => first | ((fail_if_success have hzz := eLW33); (k_here; (with_reducible show wpAny _ _ (call (Value.ref 306) _) _ _ _); first | (k_dflt (refine tw_use (by k_asm) (by k_asm) (by k_asm) (by k_asm) (by k_asm) (by k_extra "c9") (IsTm.mono (by assumption) (fun p hp => by simp only [List.mem_cons, List.mem_append, hp, true_or, or_true])) (tw_tri _ _ _ _ _) (by omega) (by ktr_room) (by ktr_units) ?_); intro qD9 qvs9 qn9 qtl9 qh9 qtk9 qF9 qN9 qA9 qhD9 qhS9; (have qz9 := StrsAre.length qhS9); (try k_sweep); (try k_fold)) | refine stuck_of ?_)) | fail
  k_with "call ref" => first | ((fail_if_success have hzz := eLW33); (k_here; (with_reducible show wpAny _ _ (call (Value.ref 291) _) _ _ _); first | (k_dflt (refine draw_use (by k_asm) (by k_asm) (by k_asm) (by k_asm) (by k_asm) (by k_extra "c9") (by k_extra "c3") (by assumption) (by k_all) (by k_mem) (by assumption) (by assumption) (by decide) (by omega) (by ktr_room) (by ktr_units) ?_); intro qv9 qtk9 qo9 qh9 qtk9' qF9 qN9 qP9 qe9 qlo9 qhi9 qne9 qhR9; (try k_sweep); (try k_fold)) | refine stuck_of ?_)) | fail
  k_with "call ref" => first | ((fail_if_success have hzz := eLW33); (k_here; (with_reducible show wpAny _ _ (call (Value.ref 311) _) _ _ _); first | (k_dflt (refine lw_use (by k_asm) (by k_asm) (by k_asm) (by k_asm) (by k_asm) (by k_extra "c9") (by k_extra "c3") (by assumption) (by k_all) (by k_mem) (IsPp.mono (by assumption) (fun p hp => by simp only [List.mem_cons, List.mem_append, hp, true_or, or_true])) (by assumption) (by omega) (by omega) (by ktr_room) (by ktr_units) ?_); intro qD9 qvs9 qn9 qws9 qk9 qtl9 qo9 qh9 qtk9 qF9 qN9 qA9 qne9 qP9 qkk9 qhD9 qhS9 qsp9 qpl9; (have qz9 := StrsAre.length qhS9); (have qzl9 := spell_len qsp9); (try k_sweep); (try k_fold)) | refine stuck_of ?_)) | fail
  k_with "binaryOp Add ref ref" => first | ((fail_if_success have hzz := eLW33); (k_here; k_dflt (refine m_addL (by k_asm) (by k_asm) (by k_mem) (by k_mem) (by k_extra "c16") ?_); intro qD' qh' qF' qN' ql1; (try k_lt ql1); (try k_sweep))) | fail
  k_with "subscriptTail Name Slice ref ref" => first | ((fail_if_success have hzz := eLW33); (k_here; (with_reducible show wpAny _ _ (subscriptTail _ (PySem.Expr.Slice (some _) none none _) (Value.ref _) (Value.ref _)) _ _ _); k_dflt (refine m_tupFrom (by k_asm) (by k_asm) (by k_mem) (by simp) (by simp) (by k_extra "c33") ?_ (by with_unfolding_all rfl) (by k_extra "c23")); intro qD' qh' qF' qN' ql1; (try k_lt ql1); (try k_sweep))) | fail
  k_with "subscriptTail Name Slice ref ref" => first | ((fail_if_success have hzz := eLW33); (k_here; (with_reducible show wpAny _ _ (subscriptTail _ (PySem.Expr.Slice (some _) none none _) (Value.ref _) (Value.ref _)) _ _ _); k_dflt (first | (refine m_listFrom (by k_asm) (by k_asm) (by k_mem) (by omega) ?_ (by with_unfolding_all rfl) (by k_extra "c23")) | (refine m_tupFrom (by k_asm) (by k_asm) (by k_mem) (by simp) (by simp) (by k_extra "c33") ?_ (by with_unfolding_all rfl) (by k_extra "c23"))); intro qD' qh' qF' qN' ql1; (try k_lt ql1); (try k_sweep))) | fail
  k_with "subscriptTail Subscript Slice ref ref" => first | ((fail_if_success have hzz := eLW33); (k_here; (with_reducible show wpAny _ _ (subscriptTail _ (PySem.Expr.Slice (some _) none none _) (Value.ref _) (Value.ref _)) _ _ _); k_dflt (refine m_tupFrom (by k_asm) (by k_asm) (by k_mem) (by simp) (by simp) (by k_extra "c33") ?_ (by with_unfolding_all rfl) (by k_extra "c23")); intro qD' qh' qF' qN' ql1; (try k_lt ql1); (try k_sweep))) | fail
  k_with "subscriptTail Name Slice ref ref" => first | ((fail_if_success have hzz := eLW33); (k_here; (with_reducible show wpAny _ _ (subscriptTail _ (PySem.Expr.Slice none none (some _) _) (Value.ref _) (Value.ref _)) _ _ _); k_dflt (refine m_rev (by k_asm) (by k_asm) (by k_mem) (by omega) ?_ (by with_unfolding_all rfl) (by k_extra "c23")); intro qD' qh' qF' qN' ql1; (try k_lt ql1); (try k_sweep))) | fail
  k_with "call type:list cons nil" => first | ((fail_if_success have hzz := eLW33); (k_here; k_dflt (refine m_listT (by k_asm) (by k_asm) (by k_mem) (by k_extra "c60") ?_); intro qD' qc' qh' qF' qN' ql1; (try k_lt ql1); (try k_sweep))) | fail
  k_with "eval Name" => first | ((fail_if_success have hzz := eLW33); (k_here; (with_reducible show wpAny _ _ (eval (PySem.Expr.Name _ _) (envOfC _ _ _ _ _)) _ _ _); k_dflt (refine ldLC (by k_asm) (by assumption) ?_ (by rfl) (by rfl) (by decide)))) | fail
  k_with "exec While" => first | ((fail_if_success have hzz := eLW33); (k_here; refine stuck_of ?_)) | fail
  k_with "exec While BoolOp" => first | ((fail_if_success have hzz := eLW33); (k_here; refine stuck_of ?_)) | fail
  k_with "exec While BoolOp cons" => first | ((fail_if_success have hzz := eLW33); (k_here; refine stuck_of ?_)) | fail
  k_with "exec While BoolOp cons nil" => first | ((fail_if_success have hzz := eLW33); (k_here; refine stuck_of ?_)) | fail
  k_with "exec Assign cons ListComp" => first | ((fail_if_success have hzz := eLW33); (k_here; k_dflt (first | refine Assign_2 (by k_asm) (by rfl) (by with_unfolding_all rfl) (by with_unfolding_all rfl) (by decide) (by rfl) (by decide) (by rfl) (by rfl) (by rfl) ?_ (by decide) (by intro _; rfl) (by intro _ _; rfl) | refine Assign_1 (by k_asm) (by rfl) (by with_unfolding_all rfl) (by with_unfolding_all rfl) (by decide) (by rfl) (by decide) (by rfl) (by rfl) ?_ (by intro _; rfl)))) | fail
  k_with "subscriptTail Name Constant ref int" => first | ((fail_if_success have hzz := eLW33); (k_here; k_dflt (first | refine m_list0 (by k_asm) (by k_mem) ?_ (by with_unfolding_all rfl) (by k_extra "c23") | refine m_tup0 (by k_asm) (by k_mem) ?_ (by with_unfolding_all rfl) (by k_extra "c23")))) | fail
  trivial
noncomputable def JT (l : Addr) (t : Tok) (led : Led) (kd : Str) (n : Nat) (m : Str → Option Value) (nw : Led) : Prop := m (Str.ofString "row") = some (.ref l) ∧ m (Str.ofString "kind") = some (.str kd t) ∧ led = nw ∧ n = 0
namespace Z
example : True := by
  k_with "eps" => first | ((fail_if_success have hzz := zLW36); skip) | fail
  trivial
set_option Elab.async true in
set_option maxHeartbeats 1000000 in
theorem lw_turn : ∀ (w : World) (mean : ExcName → Option Value) (mg : Str → Option Value) (mb : Str → Option Value) (P R : Addr) (row : List Int) (rvs : List Value) (rn : Nat) (hl : row.length ≤ 60) (hI : IntsAre rvs row) (plain : Bool) (p : Pp) (Dm : Nat) (hC : LWC w mean mg mb P R row rvs rn plain p) (hD : ppDepth p + 1 ≤ Dm) (hL : plen p ≤ 900) (v : Value) (b : Addr) (t : Tok) (n : Nat) (k : Nat) (o : Obj) (news : Led) (hP : PenD w o R k) (hne : ∀ q ∈ news, q.1 ≠ P) (hR : (R, listOf rvs.toArray rn) ∈ news) (hkk : k + sumC [p] ≤ 45000) (hv : (b, tupO [.str kTurn t, v] n) ∈ news) (hU : PpsAre news [v] [p]), Tri LAW hd.heap_39 w mean mg mb 311 [.ref P, .ref b, .bool plain] (Dm + 12) (80 * (Dm + 12)) ((P, o) :: news) (OutG w P R news o k (sumC [p]) (fun ws => ∃ w1, ws = lpar :: kTurn :: (w1 ++ [rpar]) ∧ PartsW plain [p] w1)) := by
  intro w mean mg mb P R row rvs rn hl hI plain p Dm hC hD hL v b t n k o news hP hne hR hkk hv hU
  k_extra "c11"
  clear hK
  w_top off
  unfold Tri
  k_extra "c14"
  refine wpAny_call ?_
  refine' code_defC ?k1 ?k2 ?k3 ?k4 ?k5 ?kA ?kF ?kK ?k6 ?k7 ?k8 ?k9 ?kB ?kD ?_ ?c2 ?c3 ?c4; (case kA => exact rfl); (case kF => exact rfl); (case kK => assumption); (case k1 => k_asm); (case k2 => k_asm); (case k3 => k_asm); (case k4 => k_asm); (case k5 => k_asm); (case k6 => k_is); (case k7 => k_is); (case k8 => ktr_room); (case k9 => exact BindsTo.of_eq rfl); (case kB => exact rfl); (case kD => decide +kernel); (case c2 => exact rfl); (case c3 => exact rfl); (case c4 => exact rfl); k_whole; intro g' L' h' tk' cells' FG' F' N' Y' B' X' T' l1; (try k_lt l1); k_cells Y'; (try simp only [List.cons_append, List.nil_append] at N'); (try dsimp only); (try k_fold)
  k_extra "c17"
  k_steps
  refine ⟨?_⟩
  refine While_inv (n₀ := 0) (JT _ t _ kTurn) (by k_asm) (by k_asm) ⟨rfl, rfl, rfl, rfl⟩ ?_
  intro n2 m₁ nw h₁ tk₁ F₁ N₁ hh9
  obtain ⟨hm1, hm2, rfl, rfl⟩ := hh9
  have hp9 := ppsAre_head hU
  rcases pp_join hp9 with hh9 | hh9
  obtain ⟨a9, t9, v9, u9, n9, p9, q9, rfl, hm9, rfl, _, _⟩ := hh9
  rotate_left
  k_extra "c111"
  rotate_left
  all_goals k_steps
  rotate_left
  · exact Bool.noConfusion (hk9.symm.trans (by assumption))
  all_goals (refine ⟨?_⟩)
  all_goals refine src_parts (P := P) (R := R) plain (by rfl) (by k_asm) (by k_asm) (by k_extra "c3") (by assumption) (by k_mem) (.inl ⟨_, rfl⟩) (PpsAre.mono hU (fun p hp => by simp only [List.mem_cons, List.mem_append, hp, true_or, or_true])) (by rfl) ?_ ?_
  · intro g9 ys9 nw9 o9 k9 tl9 ws9 e9 A9 P9 hk9 S9 W9
    subst e9
    have z9 := StrsAre.length S9
    have z8 := W9.len
    k_extra "c145"
    k_steps
    k_extra "c10"
    k_extra "c70"
    exact hret _ _ _ _ kF hN hO
  · intro i9 ys9 o9 k9 tl9 Next9 v9 p9 hp9 hI9 hk9 P9 A9 hyl9 hmem9 hn9 I9 oI9 C9 oC9 D9 m9 h9 tk9 E9 hC9 hx9 F9 N9 off9 ne9
    obtain rfl := List.mem_singleton.mp hmem9
    k_extra "c123"
    have c8 := sumC_take_at hp9
    k_extra "c137"
    k_extra "c65"
    k_steps
    k_extra "c31"
  · intro g9 ys9 nw9 o9 k9 tl9 ws9 e9 A9 P9 hk9 S9 W9
    subst e9
    have z9 := StrsAre.length S9
    have z8 := W9.len
    k_extra "c145"
    k_steps
    k_extra "c10"
    k_extra "c70"
    exact hret _ _ _ _ kF hN hO
  · intro i9 ys9 o9 k9 tl9 Next9 v9 p9 hp9 hI9 hk9 P9 A9 hyl9 hmem9 hn9 I9 oI9 C9 oC9 D9 m9 h9 tk9 E9 hC9 hx9 F9 N9 off9 ne9
    obtain rfl := List.mem_singleton.mp hmem9
    k_extra "c123"
    have c8 := sumC_take_at hp9
    k_extra "c137"
    k_extra "c65"
    k_steps
    k_extra "c31"
in #guard_msgs (drop info, drop warning) in open Nat
theorem zLW36 : True := trivial
end Z
theorem eLW33 : True := trivial
end Mine
-- LW4
namespace Mine
example : True := by
  k_with "fk" => first | ((fail_if_success have hzz := eLW41); (with_reducible (first | exact fk90 (by assumption) (by assumption) (by assumption) (by assumption) (by assumption) (by assumption) | exact fk91 (by assumption) (by assumption) (by assumption) (by assumption) | exact fk92 (by assumption) | exact fk93 (by assumption) (by assumption) (by assumption) (by assumption) (by assumption) | exact fk94 (by assumption) | exact fk95 (by assumption) | exact fk96 (by assumption) (by assumption) (by assumption) | exact fk97 (by assumption) (by assumption) (by assumption) | exact fk23 (by assumption) | exact fk98 (by assumption) (by assumption) (by assumption) | exact fk99 (by assumption) | exact fk24 (by assumption) | exact fk100 (by assumption) (by assumption) | exact fk101 (by assumption) (by assumption) | exact fk102 (by assumption) (by assumption)))) | fail
  trivial
theorem eq_strF {prog : Program} {w : World} {A : Around} {E : Value → Shared → Prop} {s : Shared} {x y : Str} {t u : Tok} {Q : Value → Shared → Prop} (e : (x == y) = false) (h : Q (.bool false) s) : wpAny (model prog w) A (compareOp .Eq (.str x t) (.str y u)) Q E s := eq_str (by rw [e]; exact h)
noncomputable def JJ (w : World) (P R : Addr) (rest : Led) (o : Obj) (k : Nat) (t : Tok) (orig : Pp) (Dm n : Nat) (m : Str → Option Value) (nw : Led) : Prop :=
  ∃ l v vs p qs o' k' tl c, m (Str.ofString "row") = some (.ref l) ∧ m (Str.ofString "kind") = some (.str kJoin t) ∧ n = spine p ∧ (P, o') :: (tl ++ rest) = nw ∧ (l, listOf (v :: vs).toArray c) ∈ tl ++ rest ∧ Above ((P, o) :: rest) tl ∧ PenD w o' R k' ∧
    IsPp rest v p ∧ PpsAre rest vs qs ∧ joinAll p qs = orig ∧ qs ≠ [] ∧ k' + sumC (p :: qs) + 1 ≤ k + cost orig ∧ sumL (p :: qs) ≤ plen orig ∧ vs.length + spine p ≤ 1000 ∧ ∀ x ∈ p :: qs, GoodPp x ∧ ppDepth x + 1 ≤ Dm
theorem plain_no {plain : Bool} {p : Prop} (h : plain = false) (e : plain = true) : p := by rw [h] at e; cases e
theorem Above.consR {P D : Addr} {o x : Obj} {rest tl tl' : Led} (h : @LT.lt Nat _ P D) (k : AllLt D (tl ++ rest)) (r : Above ((P, o) :: rest) tl') : Above ((P, o) :: rest) ((D, x) :: tl') :=
  Above.cons (fun q hq => by
    k_extra "c30"
    · exact Nat.ne_of_lt h
    · exact Nat.ne_of_lt (ktn_ltOf k q (List.mem_append_right _ hq))) r
set_option Elab.async true in
theorem jj_next {w : World} {P R D1 D2 D3 D4 : Addr} {rest tl : Led} {o o1 x2 x3 x4 : Obj} {k k1 Dm : Nat} {t : Tok} {orig p9 q9 : Pp} {qs : List Pp} {m : Str → Option Value} {v9 u9 : Value} {vs : List Value}
    (hm1 : m (Str.ofString "row") = some (.ref D1)) (hm2 : m (Str.ofString "kind") = some (.str kJoin t)) (h1 : @LT.lt Nat _ P D1) (k1' : AllLt D1 (tl ++ rest)) (h2 : @LT.lt Nat _ P D2) (k2 : AllLt D2 (tl ++ rest)) (h3 : @LT.lt Nat _ P D3) (k3 : AllLt D3 (tl ++ rest)) (h4 : @LT.lt Nat _ P D4) (k4 : AllLt D4 (tl ++ rest))
    (hab : Above ((P, o) :: rest) tl) (hP : PenD w o1 R k1) (hI : IsPp rest v9 p9) (hI' : IsPp rest u9 q9) (hU : PpsAre rest vs qs) (hj : joinAll (.join p9 q9) qs = orig) (hk : k1 + sumC (p9 :: q9 :: qs) + 1 ≤ k + cost orig) (hl : sumL (.join p9 q9 :: qs) ≤ plen orig)
    (hv : vs.length + spine (.join p9 q9) ≤ 1000) (hall : ∀ x ∈ Pp.join p9 q9 :: qs, GoodPp x ∧ ppDepth x + 1 ≤ Dm) :
    JJ w P R rest o k t orig Dm (spine p9) m ((P, o1) :: (D1, listOf ([v9, u9] ++ vs).toArray 0) :: (D2, x2) :: (D3, x3) :: (D4, x4) :: (tl ++ rest)) := by
  refine ⟨D1, v9, u9 :: vs, p9, q9 :: qs, o1, k1, (D1, listOf ([v9, u9] ++ vs).toArray 0) :: (D2, x2) :: (D3, x3) :: (D4, x4) :: tl, 0, hm1, hm2, rfl, rfl, .head _, Above.consR h1 k1' (Above.consR h2 k2 (Above.consR h3 k3 (Above.consR h4 k4 hab))), hP, hI, .cons hI' hU, hj, by simp, hk, ?_, ?_, ?_⟩
  · simp only [sumL, plen, List.map_cons, List.sum_cons] at hl ⊢; omega
  · simp only [spine, List.length_cons] at hv ⊢; omega
  · intro x hx
    have h0 := hall _ (.head _)
    simp only [GoodPp, ppDepth] at h0
    k_extra "c41"
    · exact ⟨h0.1.1, by omega⟩
    · rcases List.mem_cons.mp hx with rfl | hx
      · exact ⟨h0.1.2, by omega⟩
      · exact hall x (.tail _ hx)
in #guard_msgs (drop info, drop warning) in open Nat
theorem eLW41 : True := trivial
end Mine
namespace Mine
example : True := by
  k_with "fk" => first | ((fail_if_success have hzz := eLW43); (with_reducible (first | exact fk90 (by assumption) (by assumption) (by assumption) (by assumption) (by assumption) (by assumption) | exact fk91 (by assumption) (by assumption) (by assumption) (by assumption) | exact fk92 (by assumption) | exact fk93 (by assumption) (by assumption) (by assumption) (by assumption) (by assumption) | exact fk94 (by assumption) | exact fk95 (by assumption) | exact fk96 (by assumption) (by assumption) (by assumption) | exact fk97 (by assumption) (by assumption) (by assumption) | exact fk23 (by assumption) | exact fk98 (by assumption) (by assumption) (by assumption) | exact fk99 (by assumption) | exact fk24 (by assumption) | exact fk100 (by assumption) (by assumption) | exact fk101 (by assumption) (by assumption) | exact fk102 (by assumption) (by assumption)))) | fail
  trivial
open LCg
example : True := by
  k_with "k_all" => first | ((fail_if_success have hzz := eLW43); (first | with_reducible assumption | with_reducible exact List.forall_mem_nil _ | ((with_reducible refine List.forall_mem_cons.mpr ⟨?_, ?_⟩) <;> first | exact ne_ltR (by with_reducible assumption) | exact ne_ofR (by with_reducible assumption) (by k_mem) | exact ne_ofA (by with_reducible assumption) (by k_mem) | exact off3_I (by with_reducible assumption) (by k_mem) | exact off3_C (by with_reducible assumption) (by k_mem) | exact off3_D (by with_reducible assumption) (by k_mem) | exact Nat.ne_of_lt (by with_reducible assumption) | exact ne_ofL (by with_reducible assumption) (by k_mem) | exact ne_S (by with_reducible assumption) | exact ne_SS (by with_reducible assumption) | k_ne | k_all) | exact fun q hq => Nat.ne_of_lt (ktn_ltOf (by with_reducible assumption) q hq) | exact fun q hq => ne_allW (by with_reducible assumption) q (by k_mem) | ((with_reducible refine List.forall_mem_append.mpr ⟨?_, ?_⟩) <;> k_all) | exact fun p hp => Above.atW (by with_reducible assumption) (by k_mem) hp | exact fun q hq => Nat.ne_of_lt (ktn_ltOf (by assumption) q hq) | assumption)) | fail
  k_with "k_mem" => first | ((fail_if_success have hzz := eLW43); (first | ((repeat (first | exact List.Mem.head _ | apply List.Mem.tail | apply mem_inr | with_reducible assumption | assumption)); done) | exact mem_upW (by with_reducible assumption) (fun p hp => by (simp only [List.mem_cons, List.mem_append, hp, true_or, or_true]; done)))) | fail
  k_with "k_room" => first | ((fail_if_success have hzz := eLW43); (ktr_room)) | fail
  k_with "ktr_room" => first | ((fail_if_success have hzz := eLW43); (first | ((try dsimp only [ktrTop]); omega) | ((try dsimp only [ktrTop]); (simp only [tmDepth] at *); omega))) | fail
  k_with "ktr_units" => first | ((fail_if_success have hzz := eLW43); (first | ((try dsimp only [ktrTop]); omega) | ((try dsimp only [ktrTop]); (simp only [tmDepth] at *); omega))) | fail
  k_with "call ref" => first | ((fail_if_success have hzz := eLW43); (k_here; refine stuck_of ?_)) | fail
  k_with "callWith ref cons nil" => first | ((fail_if_success have hzz := eLW43); (k_here; k_dflt (first | (refine callWith_K0 (by k_in) (by k_is) ?_; k_whole) | (refine callWith_K (by k_asm) (by k_is) ?_; k_whole)))) | fail
  k_with "k_in" => first | ((fail_if_success have hzz := eLW43); (first | with_reducible assumption | with_reducible exact Frag.In.keeps (by with_reducible assumption) (Fr.keep (by with_reducible assumption)) | exact Frag.In.keeps (by k_asm) (Fr.keep (by k_asm)))) | fail
  k_with "Src2" => first | ((fail_if_success have hzz := eLW43); (k_here; refine stuck_of ?_)) | fail
  k_with "Src1" => first | ((fail_if_success have hzz := eLW43); (k_here; refine stuck_of ?_)) | fail
  k_with "eval ListComp" => first | ((fail_if_success have hzz := eLW43); (k_here; k_dflt (first | refine ListComp_2 (by k_asm) (by with_unfolding_all rfl) (by decide) (by rfl) (by decide) (by rfl) ?_ (by decide) (by intro _; rfl) (by intro _ _; rfl) | refine ListComp_1 (by k_asm) (by with_unfolding_all rfl) (by decide) (by rfl) (by decide) ?_ (by intro _; rfl)))) | fail
  k_with "CompRest2" => first | ((fail_if_success have hzz := eLW43); (k_dflt (refine comp2_succ ?_); intro qI9 qoI9 qC9 qoC9 qD9 qm9 qh9 qtk9 qE9 qhC9 qhG9 qF9 qN9 qoff9 qne9; obtain ⟨qv9, qhv9, qhx9⟩ := qhG9; (simp only [List.getElem?_toArray, List.getElem?_cons_zero, List.getElem?_cons_succ, Nat.zero_add, Option.some.injEq] at qhv9); subst qhv9)) | fail
  k_with "CompEnd2" => first | ((fail_if_success have hzz := eLW43); ((repeat (with_reducible rename _ ∧ _ => qhc9; obtain ⟨_, _⟩ := qhc9)); k_dflt (refine comp2_end (by k_asm) (by k_asm) (by k_extra "c3") (by k_extra "c3") (by k_extra "c3") (by k_extra "c6") (by k_extra "c13") (by k_mem) (by k_extra "c16") ?_); (try dsimp only); (try with_reducible_and_instances (refine comp2_zero ?_)); (try simp only [List.nil_append]))) | fail
  k_with "CompEnd1" => first | ((fail_if_success have hzz := eLW43); (refine stuck_of ?_)) | fail
  k_with "call ref" => first | ((fail_if_success have hzz := eLW43); (k_here; (with_reducible show wpAny _ _ (call (Value.ref 306) _) _ _ _); first | (k_dflt (refine tw_use (by k_asm) (by k_asm) (by k_asm) (by k_asm) (by k_asm) (by k_extra "c9") (IsTm.mono (by assumption) (fun p hp => by simp only [List.mem_cons, List.mem_append, hp, true_or, or_true])) (tw_tri _ _ _ _ _) (by omega) (by ktr_room) (by ktr_units) ?_); intro qD9 qvs9 qn9 qtl9 qh9 qtk9 qF9 qN9 qA9 qhD9 qhS9; (have qz9 := StrsAre.length qhS9); (try k_sweep); (try k_fold)) | refine stuck_of ?_)) | fail
  k_with "call ref" => first | ((fail_if_success have hzz := eLW43); (k_here; (with_reducible show wpAny _ _ (call (Value.ref 291) _) _ _ _); first | (k_dflt (refine draw_use (by k_asm) (by k_asm) (by k_asm) (by k_asm) (by k_asm) (by k_extra "c9") (by k_extra "c3") (by assumption) (by k_all) (by k_mem) (by assumption) (by assumption) (by decide) (by omega) (by ktr_room) (by ktr_units) ?_); intro qv9 qtk9 qo9 qh9 qtk9' qF9 qN9 qP9 qe9 qlo9 qhi9 qne9 qhR9; (try k_sweep); (try k_fold)) | refine stuck_of ?_)) | fail
  k_with "call ref" => first | ((fail_if_success have hzz := eLW43); (k_here; (with_reducible show wpAny _ _ (call (Value.ref 311) _) _ _ _); first | (k_dflt (refine lw_use (by k_asm) (by k_asm) (by k_asm) (by k_asm) (by k_asm) (by k_extra "c9") (by k_extra "c3") (by assumption) (by k_all) (by k_mem) (IsPp.mono (by assumption) (fun p hp => by simp only [List.mem_cons, List.mem_append, hp, true_or, or_true])) (by assumption) (by omega) (by omega) (by ktr_room) (by ktr_units) ?_); intro qD9 qvs9 qn9 qws9 qk9 qtl9 qo9 qh9 qtk9 qF9 qN9 qA9 qne9 qP9 qkk9 qhD9 qhS9 qsp9 qpl9; (have qz9 := StrsAre.length qhS9); (have qzl9 := spell_len qsp9); (try k_sweep); (try k_fold)) | refine stuck_of ?_)) | fail
  k_with "binaryOp Add ref ref" => first | ((fail_if_success have hzz := eLW43); (k_here; k_dflt (refine m_addL (by k_asm) (by k_asm) (by k_mem) (by k_mem) (by k_extra "c16") ?_); intro qD' qh' qF' qN' ql1; (try k_lt ql1); (try k_sweep))) | fail
  k_with "subscriptTail Name Slice ref ref" => first | ((fail_if_success have hzz := eLW43); (k_here; (with_reducible show wpAny _ _ (subscriptTail _ (PySem.Expr.Slice (some _) none none _) (Value.ref _) (Value.ref _)) _ _ _); k_dflt (refine m_tupFrom (by k_asm) (by k_asm) (by k_mem) (by simp) (by simp) (by k_extra "c33") ?_ (by with_unfolding_all rfl) (by k_extra "c23")); intro qD' qh' qF' qN' ql1; (try k_lt ql1); (try k_sweep))) | fail
  k_with "subscriptTail Name Slice ref ref" => first | ((fail_if_success have hzz := eLW43); (k_here; (with_reducible show wpAny _ _ (subscriptTail _ (PySem.Expr.Slice (some _) none none _) (Value.ref _) (Value.ref _)) _ _ _); k_dflt (first | (refine m_listFrom (by k_asm) (by k_asm) (by k_mem) (by omega) ?_ (by with_unfolding_all rfl) (by k_extra "c23")) | (refine m_tupFrom (by k_asm) (by k_asm) (by k_mem) (by simp) (by simp) (by k_extra "c33") ?_ (by with_unfolding_all rfl) (by k_extra "c23"))); intro qD' qh' qF' qN' ql1; (try k_lt ql1); (try k_sweep))) | fail
  k_with "subscriptTail Subscript Slice ref ref" => first | ((fail_if_success have hzz := eLW43); (k_here; (with_reducible show wpAny _ _ (subscriptTail _ (PySem.Expr.Slice (some _) none none _) (Value.ref _) (Value.ref _)) _ _ _); k_dflt (refine m_tupFrom (by k_asm) (by k_asm) (by k_mem) (by simp) (by simp) (by k_extra "c33") ?_ (by with_unfolding_all rfl) (by k_extra "c23")); intro qD' qh' qF' qN' ql1; (try k_lt ql1); (try k_sweep))) | fail
  k_with "subscriptTail Name Slice ref ref" => first | ((fail_if_success have hzz := eLW43); (k_here; (with_reducible show wpAny _ _ (subscriptTail _ (PySem.Expr.Slice none none (some _) _) (Value.ref _) (Value.ref _)) _ _ _); k_dflt (refine m_rev (by k_asm) (by k_asm) (by k_mem) (by omega) ?_ (by with_unfolding_all rfl) (by k_extra "c23")); intro qD' qh' qF' qN' ql1; (try k_lt ql1); (try k_sweep))) | fail
  k_with "call type:list cons nil" => first | ((fail_if_success have hzz := eLW43); (k_here; k_dflt (refine m_listT (by k_asm) (by k_asm) (by k_mem) (by k_extra "c60") ?_); intro qD' qc' qh' qF' qN' ql1; (try k_lt ql1); (try k_sweep))) | fail
  k_with "eval Name" => first | ((fail_if_success have hzz := eLW43); (k_here; (with_reducible show wpAny _ _ (eval (PySem.Expr.Name _ _) (envOfC _ _ _ _ _)) _ _ _); k_dflt (refine ldLC (by k_asm) (by assumption) ?_ (by rfl) (by rfl) (by decide)))) | fail
  k_with "exec While" => first | ((fail_if_success have hzz := eLW43); (k_here; refine stuck_of ?_)) | fail
  k_with "exec While BoolOp" => first | ((fail_if_success have hzz := eLW43); (k_here; refine stuck_of ?_)) | fail
  k_with "exec While BoolOp cons" => first | ((fail_if_success have hzz := eLW43); (k_here; refine stuck_of ?_)) | fail
  k_with "exec While BoolOp cons nil" => first | ((fail_if_success have hzz := eLW43); (k_here; refine stuck_of ?_)) | fail
  k_with "exec Assign cons ListComp" => first | ((fail_if_success have hzz := eLW43); (k_here; k_dflt (first | refine Assign_2 (by k_asm) (by rfl) (by with_unfolding_all rfl) (by with_unfolding_all rfl) (by decide) (by rfl) (by decide) (by rfl) (by rfl) (by rfl) ?_ (by decide) (by intro _; rfl) (by intro _ _; rfl) | refine Assign_1 (by k_asm) (by rfl) (by with_unfolding_all rfl) (by with_unfolding_all rfl) (by decide) (by rfl) (by decide) (by rfl) (by rfl) ?_ (by intro _; rfl)))) | fail
  k_with "subscriptTail Name Constant ref int" => first | ((fail_if_success have hzz := eLW43); (k_here; k_dflt (first | refine m_list0 (by k_asm) (by k_mem) ?_ (by with_unfolding_all rfl) (by k_extra "c23") | refine m_tup0 (by k_asm) (by k_mem) ?_ (by with_unfolding_all rfl) (by k_extra "c23")))) | fail
  k_with "compareOp Eq str str" => first | ((fail_if_success have hzz := eLW43); (k_here; with_reducible (refine eq_strF (by k_dflt assumption) ?_))) | fail
  trivial
namespace Z
example : True := by
  k_with "eps" => first | ((fail_if_success have hzz := zLW46); skip) | fail
  trivial
set_option Elab.async true in
set_option maxHeartbeats 1000000 in
theorem lw_join : ∀ (w : World) (mean : ExcName → Option Value) (mg : Str → Option Value) (mb : Str → Option Value) (P R : Addr) (row : List Int) (rvs : List Value) (rn : Nat) (hl : row.length ≤ 60) (hI : IntsAre rvs row) (plain : Bool) (p q : Pp) (Dm : Nat) (hC : ∀ x, GoodPp x → ppDepth x + 1 ≤ Dm → LWC w mean mg mb P R row rvs rn plain x) (hD : (GoodPp p ∧ ppDepth p + 1 ≤ Dm) ∧ GoodPp q ∧ ppDepth q + 1 ≤ Dm) (hDm : Dm ≤ 900) (hL : plen (.join p q) ≤ 900) (v u : Value) (b : Addr) (t : Tok) (n : Nat) (k : Nat) (o : Obj) (news : Led) (hP : PenD w o R k) (hne : ∀ q ∈ news, q.1 ≠ P) (hR : (R, listOf rvs.toArray rn) ∈ news) (hkk : k + cost (.join p q) ≤ 45000) (hv : (b, tupO [.str kJoin t, v, u] n) ∈ news) (hp : IsPp news v p) (hq : IsPp news u q), Tri LAW hd.heap_39 w mean mg mb 311 [.ref P, .ref b, .bool plain] (Dm + 12) (80 * (Dm + 12)) ((P, o) :: news) (OutG w P R news o k (cost (.join p q)) (fun ws => ∃ w1, ws = lpar :: kJoin :: (w1 ++ [rpar]) ∧ Spell true (.join p q) w1 ∧ (plain = true → w1 = ppW true (.join p q)))) := by
  intro w mean mg mb P R row rvs rn hl hI plain p q Dm hC hD hDm hL v u b t n k o news hP hne hR hkk hv hp hq
  k_extra "c11"
  clear hK
  w_top off
  unfold Tri
  k_extra "c14"
  refine wpAny_call ?_
  refine' code_defC ?k1 ?k2 ?k3 ?k4 ?k5 ?kA ?kF ?kK ?k6 ?k7 ?k8 ?k9 ?kB ?kD ?_ ?c2 ?c3 ?c4; (case kA => exact rfl); (case kF => exact rfl); (case kK => assumption); (case k1 => k_asm); (case k2 => k_asm); (case k3 => k_asm); (case k4 => k_asm); (case k5 => k_asm); (case k6 => k_is); (case k7 => k_is); (case k8 => ktr_room); (case k9 => exact BindsTo.of_eq rfl); (case kB => exact rfl); (case kD => decide +kernel); (case c2 => exact rfl); (case c3 => exact rfl); (case c4 => exact rfl); k_whole; intro g' L' h' tk' cells' FG' F' N' Y' B' X' T' l1; (try k_lt l1); k_cells Y'; (try simp only [List.cons_append, List.nil_append] at N'); (try dsimp only); (try k_fold)
  k_extra "c17"
  k_steps
  refine ⟨?_⟩
  have hsp := spine_le p
  refine While_inv (n₀ := spine p) (JJ w P R _ o k t (.join p q) Dm) (by k_asm) (News.sub (by k_asm) (Pick.sub (by k_extra "c3"))) ⟨_, v, [u], p, [q], o, k, [], _, rfl, rfl, rfl, rfl, by k_mem, Above.nil, hP, IsPp.mono hp (fun p hp => by simp only [List.mem_cons, List.mem_append, hp, true_or, or_true]), .cons (IsPp.mono hq (fun p hp => by simp only [List.mem_cons, List.mem_append, hp, true_or, or_true])) .nil, rfl, by simp, by simp only [sumC, cost, List.map_cons, List.map_nil, List.sum_cons, List.sum_nil]; omega, by simp only [sumL, plen, List.map_cons, List.map_nil, List.sum_cons, List.sum_nil]; omega, by simp only [List.length_cons, List.length_nil]; omega, fun x hx => by
    k_extra "c41"
    · exact hD.1
    · obtain rfl := List.mem_singleton.mp hx; exact hD.2⟩ ?_
  intro n2 m₁ nw h₁ tk₁ F₁ N₁ hh9
  obtain ⟨l, v', vs, p', qs, o1, k1, tl, c, hm1, hm2, rfl, rfl, hml, hab, hP1, hI1, hU1, hj, hqs, hk1, hl1, hvl, hall⟩ := hh9
  have hneT := fun x hx => hab.ne x hx
  rcases pp_join hI1 with hh9 | hh9
  obtain ⟨a9, t9, v9, u9, n9, p9, q9, rfl, hm9, rfl, hI9, hI8⟩ := hh9
  rotate_left
  k_extra "c111"
  rotate_left
  · have hcc : sumC (p9.join q9 :: qs) = sumC (p9 :: q9 :: qs) + 1 := by simp only [sumC, cost, List.map_cons, List.sum_cons]; omega
    k_steps
    rotate_right
    · refine ⟨?_⟩
      k_extra "c73"
      · intro g9 ys9 nw9 o9 k9 tl9 ws9 e9 A9 P9 hk9 S9 W9
        subst e9
        have z9 := StrsAre.length S9
        have z8 := W9.len
        have zr := parts_row _ rfl W9
        rw [hj] at zr
        have zr1 := zr.1 hqs
        have zr2 := zr.2
        clear zr
        k_steps
        k_extra "c10"
        obtain ⟨nw, hN, hO⟩ := outG_end (w := w) (P := P) (R := R) (news := news) (o := o) (k := k) (c := cost (.join p q)) (W := fun ws => ∃ w1, ws = lpar :: kJoin :: (w1 ++ [rpar]) ∧ Spell true (.join p q) w1 ∧ (plain = true → w1 = ppW true (.join p q))) kN (by k_extra "c3") (by k_extra "c8") (by k_extra "c2") (by assumption) (by omega) (by k_extra "c122") (.cons _ _ (.cons _ _ (StrsAre.append (by assumption) (.cons _ _ .nil)))) ⟨_, rfl, zr1, fun e => plain_no (by assumption) e⟩
        exact hret _ _ _ _ kF hN hO
      · intro i9 ys9 o9 k9 tl9 Next9 v9 p9 hp9 hI9 hk9 P9 A9 hyl9 hmem9 hn9 I9 oI9 C9 oC9 D9 m9 h9 tk9 E9 hC9 hx9 F9 N9 off9 ne9
        have C8 := hC p9 (hall p9 hmem9).1 (hall p9 hmem9).2
        have d8 := (hall p9 hmem9).2
        have c8 := sumC_take_at hp9
        have l8 := sumL_mem hmem9
        k_extra "c65"
        k_steps
        k_extra "c31"
    k_extra "c143"
    all_goals exact WhileStep.intro (by k_asm) (News.sub (by k_asm) (Pick.sub (by k_extra "c3"))) (n' := spine p9) (by simp only [spine]; omega) (jj_next (by rfl) (by assumption) (by with_reducible assumption) (by with_reducible assumption) (by with_reducible assumption) (by with_reducible assumption) (by with_reducible assumption) (by with_reducible assumption) (by with_reducible assumption) (by with_reducible assumption) hab (by assumption) hI9 hI8 hU1 hj (by omega) hl1 hvl hall)
  · k_steps
    refine ⟨?_⟩
    k_extra "c73"
    · intro g9 ys9 nw9 o9 k9 tl9 ws9 e9 A9 P9 hk9 S9 W9
      subst e9
      have z9 := StrsAre.length S9
      have z8 := W9.len
      have zr := parts_row _ rfl W9
      rw [hj] at zr
      have zr1 := zr.1 hqs
      have zr2 := zr.2
      clear zr
      k_steps
      k_extra "c10"
      obtain ⟨nw, hN, hO⟩ := outG_end (w := w) (P := P) (R := R) (news := news) (o := o) (k := k) (c := cost (.join p q)) (W := fun ws => ∃ w1, ws = lpar :: kJoin :: (w1 ++ [rpar]) ∧ Spell true (.join p q) w1 ∧ (plain = true → w1 = ppW true (.join p q))) kN (by k_extra "c3") (by k_extra "c8") (by k_extra "c2") (by assumption) (by omega) (by k_extra "c122") (.cons _ _ (.cons _ _ (StrsAre.append (by assumption) (.cons _ _ .nil)))) ⟨_, rfl, zr1, fun e => zr2 e hj9⟩
      exact hret _ _ _ _ kF hN hO
    · intro i9 ys9 o9 k9 tl9 Next9 v9 p9 hp9 hI9 hk9 P9 A9 hyl9 hmem9 hn9 I9 oI9 C9 oC9 D9 m9 h9 tk9 E9 hC9 hx9 F9 N9 off9 ne9
      have C8 := hC p9 (hall p9 hmem9).1 (hall p9 hmem9).2
      have d8 := (hall p9 hmem9).2
      have c8 := sumC_take_at hp9
      have l8 := sumL_mem hmem9
      k_extra "c65"
      k_steps
      k_extra "c31"
in #guard_msgs (drop info, drop warning) in open Nat
theorem zLW46 : True := trivial
end Z
theorem eLW43 : True := trivial
end Mine
-- LW5
namespace Mine
example : True := by
  k_with "omega" => first | ((fail_if_success have hzz := eLW51); (first | k_extra "ub" | (simp +arith only; done) | k_extra "fk" | lia | omega (config := {}))) | fail
  trivial
example : True := by
  k_with "fk" => first | ((fail_if_success have hzz := eLW51); (with_reducible (first | exact fk103 (by assumption) | exact fk104 (by assumption) (by assumption) | exact fk105 | exact fk106 (by assumption) | exact fk107 | exact fk108 (by assumption) | exact fk109 (by assumption) (by assumption)))) | fail
  trivial
theorem Tri.mono {K : Params → Frag} {w : World} {mean : ExcName → Option Value} {mg mb : Str → Option Value} {f : Addr} {args : List Value} {rm um : Nat} {news : Led} {Out Out' : Value → Led → Prop} (h : Tri LAW K w mean mg mb f args rm um news Out) (k : ∀ r nw, Out r nw → Out' r nw) : Tri LAW K w mean mg mb f args rm um news Out' :=
  fun dp un gd cn cs a ccd cl outer A₀ base h₀ L m s Q E B F X N T hk hd hu hret => h dp un gd cn cs a ccd cl outer A₀ base h₀ L m s Q E B F X N T hk hd hu fun r nw h' tk' F' N' o => hret r nw h' tk' F' N' (k r nw o)
theorem outG_lw {w : World} {P R : Addr} {news : Led} {o : Obj} {k c : Nat} {W : List Str → Prop} {plain : Bool} {p : Pp} {r : Value} {nw : Led} (h : OutG w P R news o k c W r nw) (hc : c ≤ cost p) (hW : ∀ ws, W ws → Spell false p ws ∧ (plain = true → ws = ppW false p)) : LWOut w P R news o k plain p r nw := by
  obtain ⟨D, vs, n, ws, k', tl, o', rfl, rfl, hA, hP, hk, hD, hS, hw⟩ := h
  exact ⟨D, vs, n, ws, k', tl, o', rfl, rfl, hA, hP, by omega, hD, hS, (hW ws hw).1, (hW ws hw).2⟩
set_option Elab.async true in
theorem lw_all (w : World) (mean mg mb) (P R : Addr) (row : List Int) (rvs : List Value) (rn : Nat) (hl : row.length ≤ 60) (hI : IntsAre rvs row) (plain : Bool) : ∀ (d : Nat) (p : Pp), ppDepth p ≤ d → d ≤ 900 → GoodPp p → LWC w mean mg mb P R row rvs rn plain p := by
  intro d
  induction d with
  | zero =>
    intro p hp _ g k v o news hkk hP hne hR hv hlen
    cases hv with
    | told hm e =>
      subst e
      exact Tri.mono (lw_told w mean mg mb P R row rvs rn hl hI plain _ _ _ _ _ k o news hP hne hR hm) fun r nw h => outG_lw h (Nat.le_refl _) (fun ws e => by subst e; exact ⟨.told, fun _ => rfl⟩)
    | same hm e hx =>
      subst e
      exact Tri.mono (lw_same w mean mg mb P R row rvs rn hl hI plain _ g.2 (by simp only [plen] at hlen; omega) _ _ _ _ k o news hP hne hR hm hx) fun r nw h => outG_lw h (Nat.le_refl _) (fun ws e => by subst e; exact ⟨.same, fun _ => rfl⟩)
    | @rule a b kd l t u n n' vs ps hm e hb hr =>
      subst e
      refine Tri.mono (lw_rule w mean mg mb P R row rvs rn hl hI plain l vs ps (fun x hx => ?_) (by simp only [plen] at hlen; omega) _ _ _ _ _ _ k o news hP hne hR (by simpa only [cost] using hkk) hm hb hr) fun r nw h => outG_lw h (Nat.le_refl _) (fun ws e => ?_)
      · rcases g.2 with rfl | ⟨t, ⟨_, g2⟩, rfl⟩ | ⟨t, t', ⟨_, g2⟩, ⟨_, g4⟩, rfl⟩
        · cases hx
        · obtain rfl := List.mem_singleton.mp hx; exact g2
        · rcases List.mem_cons.mp hx with rfl | hx
          · exact g2
          · obtain rfl := List.mem_singleton.mp hx; exact g4
      · obtain ⟨qs, hq, rfl⟩ := e
        rcases hq with rfl | ⟨e, rfl⟩
        · exact ⟨.rule, fun _ => rfl⟩
        · exact ⟨.ruleR, fun e' => plain_no e e'⟩
    | turn _ _ _ => simp [ppDepth] at hp
    | join _ _ _ _ => simp [ppDepth] at hp
    | under0 hm e hb =>
      subst e
      refine Tri.mono (lw_under w mean mg mb P R row rvs rn hl hI plain _ [] [] 0 (fun q hq => by cases hq) (fun q hq => by cases hq) (by simp [sumL]) _ _ _ _ _ _ k o news hP hne hR (by simpa [sumC, cost] using hkk) hm hb .nil) fun r nw h => outG_lw h (Nat.le_refl _) (fun ws e => ?_)
      obtain ⟨w1, rfl, hw⟩ := e
      rw [PartsW.zero hw]
      exact ⟨.under0, fun _ => rfl⟩
    | under1 _ _ _ _ => simp [ppDepth] at hp
    | under2 _ _ _ _ _ => simp [ppDepth] at hp
  | succ d ih =>
    intro p hp hd g k v o news hkk hP hne hR hv hlen
    by_cases hp' : ppDepth p ≤ d
    · exact ih p hp' (by omega) g k v o news hkk hP hne hR hv hlen
    cases hv with
    | told hm e => simp [ppDepth] at hp'
    | same hm e hx => simp [ppDepth] at hp'
    | rule hm e hb hr => simp [ppDepth] at hp'
    | under0 hm e hb => simp [ppDepth] at hp'
    | @turn a kd t n v p hm e hx =>
      subst e
      simp only [ppDepth] at hp
      refine Tri.mono (lw_turn w mean mg mb P R row rvs rn hl hI plain p (ppDepth p + 1) (ih p (by omega) (by omega) g) (Nat.le_refl _) (by simp only [plen] at hlen; omega) v _ _ _ k o news hP hne hR (by simpa [sumC, cost] using hkk) hm (.cons hx .nil)) fun r nw h => outG_lw h (by simp [sumC, cost]) (fun ws e => ?_)
      obtain ⟨w1, rfl, hw⟩ := e
      exact ⟨.turn hw.one.1, fun e => by rw [hw.one.2 e]; rfl⟩
    | @join a kd t n v u p q hm e hx hy =>
      subst e
      simp only [ppDepth] at hp
      refine Tri.mono (lw_join w mean mg mb P R row rvs rn hl hI plain p q (ppDepth (.join p q)) (fun x gx hx => ih x (by simp only [ppDepth] at hx; omega) (by omega) gx) ⟨⟨g.1, by simp only [ppDepth]; omega⟩, g.2, by simp only [ppDepth]; omega⟩ (by simp only [ppDepth]; omega) hlen v u _ _ _ k o news hP hne hR hkk hm hx hy) fun r nw h => outG_lw h (Nat.le_refl _) (fun ws e => ?_)
      obtain ⟨w1, rfl, hw, hw'⟩ := e
      exact ⟨.join hw, fun e => by rw [hw' e]; rfl⟩
    | @under1 a b kd l t u n n' v p hm e hb hx =>
      subst e
      simp only [ppDepth] at hp
      refine Tri.mono (lw_under w mean mg mb P R row rvs rn hl hI plain l [v] [p] (ppDepth (.under1 l p)) (fun q hq => ?_) (fun q hq => ?_) (by simp only [plen] at hlen; simp [sumL]; omega) _ _ _ _ _ _ k o news hP hne hR (by simpa [sumC, cost] using hkk) hm hb (.cons hx .nil)) fun r nw h => outG_lw h (by simp [sumC, cost]) (fun ws e => ?_)
      · obtain rfl := List.mem_singleton.mp hq; exact ih _ (by omega) (by omega) g.2
      · obtain rfl := List.mem_singleton.mp hq; exact Nat.le_refl _
      · obtain ⟨w1, rfl, hw⟩ := e
        exact ⟨.under1 hw.one.1, fun e => by rw [hw.one.2 e]; rfl⟩
    | @under2 a b kd l t u n n' v z p q hm e hb hx hy =>
      subst e
      simp only [ppDepth] at hp
      refine Tri.mono (lw_under w mean mg mb P R row rvs rn hl hI plain l [v, z] [p, q] (ppDepth (.under2 l p q)) (fun x hq => ?_) (fun x hq => ?_) (by simp only [plen] at hlen; simp [sumL]; omega) _ _ _ _ _ _ k o news hP hne hR (by simpa [sumC, cost] using hkk) hm hb (.cons hx (.cons hy .nil))) fun r nw h => outG_lw h (by simp [sumC, cost]) (fun ws e => ?_)
      · rcases List.mem_cons.mp hq with rfl | hq
        · exact ih _ (by omega) (by omega) g.2.1
        · k_extra "c151"
      · rcases List.mem_cons.mp hq with rfl | hq
        · simp only [ppDepth]; omega
        · obtain rfl := List.mem_singleton.mp hq; simp only [ppDepth]; omega
      · obtain ⟨w1, rfl, hw⟩ := e
        obtain ⟨wa, wb, rfl, ha, hb, hab⟩ := hw.two
        refine ⟨?_, fun e => ?_⟩
        · have := Spell.under2 (l := l) ha hb
          simpa using this
        · rw [(hab e).1, (hab e).2]; simp [ppW]
in #guard_msgs (drop info, drop warning) in open Nat
theorem eLW51 : True := trivial
end Mine
-- PL4
namespace Mine
example : True := by
  k_with "omega" => first | ((fail_if_success have hzz := ePL41); (first | k_extra "ub" | (simp +arith only; done) | k_extra "fk" | lia | omega (config := {}))) | fail
  trivial
example : True := by
  k_with "fk" => first | ((fail_if_success have hzz := ePL41); (with_reducible (first | exact fk110 (by assumption) | exact fk45 (by assumption) | exact fk111 (by assumption) | exact fk112 (by assumption) | exact fk113 (by assumption) (by assumption) | exact fk114 (by assumption) (by assumption) | exact fk115 (by assumption) (by assumption) (by assumption)))) | fail
  trivial
noncomputable def cl (s : Str) : List Nat := s.cps.toList
theorem cl_app (a b : Str) : cl (a ++ b) = cl a ++ cl b := Array.toList_append
theorem cl_len (a : Str) : (cl a).length = a.cps.size := Array.length_toList
theorem cl_inj {a b : Str} (h : cl a = cl b) : a = b := by
  cases a; cases b; simp only [cl] at h; rw [Array.toList_inj.mp h]
theorem size_app (a b : Str) : (a ++ b).cps.size = a.cps.size + b.cps.size := by rw [← cl_len, cl_app, List.length_append, cl_len, cl_len]
inductive Pc where
  | gap (s : Str)
  | wd (s : Str)
noncomputable def rnd : List Pc → List Nat
  | [] => []
  | Pc.gap s :: r => cl s ++ rnd r
  | Pc.wd s :: r => cl s ++ rnd r
noncomputable def posn : Nat → List Pc → Toks
  | _, [] => []
  | k, Pc.gap s :: r => posn (k + s.cps.size) r
  | k, Pc.wd s :: r => (s, k) :: posn (k + s.cps.size) r
noncomputable def wds : List Pc → List Str
  | [] => []
  | Pc.gap _ :: r => wds r
  | Pc.wd s :: r => s :: wds r
noncomputable def gapC (c : Nat) : Bool := !okC c && !punctC c && Txt.isspace ⟨#[c]⟩
noncomputable def Sq : Bool → List Pc → Prop
  | _, [] => True
  | b, Pc.gap s :: r => (∀ c ∈ cl s, gapC c = true) ∧ Sq (b && (cl s).isEmpty) r
  | b, Pc.wd s :: r => (isOpS s = true ∧ b = false ∧ Sq true r) ∨ ((s = lpar ∨ s = rpar) ∧ Sq false r)
theorem rnd_app : ∀ (a b : List Pc), rnd (a ++ b) = rnd a ++ rnd b
  | [], _ => rfl
  | Pc.gap s :: a, b => by simp only [List.cons_append, rnd, rnd_app a b, List.append_assoc]
  | Pc.wd s :: a, b => by simp only [List.cons_append, rnd, rnd_app a b, List.append_assoc]
theorem posn_app : ∀ (a b : List Pc) (k : Nat), posn k (a ++ b) = posn k a ++ posn (k + (rnd a).length) b
  | [], _, _ => rfl
  | Pc.gap s :: a, b, k => by simp only [List.cons_append, rnd, posn, posn_app a b, List.length_append, cl_len, Nat.add_assoc]
  | Pc.wd s :: a, b, k => by simp only [List.cons_append, rnd, posn, posn_app a b, List.length_append, cl_len, Nat.add_assoc]
theorem wds_app : ∀ (a b : List Pc), wds (a ++ b) = wds a ++ wds b
  | [], _ => rfl
  | Pc.gap s :: a, b => by simp only [List.cons_append, wds, wds_app a b]
  | Pc.wd s :: a, b => by simp only [List.cons_append, wds, wds_app a b]
theorem posn_wds : ∀ (a : List Pc) (k : Nat), (posn k a).map Prod.fst = wds a
  | [], _ => rfl
  | Pc.gap s :: a, k => by simp only [posn, wds, posn_wds a]
  | Pc.wd s :: a, k => by simp only [posn, wds, posn_wds a, List.map_cons]
theorem posn_len (a : List Pc) (k : Nat) : (posn k a).length = (wds a).length := by rw [← posn_wds a k, List.length_map]
theorem Sq.mono : ∀ {ps : List Pc}, Sq true ps → Sq false ps
  | [], _ => trivial
  | Pc.gap s :: r, h => ⟨h.1, by
    have := h.2
    cases e : (cl s).isEmpty
    · rw [e] at this; exact this
    · rw [e] at this; exact Sq.mono this⟩
  | Pc.wd s :: r, h => h.elim (fun h => absurd h.2.1 (by decide)) .inr
theorem Sq.any {b : Bool} {ps : List Pc} (h : Sq true ps) : Sq b ps := by cases b; exact h.mono; exact h
theorem Sq.app : ∀ {a : List Pc} {b : Bool} {q : List Pc}, Sq b a → Sq true q → Sq b (a ++ q)
  | [], _, _, _, k => k.any
  | Pc.gap s :: a, b, q, h, k => ⟨h.1, Sq.app h.2 k⟩
  | Pc.wd s :: a, b, q, h, k => h.elim (fun h => .inl ⟨h.1, h.2.1, Sq.app h.2.2 k⟩) (fun h => .inr ⟨h.1, Sq.app h.2 k⟩)
theorem Sq.left : ∀ {a : List Pc} {b : Bool} {q : List Pc}, Sq b (a ++ q) → Sq b a
  | [], _, _, _ => trivial
  | Pc.gap s :: a, b, q, h => ⟨h.1, Sq.left h.2⟩
  | Pc.wd s :: a, b, q, h => h.elim (fun h => .inl ⟨h.1, h.2.1, Sq.left h.2.2⟩) (fun h => .inr ⟨h.1, Sq.left h.2⟩)
noncomputable def endB : Bool → List Pc → Bool
  | b, [] => b
  | b, Pc.gap s :: r => endB (b && (cl s).isEmpty) r
  | _, Pc.wd s :: r => endB (!(s == lpar || s == rpar)) r
theorem op_lpar {s : Str} (h : isOpS s = true) : (s == lpar) = false := by
  have := ne_lpar h; rw [bne_iff_ne] at this; exact beq_eq_false_iff_ne.mpr this
theorem op_rpar {s : Str} (h : isOpS s = true) : (s == rpar) = false := by
  have := ne_rpar h; rw [bne_iff_ne] at this; exact beq_eq_false_iff_ne.mpr this
theorem Sq.snoc : ∀ {a : List Pc} {b : Bool} {q : List Pc}, Sq b a → Sq (endB b a) q → Sq b (a ++ q)
  | [], _, _, _, k => k
  | Pc.gap s :: a, b, q, h, k => ⟨h.1, Sq.snoc h.2 k⟩
  | Pc.wd s :: a, b, q, h, k => by
    rcases h with ⟨h1, h2, h3⟩ | ⟨h1, h2⟩
    · exact .inl ⟨h1, h2, Sq.snoc h3 (by simpa only [endB, op_lpar h1, op_rpar h1, Bool.or_self, Bool.not_false] using k)⟩
    · refine .inr ⟨h1, Sq.snoc h2 ?_⟩
      have e : (s == lpar || s == rpar) = true := by rcases h1 with rfl | rfl <;> decide +kernel
      simpa only [endB, e, Bool.not_true] using k
theorem endB_app : ∀ (a : List Pc) (b : Bool) (q : List Pc), endB b (a ++ q) = endB (endB b a) q
  | [], _, _ => rfl
  | Pc.gap s :: a, b, q => by simp only [List.cons_append, endB, endB_app a]
  | Pc.wd s :: a, b, q => by simp only [List.cons_append, endB, endB_app a]
theorem cps_of {t : Str} {l : List Nat} (h : cl t = l) : t.cps = l.toArray := by rw [← h]; simp [cl]
theorem getD_at {t : Str} {pre rest : List Nat} {c : Nat} (h : cl t = pre ++ c :: rest) : t.cps.getD pre.length 0 = c := by
  rw [cps_of h]; simp [Array.getD_eq_getD_getElem?]
theorem getD_in {t : Str} {pre mid rest : List Nat} (h : cl t = pre ++ (mid ++ rest)) {k : Nat} (h1 : pre.length ≤ k) (h2 : k < pre.length + mid.length) : t.cps.getD k 0 ∈ mid := by
  rw [cps_of h]
  simp only [Array.getD_eq_getD_getElem?, List.getElem?_toArray]
  rw [List.getElem?_append_right h1, List.getElem?_append_left (by omega), List.getElem?_eq_getElem (by omega)]
  exact List.getElem_mem _
theorem laid_gap {t : Str} {ws : Toks} : ∀ (l pre rest : List Nat), (∀ c ∈ l, gapC c = true) → cl t = pre ++ (l ++ rest) → Laid t (pre.length + l.length) ws → Laid t pre.length ws
  | [], _, _, _, _, k => k
  | c :: l, pre, rest, h, e, k => by
    have hc := h c (.head _)
    unfold gapC at hc
    simp only [Bool.and_eq_true, Bool.not_eq_true'] at hc
    have g := getD_at (t := t) (pre := pre) (rest := l ++ rest) (c := c) (by rw [e]; rfl)
    have z : pre.length < t.cps.size := by rw [← cl_len, e]; simp
    refine Laid.space z (by rw [g]; exact hc.1.1) (by rw [g]; exact hc.1.2) (by unfold sgn; rw [g]; exact hc.2) ?_
    have := laid_gap (ws := ws) l (pre ++ [c]) rest (fun c hc => h c (.tail _ hc)) (by rw [e]; simp) (by simpa [Nat.add_assoc, Nat.add_comm 1] using k)
    simpa using this
theorem sq_head : ∀ {r : List Pc} {c : Nat} {l : List Nat}, Sq true r → rnd r = c :: l → okC c = false
  | [], _, _, _, h => nomatch h
  | Pc.gap s :: r, c, l, h, e => by
    simp only [rnd] at e
    cases hs : cl s with
    | nil => rw [hs] at e; have h2 := h.2; rw [hs] at h2; exact sq_head h2 e
    | cons c' l' =>
      rw [hs] at e; cases e
      have := h.1 c (by rw [hs]; exact .head _)
      unfold gapC at this
      simp only [Bool.and_eq_true, Bool.not_eq_true'] at this
      exact this.1.1
  | Pc.wd s :: r, c, l, h, e => by
    rcases h with h | ⟨rfl | rfl, _⟩
    · exact absurd h.2.1 (by decide)
    · simp only [rnd] at e; have : cl lpar = [40] := by decide +kernel
      rw [this] at e; cases e; decide +kernel
    · simp only [rnd] at e; have : cl rpar = [41] := by decide +kernel
      rw [this] at e; cases e; decide +kernel
set_option Elab.async true in
theorem slice_rng (t : Str) (i j : Nat) (hij : i ≤ j) (hj : j ≤ t.cps.size) : cl (Txt.slice t (some i) (some j)) = (cl t).extract i j := by
  have e : Builtin.Str.strSliceIndices (some (i : Int)) (some (j : Int)) 1 t.cps.size = (List.range (j - i)).map fun k => i + k := by
    unfold Builtin.Str.strSliceIndices sliceRange
    simp only [show (1 : Int) > 0 by decide, if_true, Int.ediv_one]
    have h1 : ¬ ((i : Int) < 0) := by omega
    have h2 : ¬ ((j : Int) < 0) := by omega
    rw [if_neg h1, if_neg h2]
    have m1 : max 0 (min (i : Int) (t.cps.size : Int)) = i := by omega
    have m2 : max 0 (min (j : Int) (t.cps.size : Int)) = j := by omega
    rw [m1, m2]
    have n : (if (i : Int) < j then (j : Int) - i + 1 - 1 else 0).toNat = j - i := by split <;> omega
    rw [n]
    refine List.map_congr_left fun k _ => by omega
  have hx : ∀ (l : List Nat) (a b : Nat), a ≤ b → b ≤ l.length → List.filterMap (fun k => l[k]?) ((List.range (b - a)).map fun k => a + k) = l.extract a b := by
    intro l a b hab hb
    rw [List.extract_eq_take_drop, List.filterMap_map]
    obtain ⟨n, rfl⟩ : ∃ n, b = a + n := ⟨b - a, by omega⟩
    rw [Nat.add_sub_cancel_left]
    induction n with
    | zero => simp
    | succ n ih =>
      have hlt : a + n < l.length := by omega
      rw [List.range_succ, List.filterMap_append, ih (by omega) (by omega), List.take_add_one]
      simp [List.getElem?_eq_getElem hlt]
  unfold Txt.slice
  have el : t.length = t.cps.size := rfl
  rw [el, e]
  split
  · rename_i h
    simp only [beq_self_eq_true, Bool.true_and, List.length_map, List.length_range, beq_iff_eq] at h
    obtain rfl : i = 0 := by omega
    obtain rfl : j = t.cps.size := by omega
    rw [List.extract_eq_take_drop]; simp [← cl_len]
  · show List.filterMap (fun k => t.cps[k]?) _ = _
    rw [← hx (cl t) i j hij (by rw [cl_len]; exact hj)]
    simp [cl]
in #guard_msgs (drop info, drop warning) in open Nat
theorem laid_of {t : Str} : ∀ (ps : List Pc) (b : Bool) (pre : List Nat), Sq b ps → cl t = pre ++ rnd ps → Laid t pre.length (posn pre.length ps)
  | [], _, pre, _, e => by
    have : pre.length = t.cps.size := by rw [← cl_len, e]; simp [rnd]
    rw [this]; exact Laid.done
  | Pc.gap s :: r, b, pre, h, e => by
    have k := laid_of (t := t) r _ (pre ++ cl s) h.2 (by rw [e]; simp [rnd])
    rw [List.length_append] at k
    simp only [posn]
    rw [← cl_len]
    exact laid_gap (cl s) pre (rnd r) h.1 e k
  | Pc.wd s :: r, b, pre, h, e => by
    have hz : cl t = pre ++ (cl s ++ rnd r) := e
    have k : ∀ b', Sq b' r → Laid t (pre.length + s.cps.size) (posn (pre.length + s.cps.size) r) := fun b' h' => by
      have k := laid_of (t := t) r b' (pre ++ cl s) h' (by rw [e]; simp [rnd])
      rwa [List.length_append, cl_len] at k
    simp only [posn]
    rcases h with ⟨h1, _, h3⟩ | ⟨h1, h2⟩
    · have hn : s.cps.size ≠ 0 := by
        intro hn
        have hnil : cl s = [] := List.eq_nil_of_length_eq_zero (by rw [cl_len]; exact hn)
        have : s = Str.ofString "" := cl_inj (by rw [hnil]; decide +kernel)
        rw [this] at h1; revert h1; decide +kernel
      have ha : ∀ c ∈ cl s, okC c = true := by
        unfold isOpS at h1
        simp only [Bool.and_eq_true, Array.all_eq_true'] at h1
        exact fun c hc => h1.2 c (by simpa [cl] using hc)
      have hsz : pre.length + s.cps.size ≤ t.cps.size := by rw [← cl_len t, hz]; simp [cl_len]
      have hsl : Txt.slice t (some (pre.length : Int)) (some ((pre.length + s.cps.size : Nat) : Int)) = s := by
        refine cl_inj ?_
        rw [slice_rng t _ _ (by omega) hsz, hz, List.extract_eq_take_drop, List.drop_left, Nat.add_sub_cancel_left, List.take_append_of_le_length (by rw [cl_len]; omega), ← cl_len, List.take_length]
      rw [show (s, pre.length) = (Txt.slice t (some (pre.length : Int)) (some ((pre.length + s.cps.size : Nat) : Int)), pre.length) by rw [hsl]]
      refine Laid.word (by omega) hsz (fun k h1 h2 => ha _ (getD_in hz h1 (by rw [cl_len]; exact h2))) (fun hj => ?_) (k _ h3)
      have : ∃ c l, rnd r = c :: l := by
        cases hr : rnd r with
        | nil => rw [← cl_len t, hz, hr] at hj; simp [cl_len] at hj
        | cons c l => exact ⟨c, l, rfl⟩
      obtain ⟨c, l, hr⟩ := this
      have g := getD_at (t := t) (pre := pre ++ cl s) (rest := l) (c := c) (by rw [hz, hr]; simp)
      rw [List.length_append, cl_len] at g
      rw [g]
      exact sq_head h3 hr
    · have hs : ∃ c, cl s = [c] ∧ s = ⟨#[c]⟩ ∧ okC c = false ∧ punctC c = true := by
        rcases h1 with rfl | rfl
        · exact ⟨40, by decide +kernel, by decide +kernel, by decide +kernel, by decide +kernel⟩
        · exact ⟨41, by decide +kernel, by decide +kernel, by decide +kernel, by decide +kernel⟩
      obtain ⟨c, e1, e2, e3, e4⟩ := hs
      have g := getD_at (t := t) (pre := pre) (rest := rnd r) (c := c) (by rw [hz, e1]; rfl)
      have z : pre.length < t.cps.size := by rw [← cl_len, hz, e1]; simp
      have k := k _ h2
      rw [show s.cps.size = 1 by rw [← cl_len, e1]; rfl] at k ⊢
      have es : sgn t pre.length = s := by unfold sgn; rw [g, e2]
      have := Laid.sign z (by rw [g]; exact e3) (by rw [g]; exact e4) k
      rwa [es] at this
theorem laid_text {t : Str} {ps : List Pc} (h : Sq false ps) (e : cl t = rnd ps) : Laid t 0 (posn 0 ps) := laid_of ps false [] h e
theorem atW_of : ∀ {l : List Str} {ws : Toks} {a : List Str} {b : List Str}, ws.map Prod.fst = a ++ (l ++ b) → AtW ws a.length l
  | [], _, _, _, _ => trivial
  | x :: l, ws, a, b, h => by
    refine ⟨?_, ?_⟩
    · have : (ws.map Prod.fst)[a.length]? = some x := by rw [h]; simp
      rw [List.getElem?_map] at this
      cases hw : ws[a.length]? with
      | none => rw [hw] at this; cases this
      | some y => rw [hw] at this; cases this; exact ⟨y.2, rfl⟩
    · have := atW_of (l := l) (ws := ws) (a := a ++ [x]) (b := b) (by rw [h]; simp)
      simpa using this
theorem ePL41 : True := trivial
end Mine
-- Tx0
namespace Mine
example : True := by
  k_with "omega" => first | ((fail_if_success have hzz := eTx01); (first | k_extra "ub" | (simp +arith only; done) | k_extra "fk" | lia | omega (config := {}))) | fail
  trivial
example : True := by
  k_with "fk" => first | ((fail_if_success have hzz := eTx01); (with_reducible (first | exact fk116 (by assumption) | exact fk117 (by assumption)))) | fail
  trivial
section
variable {prog : Program} {w : World} {A : Around} {E : Value → Shared → Prop} {s : Shared} {env : Env} {h₀ : Heap} {target : Expr} {body : List Stmt} {Q : Flow → Shared → Prop}
set_option Elab.async true in
theorem items_ind {ws : List (Addr × String)} {keep : Led} {xs : List Itm} {m : Str → Option Value} {news : Led} (Iv : Nat → (Str → Option Value) → Led → Prop) (h0 : Iv 0 m news)
    (hend : ∀ m nw h tk, Iv xs.length m nw → Fr h₀ env.locals h m → News h₀ env.locals h nw → Q .next { s with heap := h, toks := tk })
    (step : ∀ i a m nw (Rest : (Str → Option Value) → Led → Prop), xs[i]? = some a → Iv i m nw → (∀ m' nw', Iv (i + 1) m' nw' → Rest m' nw') →
      ∀ v h tk, a.Is v h → Fr h₀ env.locals h m → AllObj ws (fun its => News h₀ env.locals h (its ++ nw) →
      wpAny (model prog w) A (assign target env v) (fun _ s₂ => wpAny (model prog w) A (execs body env) (UnrPostW h₀ env.locals { s with heap := h, toks := tk } its (fun m' n' => SubL keep n' ∧ Rest m' n') Q) E s₂) E { s with heap := h, toks := tk })) :
    ItemsRest prog w A E h₀ env target body Q s ws keep xs m news := by
  have H : ∀ (ys : List Itm) (i : Nat) (m : Str → Option Value) (nw : Led), (∀ j, ys[j]? = xs[i + j]?) → i + ys.length = xs.length → Iv i m nw → ItemsRest prog w A E h₀ env target body Q s ws keep ys m nw := by
    intro ys
    induction ys with
    | nil =>
      intro i m nw _ hl hI
      simp only [List.length_nil, Nat.add_zero] at hl
      subst hl
      exact fun h tk F N => hend m nw h tk hI F N
    | cons a ys ih =>
      intro i m nw hy hl hI
      refine fun v h tk ha F => step i a m nw (fun m' n' => ItemsRest prog w A E h₀ env target body Q s ws keep ys m' n') (by have := hy 0; simpa using this.symm) hI (fun m' nw' hI' => ih (i + 1) m' nw' (fun j => ?_) (by simp only [List.length_cons] at hl; omega) hI') v h tk ha F
      have := hy (j + 1)
      rw [show i + 1 + j = i + (j + 1) by omega]
      simpa using this
  exact H xs 0 m news (fun j => by rw [Nat.zero_add]) (by simp) h0
in #guard_msgs (drop info, drop warning) in open Nat
theorem end_W {its : Led} {rest : (Str → Option Value) → Led → Prop} {L : Addr} {s₁ : Shared} {h' : Heap} {tk : Nat} {m' : Str → Option Value} {all news' : Led} (F : Fr h₀ L h' m') (N : News h₀ L h' all) (sub : ∀ p ∈ its ++ news', p ∈ all) (off : ∀ p ∈ news', ∀ q ∈ its, p.1 ≠ q.1) (r : rest m' news') :
    UnrPostW h₀ L s₁ its rest Q .next { s₁ with heap := h', toks := tk } := ⟨h', tk, m', news', rfl, F, News.sub N sub, off, r⟩
set_option Elab.async true in
theorem m_lastS {value slice : Expr} {x : Str} {t : Tok} {u : Tok} {Q : Value → Shared → Prop} (hz : 0 < x.cps.size) (hfit : x.cps.size < 100000)
    (h : Q (.str ⟨#[x.cps.getD (x.cps.size - 1) 0]⟩ s.toks) { s with toks := s.toks + 1 })
    (hs : subscripted slice false (.str x t) (.int (-1) u) = operate [.str x t, .int (-1) u] (getItem (.str x t) (.int (-1) u))) :
    wpAny (model prog w) A (subscriptTail value slice (.str x t) (.int (-1) u)) Q E s := by
  refine tail_any (typeIs_str s x t) F.slot_str_getitem.lookup (P.getItem_str (by decide) ?_ h) hs
  have hl : x.length = x.cps.size := rfl
  have e : seqIndex? (-1) x.length = some (x.cps.size - 1) := by
    unfold seqIndex?
    simp only [hl, show ((-1 : Int) < 0) by decide, if_true, decide_true]
    have h1 : (0 : Int) ≤ -1 + (x.cps.size : Int) := by omega
    have h2 : -1 + (x.cps.size : Int) < (x.cps.size : Int) := by omega
    simp only [h1, h2, decide_true, Bool.and_self, if_true]
    congr 1; omega
  rw [e]
  have hlt : x.cps.size - 1 < x.cps.size := by omega
  k_extra "c134"
  rfl
in #guard_msgs (drop info, drop warning) in open Nat
end
noncomputable def lastS (x : Str) : Str := Txt.item x (-1)
noncomputable def spS : Str := Str.ofString " "
noncomputable def plainA (text w : Str) : Str := if (text != nils) = true then if (lastS text != lpar) = true then if (w != rpar) = true then spS else nils else nils else nils
noncomputable def plainS : Str → List Str → Str
  | text, [] => text
  | text, w :: ws => plainS ((text ++ plainA text w) ++ w) ws
theorem plainA_1 {t w : Str} (h1 : (t != nils) = true) (h2 : (lastS t != lpar) = true) (h3 : (w != rpar) = true) : plainA t w = spS := by unfold plainA; rw [if_pos h1, if_pos h2, if_pos h3]
theorem plainA_2 {t w : Str} (h3 : (w != rpar) = false) : plainA t w = nils := by unfold plainA; (repeat' split) <;> first | rfl | (rename_i h; rw [h3] at h; cases h)
theorem plainA_3 {t w : Str} (h2 : (lastS t != lpar) = false) : plainA t w = nils := by unfold plainA; rw [h2]; (repeat' split) <;> first | rfl | (rename_i h _; cases h)
theorem plainA_4 {t w : Str} (h1 : (t != nils) = false) : plainA t w = nils := by unfold plainA; rw [h1]; rfl
theorem plainA_le (text w : Str) : (plainA text w).cps.size ≤ 1 := by
  have h1 : spS.cps.size = 1 := by decide +kernel
  have h2 : nils.cps.size = 0 := by decide +kernel
  unfold plainA
  (repeat' split) <;> omega
theorem plainS_snoc : ∀ (ws : List Str) (text w : Str), plainS text (ws ++ [w]) = (plainS text ws ++ plainA (plainS text ws) w) ++ w
  | [], _, _ => rfl
  | x :: ws, text, w => by simp only [List.cons_append, plainS, plainS_snoc ws]
theorem StrsAre.get2 {vs : List Value} {ws : List Str} (h : StrsAre vs ws) {i : Nat} {v : Value} (e : vs[i]? = some v) : ∃ w t, ws[i]? = some w ∧ v = .str w t := by
  obtain ⟨hlt, rfl⟩ := List.getElem?_eq_some_iff.mp e
  have hlw : i < ws.length := by rw [← h.length]; exact hlt
  obtain ⟨t, ht⟩ := h.get i ws[i] (by simp [hlw])
  refine ⟨ws[i], t, by simp [hlw], ?_⟩
  rw [List.getElem?_eq_getElem hlt] at ht
  exact Option.some.inj ht
theorem eTx01 : True := trivial
end Mine
-- Plain
namespace Mine
example : True := by
  k_with "fk" => first | ((fail_if_success have hzz := ePlain1); (with_reducible (first | exact fk118 (by assumption) | exact fk119 (by assumption) (by assumption) (by assumption) | exact fk120 (by assumption) (by assumption) (by assumption)))) | fail
  trivial
theorem length_appS (a b : Str) : (a ++ b).length = a.length + b.length := size_app a b
theorem lenS (a : Str) : a.length = a.cps.size := rfl
theorem sz_sp : (Str.ofString " ").cps.size = 1 := by decide +kernel
theorem sz_nil : (Str.ofString "").cps.size = 0 := by decide +kernel
theorem m_addS {prog : Program} {w : World} {A : Around} {E : Value → Shared → Prop} {hp g d k os} {x y : Str} {t u : Tok} {Q : Value → Shared → Prop} (hsz : x.cps.size + y.cps.size ≤ 1000000) (h : ∀ t' tk, Q (.str (x ++ y) t') ⟨hp, g, d, tk, os⟩) : wpAny (model prog w) A (binaryOp .Add (.str x t) (.str y u)) Q E ⟨hp, g, d, k, os⟩ :=
  add_str h (by rw [sizeLine_eq, lenS, lenS]; omega)
theorem ePlain1 : True := trivial
end Mine
namespace Mine
example : True := by
  k_with "fk" => first | ((fail_if_success have hzz := ePlain3); (with_reducible (first | exact fk118 (by assumption) | exact fk119 (by assumption) (by assumption) (by assumption) | exact fk120 (by assumption) (by assumption) (by assumption)))) | fail
  trivial
open LCg
example : True := by
  k_with "k_all" => first | ((fail_if_success have hzz := ePlain3); (first | with_reducible assumption | with_reducible exact List.forall_mem_nil _ | ((with_reducible refine List.forall_mem_cons.mpr ⟨?_, ?_⟩) <;> first | exact ne_ltR (by with_reducible assumption) | exact ne_ofR (by with_reducible assumption) (by k_mem) | exact ne_ofA (by with_reducible assumption) (by k_mem) | exact off3_I (by with_reducible assumption) (by k_mem) | exact off3_C (by with_reducible assumption) (by k_mem) | exact off3_D (by with_reducible assumption) (by k_mem) | exact Nat.ne_of_lt (by with_reducible assumption) | exact ne_ofL (by with_reducible assumption) (by k_mem) | exact ne_S (by with_reducible assumption) | exact ne_SS (by with_reducible assumption) | k_ne | k_all) | exact fun q hq => Nat.ne_of_lt (ktn_ltOf (by with_reducible assumption) q hq) | exact fun q hq => ne_allW (by with_reducible assumption) q (by k_mem) | ((with_reducible refine List.forall_mem_append.mpr ⟨?_, ?_⟩) <;> k_all) | exact fun p hp => Above.atW (by with_reducible assumption) (by k_mem) hp | exact fun q hq => Nat.ne_of_lt (ktn_ltOf (by assumption) q hq) | assumption)) | fail
  k_with "k_mem" => first | ((fail_if_success have hzz := ePlain3); (first | ((repeat (first | exact List.Mem.head _ | apply List.Mem.tail | apply mem_inr | with_reducible assumption | assumption)); done) | exact mem_upW (by with_reducible assumption) (fun p hp => by (simp only [List.mem_cons, List.mem_append, hp, true_or, or_true]; done)))) | fail
  k_with "k_room" => first | ((fail_if_success have hzz := ePlain3); (ktr_room)) | fail
  k_with "ktr_room" => first | ((fail_if_success have hzz := ePlain3); (first | ((try dsimp only [ktrTop]); omega) | ((try dsimp only [ktrTop]); (simp only [tmDepth] at *); omega))) | fail
  k_with "ktr_units" => first | ((fail_if_success have hzz := ePlain3); (first | ((try dsimp only [ktrTop]); omega) | ((try dsimp only [ktrTop]); (simp only [tmDepth] at *); omega))) | fail
  k_with "call ref" => first | ((fail_if_success have hzz := ePlain3); (k_here; refine stuck_of ?_)) | fail
  k_with "callWith ref cons nil" => first | ((fail_if_success have hzz := ePlain3); (k_here; k_dflt (first | (refine callWith_K0 (by k_in) (by k_is) ?_; k_whole) | (refine callWith_K (by k_asm) (by k_is) ?_; k_whole)))) | fail
  k_with "k_in" => first | ((fail_if_success have hzz := ePlain3); (first | with_reducible assumption | with_reducible exact Frag.In.keeps (by with_reducible assumption) (Fr.keep (by with_reducible assumption)) | exact Frag.In.keeps (by k_asm) (Fr.keep (by k_asm)))) | fail
  k_with "Src2" => first | ((fail_if_success have hzz := ePlain3); (k_here; refine stuck_of ?_)) | fail
  k_with "Src1" => first | ((fail_if_success have hzz := ePlain3); (k_here; refine stuck_of ?_)) | fail
  k_with "eval ListComp" => first | ((fail_if_success have hzz := ePlain3); (k_here; k_dflt (first | refine ListComp_2 (by k_asm) (by with_unfolding_all rfl) (by decide) (by rfl) (by decide) (by rfl) ?_ (by decide) (by intro _; rfl) (by intro _ _; rfl) | refine ListComp_1 (by k_asm) (by with_unfolding_all rfl) (by decide) (by rfl) (by decide) ?_ (by intro _; rfl)))) | fail
  k_with "CompRest2" => first | ((fail_if_success have hzz := ePlain3); (k_dflt (refine comp2_succ ?_); intro qI9 qoI9 qC9 qoC9 qD9 qm9 qh9 qtk9 qE9 qhC9 qhG9 qF9 qN9 qoff9 qne9; obtain ⟨qv9, qhv9, qhx9⟩ := qhG9; (simp only [List.getElem?_toArray, List.getElem?_cons_zero, List.getElem?_cons_succ, Nat.zero_add, Option.some.injEq] at qhv9); subst qhv9)) | fail
  k_with "CompEnd2" => first | ((fail_if_success have hzz := ePlain3); ((repeat (with_reducible rename _ ∧ _ => qhc9; obtain ⟨_, _⟩ := qhc9)); k_dflt (refine comp2_end (by k_asm) (by k_asm) (by k_extra "c3") (by k_extra "c3") (by k_extra "c3") (by k_extra "c6") (by k_extra "c13") (by k_mem) (by k_extra "c16") ?_); (try dsimp only); (try with_reducible_and_instances (refine comp2_zero ?_)); (try simp only [List.nil_append]))) | fail
  k_with "CompEnd1" => first | ((fail_if_success have hzz := ePlain3); (refine stuck_of ?_)) | fail
  k_with "exec For Name Name cons nil" => first | ((fail_if_success have hzz := ePlain3); (k_here; refine stuck_of ?_)) | fail
  k_with "exec For Tuple Call cons nil" => first | ((fail_if_success have hzz := ePlain3); (k_here; refine stuck_of ?_)) | fail
  k_with "pyIter ref" => first | ((fail_if_success have hzz := ePlain3); (refine stuck_of ?_)) | fail
  k_with "eval Name" => first | ((fail_if_success have hzz := ePlain3); (k_here; (with_reducible show wpAny _ _ (eval (PySem.Expr.Name _ _) (envOf _ _ _ _ _)) _ _ _); k_dflt (refine ld (by k_asm) (by assumption) ?_))) | fail
  k_with "binaryOp Add str str" => first | ((fail_if_success have hzz := ePlain3); (k_here; with_reducible (refine m_addS (by k_dflt ((try simp only [size_app, sz_sp, sz_nil]); omega)) ?_); intro qt9 qtk9)) | fail
  k_with "subscriptTail Name Constant str int" => first | ((fail_if_success have hzz := ePlain3); (k_here; k_dflt (refine m_lastS (by omega) (by omega) ?_ (by with_unfolding_all rfl)))) | fail
  k_with "UnrPostW" => first | ((fail_if_success have hzz := ePlain3); (refine stuck_of ?_)) | fail
  k_with "UnrEndW" => first | ((fail_if_success have hzz := ePlain3); (refine stuck_of ?_)) | fail
  trivial
namespace Z
example : True := by
  k_with "eps" => first | ((fail_if_success have hzz := zPlain6); skip) | fail
  trivial
set_option Elab.async true in
set_option maxHeartbeats 4000000 in
theorem plain_tri : ∀ (w : World) (mean : ExcName → Option Value) (mg : Str → Option Value) (mb : Str → Option Value) (ws : List Str) (vs : List Value) (n : Nat) (D : Addr) (news : Led) (hD : (D, listOf vs.toArray n) ∈ news) (hS : StrsAre vs ws) (hlen : ws.length ≤ 1000) (hw : ∀ x ∈ ws, x.cps.size ≤ 10), Tri LAW hd.heap_39 w mean mg mb 318 [.ref D] 6 100 news (fun r nw => ∃ tk, r = .str (plainS nils ws) tk ∧ nw = news) := by
  intro w mean mg mb ws vs n D news hD hS hlen hw
  k_extra "c11"
  clear hK
  w_top off
  unfold Tri
  k_extra "c14"
  refine wpAny_call ?_
  k_dflt ktr_enter
  k_steps
  refine ⟨?_⟩
  refine For_turns (by k_asm) ?_
  k_steps
  refine ⟨?_⟩
  refine iter_listTurns (by rfl) (by k_asm) (by k_asm) (by k_mem) rfl rfl ?_
  intro I hI
  refine items_ind (fun i m nw => ∃ tk, m (Str.ofString "text") = some (.str (plainS nils (ws.take i)) tk) ∧ (plainS nils (ws.take i)).cps.size ≤ 20 * i ∧ i ≤ 1000 ∧ nw = news) ⟨_, rfl, Nat.zero_le _, Nat.zero_le _, rfl⟩ ?_ ?_
  · intro m₁ nw h₁ tk₁ hh9 F₁ N₁
    obtain ⟨tk9, hm, _, _, rfl⟩ := hh9
    rw [List.length_map, hS.length, List.take_length] at hm
    k_steps
    k_extra "c10"
    exact hret _ _ _ _ kF kN ⟨_, rfl, rfl⟩
  · intro i a9 m₁ nw Rest ha hh9 hR v h₁ tk₁ hv F₁ oI hoI N₁
    obtain ⟨tk9, hm, hz, hi, rfl⟩ := hh9
    rw [List.getElem?_map] at ha
    rcases opt_or (vs[i]?) with hvi | hvi
    · rw [hvi] at ha; cases ha
    obtain ⟨v', hvi⟩ := hvi
    rw [hvi] at ha; cases ha
    obtain ⟨w9, t9, hw9, rfl⟩ := StrsAre.get2 hS hvi
    obtain rfl : v = .str w9 t9 := hv
    have hwz := hw w9 (List.mem_of_getElem? hw9)
    have hlt : i < ws.length := (List.getElem?_eq_some_iff.mp hw9).1
    have hsn := plainS_snoc (ws.take i) nils w9
    rw [← take_snoc hw9] at hsn
    k_steps
    all_goals refine ⟨?_⟩
    all_goals refine end_W (by k_asm) (by k_asm) (fun p hp => by simpa using hp) (fun p hp q hq => by rw [List.mem_singleton.mp hq]; exact Nat.ne_of_lt (hI p hp)) ⟨And.intro hD trivial, hR _ _ ⟨_, (by rw [hsn]; first | (rw [plainA_1 (t := plainS nils (ws.take i)) (w := w9) (by assumption) (by assumption) (by assumption)]; rfl) | (rw [plainA_2 (t := plainS nils (ws.take i)) (w := w9) (by assumption)]; rfl) | (rw [plainA_3 (t := plainS nils (ws.take i)) (w := w9) (by assumption)]; rfl) | (rw [plainA_4 (t := plainS nils (ws.take i)) (w := w9) (by assumption)]; rfl)), ?_, by omega, rfl⟩⟩
    all_goals (rw [hsn, size_app, size_app]; have := plainA_le (plainS nils (ws.take i)) w9; omega)
in #guard_msgs (drop info, drop warning) in open Nat
theorem zPlain6 : True := trivial
end Z
theorem ePlain3 : True := trivial
end Mine
-- Loose
namespace Mine
example : True := by
  k_with "fk" => first | ((fail_if_success have hzz := eLoose1); (with_reducible (first | exact fk121 (by assumption) | exact fk122 (by assumption) | exact fk123 (by assumption) | exact fk124 (by assumption) (by assumption) (by assumption) (by assumption) (by assumption) (by assumption) | exact fk125 (by assumption) (by assumption) (by assumption) (by assumption) | exact fk126 | exact fk127 (by assumption) (by assumption) (by assumption) (by assumption) | exact fk128 (by assumption) (by assumption) | exact fk129 (by assumption) (by assumption) | exact fk130 (by assumption) (by assumption) (by assumption) | exact fk131 (by assumption) (by assumption) (by assumption) | exact fk132 (by assumption) (by assumption) (by assumption) (by assumption) (by assumption)))) | fail
  trivial
noncomputable def OkWd (x : Str) : Prop := (isOpS x = true ∨ x = lpar ∨ x = rpar) ∧ (∀ c ∈ cl x, c < 128) ∧ x.cps.size ≤ 10
noncomputable def GapOk (g : Str) : Prop := (∀ c ∈ cl g, gapC c = true) ∧ g.cps.size ≤ 5 ∧ ∀ c ∈ cl g, c < 128
theorem i0_of {i : Nat} (h : ¬ (0 : Int) < (i : Int)) : i = 0 := by omega
theorem gap_nil : GapOk (Str.ofString "") := by
  have e : cl (Str.ofString "") = [] := by decide +kernel
  refine ⟨?_, by decide +kernel, ?_⟩ <;> (rw [e]; intro c hc; cases hc)
theorem gap_of {g : Str} {l : List Nat} (e : cl g = l) (h : l.all (fun c => gapC c && decide (c < 128)) = true) (z : g.cps.size ≤ 5) : GapOk g := by
  rw [List.all_eq_true] at h
  refine ⟨fun c hc => ?_, z, fun c hc => ?_⟩
  · rw [e] at hc; have := h c hc; simp only [Bool.and_eq_true] at this; exact this.1
  · rw [e] at hc; have := h c hc; simp only [Bool.and_eq_true, decide_eq_true_eq] at this; exact this.2
theorem gap_sp : GapOk (Str.ofString " ") := gap_of (l := [32]) (by decide +kernel) (by decide +kernel) (by decide +kernel)
theorem gap_nt : GapOk (Str.ofString "\n\t") := gap_of (l := [10, 9]) (by decide +kernel) (by decide +kernel) (by decide +kernel)
theorem gap_ts : GapOk (Str.ofString "\t ") := gap_of (l := [9, 32]) (by decide +kernel) (by decide +kernel) (by decide +kernel)
theorem gap_n : GapOk (Str.ofString "\n") := gap_of (l := [10]) (by decide +kernel) (by decide +kernel) (by decide +kernel)
theorem gap_sn : GapOk (Str.ofString " \n") := gap_of (l := [32, 10]) (by decide +kernel) (by decide +kernel) (by decide +kernel)
theorem gap3 {g : Str} (h : g ∈ [Str.ofString "", Str.ofString " ", Str.ofString "\n\t"]) : GapOk g := by
  k_extra "c86"
  rcases h with rfl | rfl | rfl
  · exact gap_nil
  · exact gap_sp
  · exact gap_nt
theorem gap2 {g : Str} (h : g ∈ [Str.ofString "", Str.ofString " \n"]) : GapOk g := by
  k_extra "c86"
  rcases h with rfl | rfl
  · exact gap_nil
  · exact gap_sn
theorem gap4 {g : Str} (h : g ∈ [Str.ofString "", Str.ofString " ", Str.ofString "\t ", Str.ofString "\n"]) : GapOk g := by
  k_extra "c86"
  rcases h with rfl | rfl | rfl | rfl
  · exact gap_nil
  · exact gap_sp
  · exact gap_ts
  · exact gap_n
theorem gap4m {g : Str} (h : g ∈ [Str.ofString " ", Str.ofString " ", Str.ofString "\t ", Str.ofString "\n"]) : GapOk g ∧ (cl g).isEmpty = false := by
  k_extra "c86"
  rcases h with rfl | rfl | rfl | rfl
  · exact ⟨gap_sp, by decide +kernel⟩
  · exact ⟨gap_sp, by decide +kernel⟩
  · exact ⟨gap_ts, by decide +kernel⟩
  · exact ⟨gap_n, by decide +kernel⟩
theorem pick_le {l : List Str} {g : Str} (h : (l.all fun x => decide (x.cps.size ≤ 5)) = true) (m : g ∈ l) : g.cps.size ≤ 5 := by
  rw [List.all_eq_true] at h; simpa using h g m
section
variable {prog : Program} {w : World} {A : Around} {E : Value → Shared → Prop} {s : Shared} {h₀ : Heap} {L : Addr} {news : Led}
theorem m_pickG {value slice : Expr} {l : Addr} {vs : List Value} {ss : List Str} {n : Nat} {k : Int} {u : Tok} {Q : Value → Shared → Prop} (N : News h₀ L s.heap news) (hm : (l, listOf vs.toArray n) ∈ news) (hi : StrsAre vs ss)
    (h0 : 0 ≤ k) (h1 : k < ss.length) (hfit : k < 2 ^ 63) (h : ∀ g t, g ∈ ss → Q (.str g t) s)
    (hs : subscripted slice false (.ref l) (.int k u) = operate [.ref l, .int k u] (getItem (.ref l) (.int k u))) (hg : ∀ r, letTemporaryGo value (.ref l) r = pure ()) :
    wpAny (model prog w) A (subscriptTail value slice (.ref l) (.int k u)) Q E s :=
  m_pickS "a" N hm hi h0 h1 hfit (fun t => h _ t (by
    have hlt : k.toNat < ss.length := by omega
    rw [List.getD_eq_getElem?_getD, List.getElem?_eq_getElem hlt]; exact List.getElem_mem _)) hs hg
theorem m_itemW {value slice : Expr} {l : Addr} {vs : List Value} {ss : List Str} {n : Nat} {k : Int} {u : Tok} {Q : Value → Shared → Prop} (N : News h₀ L s.heap news) (hm : (l, listOf vs.toArray n) ∈ news) (hi : StrsAre vs ss)
    (h0 : 0 ≤ k) (h1 : k < ss.length) (hfit : k < 2 ^ 63) (h : ∀ g t, ss[k.toNat]? = some g → Q (.str g t) s)
    (hs : subscripted slice false (.ref l) (.int k u) = operate [.ref l, .int k u] (getItem (.ref l) (.int k u))) (hg : ∀ r, letTemporaryGo value (.ref l) r = pure ()) :
    wpAny (model prog w) A (subscriptTail value slice (.ref l) (.int k u)) Q E s :=
  m_pickS "a" N hm hi h0 h1 hfit (fun t => h _ t (by
    have hlt : k.toNat < ss.length := by omega
    rw [List.getD_eq_getElem?_getD, List.getElem?_eq_getElem hlt]; rfl)) hs hg
end
noncomputable def LooseOut (w : World) (P R : Addr) (news : Led) (k : Nat) (ws : List Str) (r : Value) (nw : Led) : Prop :=
  ∃ T tk pcs o', r = .str T tk ∧ nw = (P, o') :: news ∧ PenD w o' R (k + 2 + ws.length) ∧ cl T = rnd pcs ∧ Sq false pcs ∧ wds pcs = ws ∧ T.cps.size ≤ 20 * ws.length + 10 ∧ ∀ c ∈ cl T, c < 128
noncomputable def IvL (w : World) (P R : Addr) (rest : Led) (k : Nat) (wl : Value) (ws : List Str) (i : Nat) (m : Str → Option Value) (nw : Led) : Prop :=
  ∃ tk T pcs o', m (Str.ofString "text") = some (.str T tk) ∧ m (Str.ofString "pen") = some (.ref P) ∧ m (Str.ofString "words") = some wl ∧ cl T = rnd pcs ∧ Sq false pcs ∧ wds pcs = ws.take i ∧ (endB false pcs = true → i ≠ 0 ∧ ∀ x, ws[i - 1]? = some x → isOpS x = true) ∧ T.cps.size ≤ 20 * i + 5 ∧ (∀ c ∈ cl T, c < 128) ∧ (P, o') :: rest = nw ∧ PenD w o' R (k + 1 + i)
theorem par_any {x : Str} (h : ([Str.ofString "(", Str.ofString ")"].any fun y => y == x) = true) : isOpS x = true → False := fun k => by
  simp only [List.any_cons, List.any_nil, Bool.or_false, Bool.or_eq_true, beq_iff_eq] at h
  rcases h with rfl | rfl <;> revert k <;> decide +kernel
set_option Elab.async true in
theorem loose_step {ws : List Str} {T g w9 : Str} {pcs : List Pc} {i : Nat} (hT : cl T = rnd pcs) (hsq : Sq false pcs) (hwd : wds pcs = ws.take i) (hw9 : ws[i]? = some w9) (hwz : OkWd w9) (hg : GapOk g) (hc : endB false pcs = true → isOpS w9 = true → (cl g).isEmpty = false) (hasc : ∀ c ∈ cl T, c < 128) (hz : T.cps.size ≤ 20 * i + 5) :
    cl ((T ++ g) ++ w9) = rnd (pcs ++ [.gap g, .wd w9]) ∧ Sq false (pcs ++ [.gap g, .wd w9]) ∧ wds (pcs ++ [.gap g, .wd w9]) = ws.take (i + 1) ∧ (endB false (pcs ++ [.gap g, .wd w9]) = true → i + 1 ≠ 0 ∧ ∀ x, ws[i + 1 - 1]? = some x → isOpS x = true) ∧ ((T ++ g) ++ w9).cps.size ≤ 20 * (i + 1) + 5 ∧ ∀ c ∈ cl ((T ++ g) ++ w9), c < 128 := by
  refine ⟨?_, Sq.snoc hsq ⟨hg.1, ?_⟩, ?_, fun h => ⟨Nat.succ_ne_zero _, fun x hx => ?_⟩, ?_, fun c hc => ?_⟩
  · rw [cl_app, cl_app, hT, rnd_app]; simp only [rnd, List.append_nil, List.append_assoc]
  · rcases hwz.1 with h | h | h
    · refine .inl ⟨h, ?_, trivial⟩
      cases e : endB false pcs
      · rfl
      · rw [hc e h]; rfl
    · exact .inr ⟨.inl h, trivial⟩
    · exact .inr ⟨.inr h, trivial⟩
  · rw [wds_app, hwd, take_snoc hw9]; simp only [wds]
  · rw [endB_app] at h
    simp only [endB, Bool.not_eq_true', Bool.or_eq_false_iff, beq_eq_false_iff_ne] at h
    rw [Nat.add_sub_cancel, hw9] at hx
    cases hx
    rcases hwz.1 with k | k | k
    · exact k
    · exact absurd k h.1
    · exact absurd k h.2
  · rw [size_app, size_app]; have := hg.2.1; have := hwz.2.2; omega
  · rw [cl_app, cl_app] at hc
    rcases List.mem_append.mp hc with hc | hc
    · rcases List.mem_append.mp hc with hc | hc
      · exact hasc c hc
      · exact hg.2.2 c hc
    · exact hwz.2.1 c hc
in #guard_msgs (drop info, drop warning) in open Nat
theorem loose_fin {w : World} {P R : Addr} {news : Led} {k : Nat} {ws : List Str} {T g : Str} {tk : Tok} {pcs : List Pc} {o' : Obj} (hg : GapOk g) (hT : cl T = rnd pcs) (hsq : Sq false pcs) (hwd : wds pcs = ws) (hz : T.cps.size ≤ 20 * ws.length + 5) (hasc : ∀ c ∈ cl T, c < 128) (hP : PenD w o' R (k + 1 + ws.length + 1)) :
    LooseOut w P R news k ws (.str (T ++ g) tk) ((P, o') :: news) := by
  refine ⟨_, _, pcs ++ [.gap g], _, rfl, rfl, by rw [show k + 2 + ws.length = k + 1 + ws.length + 1 by omega]; exact hP, by rw [cl_app, hT, rnd_app]; simp only [rnd, List.append_nil], Sq.snoc (q := [.gap g]) hsq ⟨hg.1, trivial⟩, by rw [wds_app, hwd]; simp only [wds, List.append_nil], by rw [size_app]; have := hg.2.1; omega, fun c hc => ?_⟩
  rw [cl_app] at hc
  exact (List.mem_append.mp hc).elim (hasc c) (hg.2.2 c)
theorem loose_iv {w : World} {P R : Addr} {rest : Led} {k : Nat} {wl : Value} {ws : List Str} {T g w9 : Str} {tk : Tok} {pcs : List Pc} {o' : Obj} {i : Nat} {m : Str → Option Value} (hm1 : m (Str.ofString "text") = some (.str ((T ++ g) ++ w9) tk)) (hm2 : m (Str.ofString "pen") = some (.ref P)) (hm3 : m (Str.ofString "words") = some wl)
    (hT : cl T = rnd pcs) (hsq : Sq false pcs) (hwd : wds pcs = ws.take i) (hw9 : ws[i]? = some w9) (hwz : OkWd w9) (hg : GapOk g) (hc : endB false pcs = true → isOpS w9 = true → (cl g).isEmpty = false) (hasc : ∀ c ∈ cl T, c < 128) (hz : T.cps.size ≤ 20 * i + 5) (hP : PenD w o' R (k + 1 + i + 1)) : IvL w P R rest k wl ws (i + 1) m ((P, o') :: rest) := by
  have h := loose_step hT hsq hwd hw9 hwz hg hc hasc hz
  exact ⟨_, _, pcs ++ [.gap g, .wd w9], _, hm1, hm2, hm3, h.1, h.2.1, h.2.2.1, h.2.2.2.1, h.2.2.2.2.1, h.2.2.2.2.2, rfl, hP⟩
set_option Elab.async true in
theorem end_W2 {Q : Flow → Shared → Prop} {h₀ : Heap} {keep : Addr × Obj} {rest : (Str → Option Value) → Led → Prop} {L P I : Addr} {o' oE oI : Obj} {s₁ : Shared} {h' : Heap} {tk : Nat} {m' : Str → Option Value} {all r base tl : Led} {x y : String} (F : Fr h₀ L h' m') (N : News h₀ L h' all) (pk : Pick P o' all r) (m1 : (I + 1, oE) ∈ r) (m2 : (I, oI) ∈ r) (t : Tail base r tl)
    (off : ∀ p ∈ (P, o') :: base, ∀ q ∈ [((I + 1, x).1, oE), ((I, y).1, oI)], p.1 ≠ q.1) (hk : keep ∈ (P, o') :: base) (h : rest m' ((P, o') :: base)) :
    UnrPostW h₀ L s₁ [((I + 1, x).1, oE), ((I, y).1, oI)] (fun m' n' => SubL [keep] n' ∧ rest m' n') Q .next { s₁ with heap := h', toks := tk } := by
  refine end_W F N (fun p hp => ?_) off ⟨And.intro hk trivial, h⟩
  have e := t.eq
  simp only [List.cons_append, List.nil_append, List.mem_cons] at hp
  rcases hp with rfl | rfl | rfl | hp
  · exact pk.sub _ (.tail _ m1)
  · exact pk.sub _ (.tail _ m2)
  · exact pk.sub _ (.head _)
  · exact pk.sub _ (.tail _ (by rw [e]; exact List.mem_append_right _ hp))
in #guard_msgs (drop info, drop warning) in open Nat
theorem pick_news {h₀ h : Heap} {L P : Addr} {o' : Obj} {all r base tl : Led} (N : News h₀ L h all) (pk : Pick P o' all r) (t : Tail base r tl) : News h₀ L h ((P, o') :: base) := News.sub N fun p hp => by
  k_extra "c22"
  · exact pk.sub _ (.head _)
  · exact pk.sub _ (.tail _ (by rw [t.eq]; exact List.mem_append_right _ hp))
theorem c_path {i : Nat} {ws : List Str} {x8 g w9 : Str} {pcs : List Pc} (hx : ws[((i : Int) - 1).toNat]? = some x8) (ha : ([Str.ofString "(", Str.ofString ")"].any fun y => y == x8) = true) (hend : endB false pcs = true → i ≠ 0 ∧ ∀ x, ws[i - 1]? = some x → isOpS x = true) :
    endB false pcs = true → isOpS w9 = true → (cl g).isEmpty = false := fun h _ => (par_any ha ((hend h).2 x8 (by rw [show i - 1 = ((i : Int) - 1).toNat by omega]; exact hx))).elim
theorem off_two {I P : Addr} {oE oI o o' : Obj} {rest : Led} {x y : String} (h : ∀ p ∈ (P, o) :: rest, p.1 < I) : ∀ p ∈ (P, o') :: rest, ∀ q ∈ [((I + 1, x).1, oE), ((I, y).1, oI)], p.1 ≠ q.1 := by
  have h' : ∀ p ∈ (P, o') :: rest, @LT.lt Nat _ p.1 I := fun p hp => by
    k_extra "c22"
    · exact h (P, o) (.head _)
    · exact h p (.tail _ hp)
  intro p hp q hq
  k_extra "c30"
  · exact Nat.ne_of_lt (Nat.lt_succ_of_lt (h' p hp))
  · rw [List.mem_singleton.mp hq]; exact Nat.ne_of_lt (h' p hp)
theorem eLoose1 : True := trivial
end Mine
namespace Mine
example : True := by
  k_with "fk" => first | ((fail_if_success have hzz := eLoose3); (with_reducible (first | exact fk121 (by assumption) | exact fk122 (by assumption) | exact fk123 (by assumption) | exact fk124 (by assumption) (by assumption) (by assumption) (by assumption) (by assumption) (by assumption) | exact fk125 (by assumption) (by assumption) (by assumption) (by assumption) | exact fk126 | exact fk127 (by assumption) (by assumption) (by assumption) (by assumption) | exact fk128 (by assumption) (by assumption) | exact fk129 (by assumption) (by assumption) | exact fk130 (by assumption) (by assumption) (by assumption) | exact fk131 (by assumption) (by assumption) (by assumption) | exact fk132 (by assumption) (by assumption) (by assumption) (by assumption) (by assumption)))) | fail
  trivial
open LCg
example : True := by
  k_with "k_all" => first | ((fail_if_success have hzz := eLoose3); (first | with_reducible assumption | with_reducible exact List.forall_mem_nil _ | ((with_reducible refine List.forall_mem_cons.mpr ⟨?_, ?_⟩) <;> first | exact ne_ltR (by with_reducible assumption) | exact ne_ofR (by with_reducible assumption) (by k_mem) | exact ne_ofA (by with_reducible assumption) (by k_mem) | exact off3_I (by with_reducible assumption) (by k_mem) | exact off3_C (by with_reducible assumption) (by k_mem) | exact off3_D (by with_reducible assumption) (by k_mem) | exact Nat.ne_of_lt (by with_reducible assumption) | exact ne_ofL (by with_reducible assumption) (by k_mem) | exact ne_S (by with_reducible assumption) | exact ne_SS (by with_reducible assumption) | k_ne | k_all) | exact fun q hq => Nat.ne_of_lt (ktn_ltOf (by with_reducible assumption) q hq) | exact fun q hq => ne_allW (by with_reducible assumption) q (by k_mem) | ((with_reducible refine List.forall_mem_append.mpr ⟨?_, ?_⟩) <;> k_all) | exact fun p hp => Above.atW (by with_reducible assumption) (by k_mem) hp | exact fun q hq => Nat.ne_of_lt (ktn_ltOf (by assumption) q hq) | assumption)) | fail
  k_with "k_mem" => first | ((fail_if_success have hzz := eLoose3); (first | ((repeat (first | exact List.Mem.head _ | apply List.Mem.tail | apply mem_inr | with_reducible assumption | assumption)); done) | exact mem_upW (by with_reducible assumption) (fun p hp => by (simp only [List.mem_cons, List.mem_append, hp, true_or, or_true]; done)))) | fail
  k_with "k_room" => first | ((fail_if_success have hzz := eLoose3); (ktr_room)) | fail
  k_with "ktr_room" => first | ((fail_if_success have hzz := eLoose3); (first | ((try dsimp only [ktrTop]); omega) | ((try dsimp only [ktrTop]); (simp only [tmDepth] at *); omega))) | fail
  k_with "ktr_units" => first | ((fail_if_success have hzz := eLoose3); (first | ((try dsimp only [ktrTop]); omega) | ((try dsimp only [ktrTop]); (simp only [tmDepth] at *); omega))) | fail
  k_with "call ref" => first | ((fail_if_success have hzz := eLoose3); (k_here; refine stuck_of ?_)) | fail
  k_with "callWith ref cons nil" => first | ((fail_if_success have hzz := eLoose3); (k_here; k_dflt (first | (refine callWith_K0 (by k_in) (by k_is) ?_; k_whole) | (refine callWith_K (by k_asm) (by k_is) ?_; k_whole)))) | fail
  k_with "k_in" => first | ((fail_if_success have hzz := eLoose3); (first | with_reducible assumption | with_reducible exact Frag.In.keeps (by with_reducible assumption) (Fr.keep (by with_reducible assumption)) | exact Frag.In.keeps (by k_asm) (Fr.keep (by k_asm)))) | fail
  k_with "Src2" => first | ((fail_if_success have hzz := eLoose3); (k_here; refine stuck_of ?_)) | fail
  k_with "Src1" => first | ((fail_if_success have hzz := eLoose3); (k_here; refine stuck_of ?_)) | fail
  k_with "eval ListComp" => first | ((fail_if_success have hzz := eLoose3); (k_here; k_dflt (first | refine ListComp_2 (by k_asm) (by with_unfolding_all rfl) (by decide) (by rfl) (by decide) (by rfl) ?_ (by decide) (by intro _; rfl) (by intro _ _; rfl) | refine ListComp_1 (by k_asm) (by with_unfolding_all rfl) (by decide) (by rfl) (by decide) ?_ (by intro _; rfl)))) | fail
  k_with "CompRest2" => first | ((fail_if_success have hzz := eLoose3); (k_dflt (refine comp2_succ ?_); intro qI9 qoI9 qC9 qoC9 qD9 qm9 qh9 qtk9 qE9 qhC9 qhG9 qF9 qN9 qoff9 qne9; obtain ⟨qv9, qhv9, qhx9⟩ := qhG9; (simp only [List.getElem?_toArray, List.getElem?_cons_zero, List.getElem?_cons_succ, Nat.zero_add, Option.some.injEq] at qhv9); subst qhv9)) | fail
  k_with "CompEnd2" => first | ((fail_if_success have hzz := eLoose3); ((repeat (with_reducible rename _ ∧ _ => qhc9; obtain ⟨_, _⟩ := qhc9)); k_dflt (refine comp2_end (by k_asm) (by k_asm) (by k_extra "c3") (by k_extra "c3") (by k_extra "c3") (by k_extra "c6") (by k_extra "c13") (by k_mem) (by k_extra "c16") ?_); (try dsimp only); (try with_reducible_and_instances (refine comp2_zero ?_)); (try simp only [List.nil_append]))) | fail
  k_with "CompEnd1" => first | ((fail_if_success have hzz := eLoose3); (refine stuck_of ?_)) | fail
  k_with "call ref" => first | ((fail_if_success have hzz := eLoose3); (k_here; (with_reducible show wpAny _ _ (call (Value.ref 291) _) _ _ _); first | (k_dflt (refine draw_use (by k_asm) (by k_asm) (by k_asm) (by k_asm) (by k_asm) (by k_extra "c9") (by k_extra "c3") (by assumption) (by k_all) (by k_mem) (by assumption) (by assumption) (by decide) (by omega) (by ktr_room) (by ktr_units) ?_); intro qv9 qtk9 qo9 qh9 qtk9' qF9 qN9 qP9 qe9 qlo9 qhi9 qne9 qhR9; (try k_sweep); (try k_fold)) | refine stuck_of ?_)) | fail
  k_with "exec For Name Name cons nil" => first | ((fail_if_success have hzz := eLoose3); (k_here; refine stuck_of ?_)) | fail
  k_with "exec For Tuple Call cons nil" => first | ((fail_if_success have hzz := eLoose3); (k_here; refine stuck_of ?_)) | fail
  k_with "pyIter ref" => first | ((fail_if_success have hzz := eLoose3); (refine stuck_of ?_)) | fail
  k_with "eval Name" => first | ((fail_if_success have hzz := eLoose3); (k_here; (with_reducible show wpAny _ _ (eval (PySem.Expr.Name _ _) (envOf _ _ _ _ _)) _ _ _); k_dflt (refine ld (by k_asm) (by assumption) ?_))) | fail
  k_with "binaryOp Add str str" => first | ((fail_if_success have hzz := eLoose3); (k_here; with_reducible (refine m_addS (by k_dflt ((try simp only [size_app, sz_sp, sz_nil]); omega)) ?_); intro qt9 qtk9)) | fail
  k_with "subscriptTail Name Constant str int" => first | ((fail_if_success have hzz := eLoose3); (k_here; k_dflt (refine m_lastS (by omega) (by omega) ?_ (by with_unfolding_all rfl)))) | fail
  k_with "call type:enumerate cons nil" => first | ((fail_if_success have hzz := eLoose3); (refine stuck_of ?_)) | fail
  k_with "UnrPostW" => first | ((fail_if_success have hzz := eLoose3); (refine stuck_of ?_)) | fail
  k_with "UnrEndW" => first | ((fail_if_success have hzz := eLoose3); (refine stuck_of ?_)) | fail
  k_with "subscriptTail List cons Call ref int" => first | ((fail_if_success have hzz := eLoose3); (k_here; (with_reducible show wpAny _ _ (subscriptTail _ _ (Value.ref _) (Value.int _ _)) _ _ _); k_dflt (refine kba_turn (value' := PySem.Expr.Name (PySem.Str.ofString "x") ⟨0, 0, 0, 0⟩) (fun _ => rfl) ?_); k_dflt (refine m_pickG (by k_asm) (by k_mem) (by repeat' constructor) (by omega) (by k_extra "c79") (by omega) ?_ (by with_unfolding_all rfl) (by k_extra "c23")); intro qg9 qtk8 qhg9; (have qz9 := pick_le (by decide +kernel) qhg9); (try k_fold))) | fail
  k_with "subscriptTail Name BinOp ref int" => first | ((fail_if_success have hzz := eLoose3); (k_here; k_dflt (refine m_itemW (by k_asm) (by k_mem) (by assumption) (by omega) (by omega) (by omega) ?_ (by with_unfolding_all rfl) (by k_extra "c23")); intro qx8 qtk8 qhx8)) | fail
  trivial
namespace Z
example : True := by
  k_with "eps" => first | ((fail_if_success have hzz := zLoose6); skip) | fail
  trivial
set_option Elab.async true in
set_option maxHeartbeats 4000000 in
theorem loose_tri : ∀ (w : World) (mean : ExcName → Option Value) (mg : Str → Option Value) (mb : Str → Option Value) (P R : Addr) (row : List Int) (rvs : List Value) (rn : Nat) (hl : row.length ≤ 60) (hI : IntsAre rvs row) (ws : List Str) (vs : List Value) (n : Nat) (D : Addr) (k : Nat) (o : Obj) (news : Led) (hP : PenD w o R k) (hne : ∀ q ∈ news, q.1 ≠ P) (hR : (R, listOf rvs.toArray rn) ∈ news) (hD : (D, listOf vs.toArray n) ∈ news) (hS : StrsAre vs ws) (hlen : ws.length ≤ 1000) (hw : ∀ x ∈ ws, OkWd x) (hkk : k ≤ 45000), Tri LAW hd.heap_39 w mean mg mb 325 [.ref P, .ref D] 6 100 ((P, o) :: news) (LooseOut w P R news k ws) := by
  intro w mean mg mb P R row rvs rn hl hI ws vs n D k o news hP hne hR hD hS hlen hw hkk
  k_extra "c11"
  clear hK
  w_top off
  unfold Tri
  k_extra "c14"
  refine wpAny_call ?_
  k_dflt ktr_enter
  k_steps
  refine ⟨?_⟩
  refine For_turns (by k_asm) ?_
  k_steps
  refine ⟨?_⟩
  refine ktu_enum (by rfl) (by k_asm) (News.sub (by k_asm) (Pick.sub (by k_extra "c3"))) (by k_mem) rfl rfl rfl ?_
  intro I hIl
  have hPI : @LT.lt Nat _ P I := hIl _ (.head _)
  (with_reducible rename _ ∈ [_, _, _] => hg9)
  have hg := gap3 hg9
  refine items_ind (IvL w P R _ k (.ref D) ws) ⟨_, _, [.gap _], _, rfl, rfl, rfl, (by simp only [rnd, List.append_nil]), ⟨hg.1, trivial⟩, rfl, fun h => Bool.noConfusion (show false = true from h), Nat.le_trans hg.2.1 (by decide), hg.2.2, rfl, by assumption⟩ ?_ ?_
  · intro m₁ nw h₁ tk₁ hh9 F₁ N₁
    k_extra "c129"
    rw [enumItems_length, hS.length] at hwd hz hP1 hend
    rw [List.take_length] at hwd
    k_steps
    k_extra "c10"
    exact hret _ _ _ _ kF (pick_news kN (by k_extra "c3") (by k_extra "c8")) (loose_fin (gap2 (by assumption)) hT hsq hwd hz hasc (by assumption))
  · intro i a9 m₁ nw Rest ha hh9 hRest v h₁ tk₁ hv F₁ oE hoE oI hoI N₁
    k_extra "c129"
    rcases opt_or (vs[i]?) with hvi | hvi
    · exfalso; rw [List.getElem?_eq_none_iff] at hvi; rw [List.getElem?_eq_none (by rw [enumItems_length]; exact hvi)] at ha; cases ha
    obtain ⟨v', hvi⟩ := hvi
    rw [enumItems_get vs 0 i hvi] at ha; cases ha
    obtain ⟨w9, t9, hw9, rfl⟩ := StrsAre.get2 hS hvi
    obtain ⟨T9, t9', rfl, hT9⟩ := hv
    rw [Nat.zero_add] at hT9
    have hwz := hw w9 (List.mem_of_getElem? hw9)
    have hlt : i < ws.length := (List.getElem?_eq_some_iff.mp hw9).1
    have hwz2 := hwz.2.2
    simp only [List.cons_append, List.nil_append] at N₁
    k_steps
    all_goals refine ⟨?_⟩
    all_goals refine end_W2 (by k_asm) (by k_asm) (by k_extra "c3") (by k_mem) (by k_mem) (by k_extra "c8") (off_two (x := "enumerate") (y := "list_iterator") hIl) (by k_mem) (hRest _ _ (loose_iv (by rfl) (by assumption) (by assumption) hT hsq hwd hw9 hwz ?_ ?_ hasc hz (by assumption)))
    all_goals first | exact gap4 (by with_reducible assumption) | exact (gap4m (by with_reducible assumption)).1 | exact fun _ _ => (gap4m (by with_reducible assumption)).2 | exact fun _ k => (par_any (by with_reducible assumption) k).elim | exact c_path (by with_reducible assumption) (by with_reducible assumption) hend | exact fun h _ => absurd (i0_of (by with_reducible assumption)) (hend h).1
in #guard_msgs (drop info, drop warning) in open Nat
theorem zLoose6 : True := trivial
end Z
theorem eLoose3 : True := trivial
end Mine
-- PL5
namespace Mine
example : True := by
  k_with "omega" => first | ((fail_if_success have hzz := ePL51); (first | k_extra "ub" | (simp +arith only; done) | k_extra "fk" | lia | omega (config := {}))) | fail
  trivial
noncomputable def openB (T : Str) : Bool := (cl T).isEmpty || (cl T).getLast? == some 40
theorem cl_nils : cl nils = [] := by decide +kernel
theorem cl_lpar : cl lpar = [40] := by decide +kernel
theorem cl_rpar : cl rpar = [41] := by decide +kernel
theorem cl_spS : cl spS = [32] := by decide +kernel
theorem cl_eq_nil {x : Str} : cl x = [] ↔ x = nils := ⟨fun h => cl_inj (by rw [h, cl_nils]), fun h => by rw [h, cl_nils]⟩
theorem lastS_of {x : Str} {l : List Nat} {c : Nat} (h : cl x = l ++ [c]) : lastS x = ⟨#[c]⟩ := by
  have hz : x.cps.size = l.length + 1 := by rw [← cl_len, h]; simp
  have hl : x.length = x.cps.size := rfl
  have e : seqIndex? (-1) x.length = some l.length := by
    unfold seqIndex?
    simp only [hl, hz, show ((-1 : Int) < 0) by decide, if_true, decide_true]
    have h1 : (0 : Int) ≤ -1 + ((l.length + 1 : Nat) : Int) := by omega
    have h2 : -1 + ((l.length + 1 : Nat) : Int) < ((l.length + 1 : Nat) : Int) := by omega
    simp only [h1, h2, decide_true, Bool.and_self, if_true]
    congr 1; omega
  unfold lastS Txt.item Txt.charAt
  rw [e, Option.bind_some, cps_of h]
  simp
theorem lpar_one : lpar = ⟨#[40]⟩ := by decide +kernel
theorem openB_snoc {x : Str} {l : List Nat} {c : Nat} (h : cl x = l ++ [c]) : openB x = (c == 40) := by
  unfold openB; rw [h]; simp
theorem cl_cases (x : Str) : cl x = [] ∨ ∃ l c, cl x = l ++ [c] := by
  rcases List.eq_nil_or_concat (cl x) with h | ⟨l, c, h⟩
  · exact .inl h
  · exact .inr ⟨l, c, by simpa using h⟩
set_option Elab.async true in
theorem plainA_eq (T w : Str) : plainA T w = if openB T || w == rpar then nils else spS := by
  rcases cl_cases T with h | ⟨l, c, h⟩
  · have e : (T != nils) = false := by rw [cl_eq_nil.mp h]; decide +kernel
    have o : openB T = true := by unfold openB; rw [h]; rfl
    rw [plainA_4 e, o]; rfl
  · have e : (T != nils) = true := by rw [bne_iff_ne]; rintro rfl; rw [cl_nils] at h; simp at h
    have e2 : (lastS T != lpar) = !(c == 40) := by
      rw [lastS_of h, lpar_one]
      by_cases hc : c = 40
      · subst hc; decide +kernel
      · have : ((⟨#[c]⟩ : Str) != ⟨#[40]⟩) = true := by rw [bne_iff_ne]; intro k; injection k with k; simp at k; exact hc k
        rw [this]; simp [hc]
    rw [openB_snoc h]
    by_cases hw : w = rpar
    · subst hw
      rw [plainA_2 rpar_rpar]; simp
    · have hw' : (w != rpar) = true := by rw [bne_iff_ne]; exact hw
      have hw2 : (w == rpar) = false := beq_eq_false_iff_ne.mpr hw
      cases hc : c == 40
      · rw [plainA_1 e (by rw [e2, hc]; rfl) hw', hw2]; rfl
      · rw [plainA_3 (by rw [e2, hc]; rfl)]; rfl
in #guard_msgs (drop info, drop warning) in open Nat
noncomputable def glueS (T x : Str) : Str := if openB T then T ++ x else (T ++ spS) ++ x
theorem app_nils (T : Str) : T ++ nils = T := cl_inj (by rw [cl_app, cl_nils, List.append_nil])
theorem nils_app (T : Str) : nils ++ T = T := cl_inj (by rw [cl_app, cl_nils, List.nil_append])
theorem app_as (a b c : Str) : (a ++ b) ++ c = a ++ (b ++ c) := cl_inj (by simp only [cl_app, List.append_assoc])
theorem plainS_app : ∀ (a : List Str) (T : Str) (b : List Str), plainS T (a ++ b) = plainS (plainS T a) b
  | [], _, _ => rfl
  | x :: a, T, b => by simp only [List.cons_append, plainS, plainS_app a]
theorem openB_app {T x : Str} (h : openB x = false) : openB (T ++ x) = false := by
  rcases cl_cases x with k | ⟨l, c, k⟩
  · unfold openB at h; rw [k] at h; cases h
  · have : cl (T ++ x) = (cl T ++ l) ++ [c] := by rw [cl_app, k, List.append_assoc]
    rw [openB_snoc this, ← openB_snoc k, h]
theorem openB_glue {T x : Str} (h : openB x = false) : openB (glueS T x) = false := by
  unfold glueS; split <;> exact openB_app h
theorem glue_open {T x : Str} (h : openB T = true) : glueS T x = T ++ x := by unfold glueS; rw [if_pos h]
theorem glue_shut {T x : Str} (h : openB T = false) : glueS T x = (T ++ spS) ++ x := by unfold glueS; rw [if_neg (by rw [h]; decide)]
noncomputable def Blk (ws : List Str) (x : Str) : Prop := openB x = false ∧ ∀ T, plainS T ws = glueS T x
inductive Blks : List Str → List Str → Prop
  | nil : Blks [] []
  | cons {w ws xs : List Str} {x : Str} : Blk w x → Blks ws xs → Blks (w ++ ws) (x :: xs)
theorem Blks.app {ws xs vs ys : List Str} (h : Blks ws xs) (k : Blks vs ys) : Blks (ws ++ vs) (xs ++ ys) := by
  induction h with
  | nil => exact k
  | cons b _ ih => rw [List.append_assoc]; exact .cons b ih
theorem Blks.one {w : List Str} {x : Str} (h : Blk w x) : Blks w [x] := by have := Blks.cons h .nil; rwa [List.append_nil] at this
theorem txt_join (ys : List Str) : Txt.join spS ys = Str.join spS ys := StrLaws.glued_eq_join spS ys
theorem join_two (x y : Str) (r : List Str) : Txt.join spS (x :: y :: r) = (x ++ spS) ++ Txt.join spS (y :: r) := by rw [txt_join, txt_join]; rfl
theorem join_one (x : Str) : Txt.join spS [x] = x := by rw [txt_join]; rfl
theorem Blks.join {ws xs : List Str} (h : Blks ws xs) : xs ≠ [] → Blk ws (Txt.join spS xs) := by
  induction h with
  | nil => intro h; exact absurd rfl h
  | @cons w ws xs x b hb ih =>
    intro _
    cases xs with
    | nil =>
      obtain rfl : ws = [] := by cases hb; rfl
      rw [List.append_nil, join_one]; exact b
    | cons y r =>
      have i := ih (by simp)
      refine ⟨?_, fun T => ?_⟩
      · rw [join_two]; exact openB_app i.1
      · rw [plainS_app, b.2, i.2, glue_shut (openB_glue b.1), join_two]
        unfold glueS
        split <;> simp only [app_as]
theorem openB_lpar (T : Str) : openB (T ++ lpar) = true := by rw [openB_snoc (l := cl T) (c := 40) (by rw [cl_app, cl_lpar])]; rfl
theorem openB_rpar (T : Str) : openB (T ++ rpar) = false := by rw [openB_snoc (l := cl T) (c := 41) (by rw [cl_app, cl_rpar])]; rfl
theorem lpar_ne : (lpar == rpar) = false := by decide +kernel
theorem plainA_word {T w : Str} (h : (w == rpar) = false) : (T ++ plainA T w) ++ w = glueS T w := by
  rw [plainA_eq, h, Bool.or_false]
  unfold glueS
  split
  · rw [app_nils]
  · rfl
noncomputable def wrapS (ys : List Str) : Str := (lpar ++ Txt.join spS ys) ++ rpar
theorem Blks.wrap {ws xs : List Str} (h : Blks ws xs) (hx : xs ≠ []) : Blk (lpar :: (ws ++ [rpar])) (wrapS xs) := by
  have b := h.join hx
  refine ⟨openB_rpar _, fun T => ?_⟩
  have e : plainS T (lpar :: (ws ++ [rpar])) = plainS ((T ++ plainA T lpar) ++ lpar) (ws ++ [rpar]) := rfl
  rw [e, plainS_app, b.2, plainA_word lpar_ne]
  have o : openB (glueS T lpar) = true := by unfold glueS; split <;> exact openB_lpar _
  rw [glue_open o]
  have e2 : ∀ z, plainS z [rpar] = (z ++ plainA z rpar) ++ rpar := fun _ => rfl
  rw [e2, plainA_eq, show (rpar == rpar) = true by decide +kernel, Bool.or_true, if_pos rfl, app_nils]
  unfold glueS wrapS
  split <;> simp only [app_as]
theorem op_last {x : Str} (h : isOpS x = true) : openB x = false := by
  unfold isOpS at h
  simp only [Bool.and_eq_true, Array.all_eq_true', bne_iff_ne] at h
  rcases cl_cases x with k | ⟨l, c, k⟩
  · exact absurd (cl_eq_nil.mp k) h.1
  · rw [openB_snoc k]
    have hc : okC c = true := h.2 c (by
      have : c ∈ cl x := by rw [k]; simp
      simpa [cl] using this)
    refine beq_eq_false_iff_ne.mpr ?_
    rintro rfl
    revert hc; decide +kernel
theorem Blk.op {x : Str} (h : isOpS x = true) : Blk [x] x := ⟨op_last h, fun T => plainA_word (op_rpar h)⟩
noncomputable def tmText : Tm → Str
  | .leaf op => op
  | .one op a => wrapS [op, tmText a]
  | .two op a b => wrapS [op, tmText a, tmText b]
theorem tm_blk : ∀ {t : Tm}, GoodTm t → Blk (tmWords t) (tmText t)
  | .leaf op, h => Blk.op h
  | .one op a, h => by
    have := Blks.wrap (.cons (Blk.op h.1) (Blks.one (tm_blk h.2))) (by simp)
    simpa only [tmWords, tmText, List.cons_append, List.nil_append] using this
  | .two op a b, h => by
    have := Blks.wrap (.cons (Blk.op h.1) (.cons (tm_blk h.2.1) (Blks.one (tm_blk h.2.2)))) (by simp)
    simpa only [tmWords, tmText, List.cons_append, List.nil_append, List.append_assoc] using this
noncomputable def pairS (x : Str × Tm) : Str := (x.1 ++ spS) ++ tmText x.2
noncomputable def ppTx : Bool → Pp → List Str
  | _, .told l => [wrapS [kTold, l]]
  | _, .same t => [wrapS [kSame, tmText t]]
  | _, .rule l ps => [wrapS (kRule :: l :: ps.map pairS)]
  | _, .turn p => [wrapS (kTurn :: ppTx false p)]
  | true, .join p q => ppTx true p ++ ppTx false q
  | false, .join p q => [wrapS (kJoin :: (ppTx true p ++ ppTx false q))]
  | _, .under0 l => [wrapS [kUnder, l]]
  | _, .under1 l p => [wrapS (kUnder :: l :: ppTx false p)]
  | _, .under2 l p q => [wrapS (kUnder :: l :: (ppTx false p ++ ppTx false q))]
theorem row_blk : ∀ {ps : List (Str × Tm)}, (∀ x ∈ ps, isOpS x.1 = true ∧ GoodTm x.2) → Blks (rowWords ps) (ps.map pairS)
  | [], _ => .nil
  | (x, t) :: ps, h => by
    have h1 := h _ (.head _)
    have b := (Blks.cons (Blk.op h1.1) (Blks.one (tm_blk h1.2))).join (by simp)
    rw [join_two, join_one] at b
    have := Blks.cons b (row_blk (fun y hy => h y (.tail _ hy)))
    simpa only [rowWords, pairS, List.map_cons, List.cons_append, List.nil_append] using this
theorem xy_op : isOpS xName = true ∧ isOpS yName = true := by decide +kernel
theorem PsOk.all {ps : List (Str × Tm)} (h : PsOk ps) : ∀ x ∈ ps, isOpS x.1 = true ∧ GoodTm x.2 := by
  rcases h with rfl | ⟨t, g, rfl⟩ | ⟨t, t', g, g', rfl⟩
  · intro x hx; cases hx
  · intro x hx; obtain rfl := List.mem_singleton.mp hx; exact ⟨xy_op.1, g.1⟩
  · intro x hx
    k_extra "c41"
    · exact ⟨xy_op.1, g.1⟩
    · obtain rfl := List.mem_singleton.mp hx; exact ⟨xy_op.2, g'.1⟩
theorem pp_blk : ∀ (p : Pp) (b : Bool), GoodPp p → Blks (ppW b p) (ppTx b p)
  | .told l, b, g => by
    have := Blks.one (Blks.wrap (.cons (Blk.op op_kind.2.1) (Blks.one (Blk.op g))) (by simp))
    k_extra "c36"
  | .same t, b, g => by
    have := Blks.one (Blks.wrap (.cons (Blk.op op_kind.1) (Blks.one (tm_blk g.1))) (by simp))
    k_extra "c36"
  | .rule l ps, b, g => by
    have := Blks.one (Blks.wrap (.cons (Blk.op op_kind.2.2.1) (.cons (Blk.op g.1) (row_blk g.2.all))) (by simp))
    k_extra "c36"
  | .turn p, b, g => by
    have := Blks.one (Blks.wrap (.cons (Blk.op op_kind.2.2.2.1) (pp_blk p false g)) (by simp))
    k_extra "c36"
  | .join p q, true, g => by
    have := (pp_blk p true g.1).app (pp_blk q false g.2)
    simpa only [ppW, ppTx] using this
  | .join p q, false, g => by
    have := Blks.one (Blks.wrap (.cons (Blk.op op_kind.2.2.2.2.1) ((pp_blk p true g.1).app (pp_blk q false g.2))) (by simp))
    simpa only [ppW, ppTx, List.cons_append, List.nil_append, List.append_assoc] using this
  | .under0 l, b, g => by
    have := Blks.one (Blks.wrap (.cons (Blk.op op_kind.2.2.2.2.2) (Blks.one (Blk.op g))) (by simp))
    k_extra "c36"
  | .under1 l p, b, g => by
    have := Blks.one (Blks.wrap (.cons (Blk.op op_kind.2.2.2.2.2) (.cons (Blk.op g.1) (pp_blk p false g.2))) (by simp))
    k_extra "c36"
  | .under2 l p q, b, g => by
    have := Blks.one (Blks.wrap (.cons (Blk.op op_kind.2.2.2.2.2) (.cons (Blk.op g.1) ((pp_blk p false g.2.1).app (pp_blk q false g.2.2)))) (by simp))
    cases b <;> simpa only [ppW, ppTx, List.cons_append, List.nil_append, List.append_assoc] using this
theorem ppTx_one : ∀ (p : Pp), ∃ x, ppTx false p = [x]
  | .told _ | .same _ | .rule _ _ | .turn _ | .join _ _ | .under0 _ | .under1 _ _ | .under2 _ _ _ => ⟨_, rfl⟩
noncomputable def ppText (p : Pp) : Str := (ppTx false p).headD nils
theorem ppTx_text (p : Pp) : ppTx false p = [ppText p] := by obtain ⟨x, h⟩ := ppTx_one p; unfold ppText; rw [h]; rfl
theorem openB_nils : openB nils = true := by unfold openB; rw [cl_nils]; rfl
theorem pp_plain {p : Pp} (g : GoodPp p) : plainS nils (ppW false p) = ppText p := by
  have := ((pp_blk p false g).join (by rw [ppTx_text]; simp)).2 nils
  rw [this, glue_open openB_nils, nils_app, ppTx_text, join_one]
theorem tm_plain {t : Tm} (g : GoodTm t) : plainS nils (tmWords t) = tmText t := by
  rw [(tm_blk g).2, glue_open openB_nils, nils_app]
theorem ePL51 : True := trivial
end Mine
-- TermT
namespace Mine
example : True := by
  k_with "fk" => first | ((fail_if_success have hzz := eTermT1); (with_reducible (first | exact fk133 (by assumption) (by assumption) (by assumption) | exact fk134 (by assumption) (by assumption) | exact fk135 (by assumption) (by assumption) (by assumption) | exact fk136 (by assumption) | exact fk137 (by assumption) (by assumption) (by assumption) (by assumption) | exact fk138 (by assumption) (by assumption) | exact fk139 (by assumption) (by assumption) (by assumption) (by assumption) | exact fk140 (by assumption) | exact fk141 (by assumption)))) | fail
  trivial
open LCg
theorem comp1_end {h₀ : Heap} {L I C D : Addr} {m : Str → Option Value} {s₁ : Shared} {oI oC : Obj} {ys : List Value} {S : Led → Prop} {rest : Value → Led → Prop} {z : Value} {h' : Heap} {tk : Nat} {all r1 r2 news' : Led}
    (F : Fr h₀ L h' m) (N : News h₀ L h' all) (p1 : Pick I oI all r1) (p2 : Pick C oC r1 r2) (p3 : Pick D (lst ys) r2 news') (off : LCg.Off3 I C D news') (hS : S news') (hsz : ys.length ≤ 1000000) (r : rest z news') :
    CompEnd1 h₀ L m s₁ I oI C oC D ys S rest z { s₁ with heap := h', toks := tk } := by
  refine ⟨h', tk, news', rfl, F, News.sub N (fun p hp => ?_), off, hS, hsz, r⟩
  k_extra "c22"
  · exact p1.sub _ (.head _)
  · rcases List.mem_cons.mp hp with rfl | hp
    · k_extra "c155"
    · k_extra "c113"
section
variable {prog : Program} {w : World} {A : Around} {h₀ : Heap} {L : Addr} {m : Str → Option Value} {env : Env} {elt : Expr} {scope : Scope} {cl : List (Str × Addr)} {s : Shared} {S : Led → Prop} {G : Nat → (Str → Option Value) → Prop} {Fin : List Value → Led → Prop}
theorem comp1_zero {i : Nat} {ys : List Value} {news : Led} (h : Fin ys news) : CompRest1 prog w A h₀ L m env elt scope cl s S G Fin 0 i ys news := h
theorem comp1_succ {k i : Nat} {ys : List Value} {news : Led}
    (h : ∀ I oI C oC D m₂ h tk (E' : Value → Shared → Prop), NsObj oC m₂ → G i m₂ → Fr h₀ L h m → News h₀ L h ((I, oI) :: (C, oC) :: (D, lst ys) :: news) → LCg.Off3 I C D news → ((@Ne Nat I C) ∧ (@Ne Nat I D) ∧ (@Ne Nat C D)) →
      wpAny (model prog w) A (eval elt (compEnvC scope cl C env)) (CompEnd1 h₀ L m { s with heap := h, toks := tk } I oI C oC D ys S (fun y news' => CompRest1 prog w A h₀ L m env elt scope cl s S G Fin k (i + 1) (ys ++ [y]) news')) E' { s with heap := h, toks := tk }) :
    CompRest1 prog w A h₀ L m env elt scope cl s S G Fin (k + 1) i ys news := h
end
noncomputable def joinZ (ys : List Str) : Nat := (ys.map (·.length)).sum + ys.length
section
variable {prog : Program} {w : World} {A : Around} {E : Value → Shared → Prop} {s : Shared} {h₀ : Heap} {L : Addr} {news : Led} {x : Str} {t : Tok}
theorem m_join {D : Addr} {vs : List Value} {ys : List Str} {n : Nat} {Q : Value → Shared → Prop} {hp g d tk os} (N : News h₀ L hp news) (hm : (D, listOf vs.toArray n) ∈ news) (hi : StrsAre vs ys) (hz : joinZ ys ≤ 1000000)
    (h : ∀ t' k, Q (.str (Txt.join spS ys) t') ⟨hp, g, d, k, os⟩) : wpAny (model prog w) A (call (.builtin "str.join") [.str (Str.ofString " ") t, .ref D]) Q E ⟨hp, g, d, tk, os⟩ :=
  join_listW (N.isList hm) (by simpa using hi) (by decide +kernel) (by unfold joinZ at hz; omega) h
end
theorem join_len (ys : List Str) : (Txt.join spS ys).cps.size ≤ joinZ ys := by
  have h := StrLaws.join_length_le spS ys
  show (Builtin.Str.glued spS ys).length ≤ _
  rw [StrLaws.glued_eq_join]
  have e : spS.length = 1 := by decide +kernel
  rw [e, Nat.mul_one] at h
  exact h
theorem sz_lp : (Str.ofString "(").cps.size = 1 := by decide +kernel
theorem sz_rp : (Str.ofString ")").cps.size = 1 := by decide +kernel
noncomputable def tmZ : Tm → Nat
  | .leaf op => op.cps.size
  | .one op a => op.cps.size + tmZ a + 4
  | .two op a b => op.cps.size + tmZ a + tmZ b + 5
theorem tmText_le : ∀ t, (tmText t).cps.size ≤ tmZ t
  | .leaf op => Nat.le_refl _
  | .one op a => by
    have h1 := tmText_le a
    have h2 := join_len [op, tmText a]
    k_extra "c101"
    simp only [tmText, wrapS, size_app, sz_lp, sz_rp, tmZ]
    omega
  | .two op a b => by
    have h1 := tmText_le a
    have h1' := tmText_le b
    have h2 := join_len [op, tmText a, tmText b]
    k_extra "c101"
    simp only [tmText, wrapS, size_app, sz_lp, sz_rp, tmZ]
    omega
noncomputable def TTC (w : World) (mean : ExcName → Option Value) (mg mb : Str → Option Value) (t : Tm) : Prop := ∀ (v : Value) (news : Led), IsTm news v t → tmZ t ≤ 100000 → Tri LAW hd.heap_39 w mean mg mb 274 [v] (tmDepth t + 4) (60 * (tmDepth t + 2)) news (fun r nw => ∃ tk, r = .str (tmText t) tk ∧ nw = news)
set_option Elab.async true in
theorem tt_use {w : World} {mean : ExcName → Option Value} {mg mb : Str → Option Value} {dp un : Nat} {gd : Option (List Code)} {cn : Str} {cs : Scope} {a : Addr} {ccd : Value} {cl : List (Str × Addr)} {outer : List Env} {A₀ : Around} {base h₀ : Heap} {L : Addr} {m : Str → Option Value} {s : Shared} {Q E : Value → Shared → Prop} {t : Tm} {v : Value} {all : Led} (B : Below A₀ base outer h₀) (F : Fr h₀ L s.heap m) (X : (hd.heap_39 w.params).In h₀) (N : News h₀ L s.heap all) (T : Top view (looseW view []) mean mg mb h₀) (hk : cs.kind = .function) (hv : IsTm all v t) (C : TTC w mean mg mb t)
    (hl : tmZ t ≤ 100000) (hd : dp + (tmDepth t + 4) < recursionLimit) (hu : un + 60 * (tmDepth t + 2) < cLine)
    (h : ∀ tk h' tk', Fr h₀ L h' m → News h₀ L h' all → Q (.str (tmText t) tk) { s with heap := h', toks := tk' }) :
    wpAny (model PySem.Challenge.rw_pq0122_01.row.prog w) (ktrTop dp un gd cn cs L a ccd cl outer) (call (.ref 274) [v]) Q E s := by
  k_extra "c75"
  rintro r news' h' tk' F' N' ⟨tk, rfl, rfl⟩
  exact h tk h' tk' F' N'
in #guard_msgs (drop info, drop warning) in open Nat
theorem sub_news {h₀ h : Heap} {L : Addr} {news all tl : Led} (N : News h₀ L h all) (t : Tail news all tl) : News h₀ L h news := News.sub N fun p hp => by rw [t.eq]; exact List.mem_append_right _ hp
theorem eTermT1 : True := trivial
end Mine
namespace Mine
example : True := by
  k_with "fk" => first | ((fail_if_success have hzz := eTermT3); (with_reducible (first | exact fk133 (by assumption) (by assumption) (by assumption) | exact fk134 (by assumption) (by assumption) | exact fk135 (by assumption) (by assumption) (by assumption) | exact fk136 (by assumption) | exact fk137 (by assumption) (by assumption) (by assumption) (by assumption) | exact fk138 (by assumption) (by assumption) | exact fk139 (by assumption) (by assumption) (by assumption) (by assumption) | exact fk140 (by assumption) | exact fk141 (by assumption)))) | fail
  trivial
open LCg
example : True := by
  k_with "k_all" => first | ((fail_if_success have hzz := eTermT3); (first | with_reducible assumption | with_reducible exact List.forall_mem_nil _ | ((with_reducible refine List.forall_mem_cons.mpr ⟨?_, ?_⟩) <;> first | exact ne_ltR (by with_reducible assumption) | exact ne_ofR (by with_reducible assumption) (by k_mem) | exact ne_ofA (by with_reducible assumption) (by k_mem) | exact off3_I (by with_reducible assumption) (by k_mem) | exact off3_C (by with_reducible assumption) (by k_mem) | exact off3_D (by with_reducible assumption) (by k_mem) | exact Nat.ne_of_lt (by with_reducible assumption) | exact ne_ofL (by with_reducible assumption) (by k_mem) | exact ne_S (by with_reducible assumption) | exact ne_SS (by with_reducible assumption) | k_ne | k_all) | exact fun q hq => Nat.ne_of_lt (ktn_ltOf (by with_reducible assumption) q hq) | exact fun q hq => ne_allW (by with_reducible assumption) q (by k_mem) | ((with_reducible refine List.forall_mem_append.mpr ⟨?_, ?_⟩) <;> k_all) | exact fun p hp => Above.atW (by with_reducible assumption) (by k_mem) hp | exact fun q hq => Nat.ne_of_lt (ktn_ltOf (by assumption) q hq) | assumption)) | fail
  k_with "k_mem" => first | ((fail_if_success have hzz := eTermT3); (first | ((repeat (first | exact List.Mem.head _ | apply List.Mem.tail | apply mem_inr | with_reducible assumption | assumption)); done) | exact mem_upW (by with_reducible assumption) (fun p hp => by (simp only [List.mem_cons, List.mem_append, hp, true_or, or_true]; done)))) | fail
  k_with "k_room" => first | ((fail_if_success have hzz := eTermT3); (ktr_room)) | fail
  k_with "ktr_room" => first | ((fail_if_success have hzz := eTermT3); (first | ((try dsimp only [ktrTop]); omega) | ((try dsimp only [ktrTop]); (simp only [tmDepth] at *); omega))) | fail
  k_with "ktr_units" => first | ((fail_if_success have hzz := eTermT3); (first | ((try dsimp only [ktrTop]); omega) | ((try dsimp only [ktrTop]); (simp only [tmDepth] at *); omega))) | fail
  k_with "call ref" => first | ((fail_if_success have hzz := eTermT3); (k_here; refine stuck_of ?_)) | fail
  k_with "callWith ref cons nil" => first | ((fail_if_success have hzz := eTermT3); (k_here; k_dflt (first | (refine callWith_K0 (by k_in) (by k_is) ?_; k_whole) | (refine callWith_K (by k_asm) (by k_is) ?_; k_whole)))) | fail
  k_with "k_in" => first | ((fail_if_success have hzz := eTermT3); (first | with_reducible assumption | with_reducible exact Frag.In.keeps (by with_reducible assumption) (Fr.keep (by with_reducible assumption)) | exact Frag.In.keeps (by k_asm) (Fr.keep (by k_asm)))) | fail
  k_with "Src2" => first | ((fail_if_success have hzz := eTermT3); (k_here; refine stuck_of ?_)) | fail
  k_with "Src1" => first | ((fail_if_success have hzz := eTermT3); (k_here; refine stuck_of ?_)) | fail
  k_with "eval ListComp" => first | ((fail_if_success have hzz := eTermT3); (k_here; k_dflt (first | refine ListComp_2 (by k_asm) (by with_unfolding_all rfl) (by decide) (by rfl) (by decide) (by rfl) ?_ (by decide) (by intro _; rfl) (by intro _ _; rfl) | refine ListComp_1 (by k_asm) (by with_unfolding_all rfl) (by decide) (by rfl) (by decide) ?_ (by intro _; rfl)))) | fail
  k_with "CompRest2" => first | ((fail_if_success have hzz := eTermT3); (k_dflt (refine comp2_succ ?_); intro qI9 qoI9 qC9 qoC9 qD9 qm9 qh9 qtk9 qE9 qhC9 qhG9 qF9 qN9 qoff9 qne9; obtain ⟨qv9, qhv9, qhx9⟩ := qhG9; (simp only [List.getElem?_toArray, List.getElem?_cons_zero, List.getElem?_cons_succ, Nat.zero_add, Option.some.injEq] at qhv9); subst qhv9)) | fail
  k_with "CompEnd2" => first | ((fail_if_success have hzz := eTermT3); ((repeat (with_reducible rename _ ∧ _ => qhc9; obtain ⟨_, _⟩ := qhc9)); k_dflt (refine comp2_end (by k_asm) (by k_asm) (by k_extra "c3") (by k_extra "c3") (by k_extra "c3") (by k_extra "c6") (by k_extra "c13") (by k_mem) (by k_extra "c16") ?_); (try dsimp only); (try with_reducible_and_instances (refine comp2_zero ?_)); (try simp only [List.nil_append]))) | fail
  k_with "CompEnd1" => first | ((fail_if_success have hzz := eTermT3); (refine stuck_of ?_)) | fail
  k_with "CompRest1" => first | ((fail_if_success have hzz := eTermT3); (k_dflt (refine comp1_succ ?_); intro qI9 qoI9 qC9 qoC9 qD9 qm9 qh9 qtk9 qE9 qhC9 qhG9 qF9 qN9 qoff9 qne9; obtain ⟨qv9, qhv9, qhx9⟩ := qhG9; (simp only [List.getElem?_toArray, List.getElem?_cons_zero, List.getElem?_cons_succ, Nat.zero_add, Option.some.injEq] at qhv9); subst qhv9)) | fail
  k_with "CompEnd1" => first | ((fail_if_success have hzz := eTermT3); ((repeat (with_reducible rename _ ∧ _ => qhc9; obtain ⟨_, _⟩ := qhc9)); k_dflt (refine comp1_end (by k_asm) (by k_asm) (by k_extra "c3") (by k_extra "c3") (by k_extra "c3") (by k_extra "c6") (by k_extra "c13") (by k_extra "c16") ?_); (try dsimp only); (try with_reducible_and_instances (refine comp1_zero ?_)); (try simp only [List.nil_append]))) | fail
  k_with "subscriptTail Name Slice ref ref" => first | ((fail_if_success have hzz := eTermT3); (k_here; k_dflt (refine m_tupFrom (by k_asm) (by k_asm) (by k_mem) (by simp) (by simp) (by k_extra "c33") ?_ (by with_unfolding_all rfl) (by k_extra "c23")); intro qD' qh' qF' qN' ql1; (try k_lt ql1); (try k_sweep))) | fail
  k_with "call ref" => first | ((fail_if_success have hzz := eTermT3); (k_here; (with_reducible show wpAny _ _ (call (Value.ref 274) _) _ _ _); first | (k_dflt (refine tt_use (by k_asm) (by k_asm) (by k_asm) (by k_asm) (by k_asm) (by k_extra "c9") (IsTm.mono (by assumption) (fun p hp => by simp only [List.mem_cons, List.mem_append, hp, true_or, or_true])) (by assumption) (by omega) (by ktr_room) (by ktr_units) ?_); intro qtk9 qh9 qtk9' qF9 qN9; (try k_sweep); (try k_fold)) | refine stuck_of ?_)) | fail
  k_with "call builtin:str.join" => first | ((fail_if_success have hzz := eTermT3); (k_here; k_dflt (refine m_join (by k_asm) (by k_mem) (by k_extra "c45") (by k_extra "c27") ?_); intro qt9 qtk9)) | fail
  k_with "binaryOp Add str str" => first | ((fail_if_success have hzz := eTermT3); (k_here; with_reducible (refine m_addS (by k_extra "c57") ?_); intro qt9 qtk9)) | fail
  k_with "binaryOp Add ref ref" => first | ((fail_if_success have hzz := eTermT3); (k_here; k_dflt (refine m_addL (by k_asm) (by k_asm) (by k_mem) (by k_mem) (by k_extra "c16") ?_); intro qD' qh' qF' qN' ql1; (try k_lt ql1); (try k_sweep))) | fail
  k_with "eval ListComp Call cons" => first | ((fail_if_success have hzz := eTermT3); (k_here; k_dflt (refine ListComp_1 (by k_asm) (by with_unfolding_all rfl) (by decide) (by rfl) (by decide) ?_ (by intro _; rfl)))) | fail
  k_with "eval ListComp BinOp cons" => first | ((fail_if_success have hzz := eTermT3); (k_here; k_dflt (refine ListComp_1 (by k_asm) (by with_unfolding_all rfl) (by decide) (by rfl) (by decide) ?_ (by intro _; rfl)))) | fail
  k_with "ite" => first | ((fail_if_success have hzz := eTermT3); (k_here; first | (with_reducible refine ite_pos (by assumption) ?_) | (with_reducible refine ite_neg (by assumption) ?_) | (with_reducible refine ite_pos (by k_dflt rfl) ?_) | (with_reducible refine ite_isFalse (by k_dflt rfl) ?_))) | fail
  trivial
namespace Z
example : True := by
  k_with "eps" => first | ((fail_if_success have hzz := zTermT6); skip) | fail
  trivial
set_option Elab.async true in
set_option maxHeartbeats 1000000 in
theorem tt_tri : ∀ (w : World) (mean : ExcName → Option Value) (mg : Str → Option Value) (mb : Str → Option Value), ∀ t, TTC w mean mg mb t := by
  intro w mean mg mb
  k_extra "c11"
  clear hK
  w_top off
  refine tm_ind ?_ ?_ ?_
  · intro op
    intro v news hv hl
    unfold Tri
    k_extra "c14"
    obtain ⟨b9, tk9, n9, rfl, hm⟩ := isTm_leaf hv
    refine wpAny_call ?_
    k_dflt ktr_enter
    k_steps
    k_extra "c10"
    k_extra "c68"
  · intro op x ih
    intro v news hv hl
    unfold Tri
    k_extra "c14"
    have zx := tmText_le x
    have hlx : tmZ x ≤ 100000 := by simp only [tmZ] at hl; omega
    have hlx' : op.cps.size + tmZ x ≤ 100000 := by simp only [tmZ] at hl; omega
    have zj := join_len [op, tmText x]
    k_extra "c100"
    obtain ⟨b9, tk9, n9, u9, rfl, hm, hx⟩ := isTm_one hv
    refine wpAny_call ?_
    k_dflt ktr_enter
    k_steps
    refine ⟨?_⟩
    k_extra "c37"
    k_steps
    k_extra "c10"
    k_extra "c68"
  · intro op x y ih1 ih2
    intro v news hv hl
    unfold Tri
    k_extra "c14"
    have zx := tmText_le x
    have zy := tmText_le y
    have hlx : tmZ x ≤ 100000 := by simp only [tmZ] at hl; omega
    have hly : tmZ y ≤ 100000 := by simp only [tmZ] at hl; omega
    have hlx' : op.cps.size + tmZ x + tmZ y ≤ 100000 := by simp only [tmZ] at hl; omega
    have zj := join_len [op, tmText x, tmText y]
    k_extra "c100"
    k_extra "c119"
    k_extra "c118"
    obtain ⟨b9, tk9, n9, u9, z9, rfl, hm, hx, hy⟩ := isTm_two hv
    refine wpAny_call ?_
    k_dflt ktr_enter
    k_steps
    refine ⟨?_⟩
    k_extra "c37"
    k_steps
    k_extra "c10"
    k_extra "c68"
in #guard_msgs (drop info, drop warning) in open Nat
theorem zTermT6 : True := trivial
end Z
theorem eTermT3 : True := trivial
end Mine
namespace Mine
theorem eom1 : True := trivial
end Mine
-- Exc
namespace Mine
example : True := by
  k_with "omega" => first | ((fail_if_success have hzz := eExc1); omega (config := {})) | fail
  trivial
section
variable {M : Model} {A : Around} {E : Value → Shared → Prop} {h : Heap} {g : Array GenState} {d : Drawn} {t : Nat} {os : OsState}
variable {nm q : Str} {C N : Addr} {bs bm bm0 : List Value} {hdct : Bool} {sn : List Str} {sub : List Value} {ab : Bool} {col : Option Bool} {dd : Option Addr} {k0 k1 k2 k3 k5 : Option Value} {B newId initId : String}
theorem x_check_new (F : ExcBaseFacts B newId initId bm0) (hB : bm.contains (.type B) = true) {rest : List Value} {Q : Unit → Shared → Prop} (hC : h.get? C = some (excClassObj nm q C N bs bm hdct sn sub ab col dd k0 k1 k2 k3 k5 newId))
    (hq : Q () ⟨h, g, d, t, os⟩) : wpAny M A (checkBuiltinCall newId ⟨.ref C :: rest, []⟩) Q E ⟨h, g, d, t, os⟩ := by
  have hcont : (Value.ref C :: bm).contains (.type B) = true := by rw [List.contains_cons, hB, Bool.or_true]
  have hstar := F.noStar
  simp only [checkBuiltinCall, F.newKind, F.newSplit, F.newRow]
  repeat (first | with_reducible refine wpAny_loadPart_at hC ?_ | (with_reducible refine wpAny_isSubtype_exc hC ?_; rw [hcont]) | with_reducible refine wpAny_staticBase_exc hC ?_ | with_reducible refine wpAny_madeBy_exc hC ?_ | simp only [bne_self_eq_false, Bool.false_eq_true, if_false] | wp_step)
  exact hq
end
section
variable {prog : Program} {w : World} {A : Around} {R : Result → Shared → Prop} {h : Heap} {g : Array GenState} {d : Drawn} {t : Nat} {os : OsState}
variable {nm q : Str} {C N : Addr} {bs bm bm0 : List Value} {hdct : Bool} {sn : List Str} {sub : List Value} {ab : Bool} {col : Option Bool} {dd : Option Addr} {k0 k1 k2 k3 k5 : Option Value} {B newId initId : String}
set_option Elab.async true in
theorem x_new (F : ExcBaseFacts B newId initId bm0) (hB : bm.contains (.type B) = true) (hA : bm.contains (.type "AttributeError") = false) (hN : bm.contains (.type "NameError") = false) {rest : List Value}
    (hC : h.get? C = some (excClassObj nm q C N bs bm hdct sn sub ab col dd k0 k1 k2 k3 k5 newId))
    (hq : R (.ok (.ret (.ref (h.objs.size + 1)))) ⟨(h.push { cls := .type "tuple", data := .seq rest.toArray }).push
      { cls := .ref C, data := .fields #[.ref h.objs.size, .none, .none, .none, .bool false, .none] }, g, d, t, os⟩) (hrest : rest.length ≤ sizeLine) :
    codeAny (model prog w) A (.builtin newId ⟨.ref C :: rest, []⟩) R ⟨h, g, d, t, os⟩ := by
  have hends := F.ends
  have hcB : (Value.ref C :: bm).contains (.type B) = true := by rw [List.contains_cons, hB, Bool.or_true]
  have hcA : (Value.ref C :: bm).contains (.type "AttributeError") = false := by rw [List.contains_cons, hA]; rfl
  have hcN : (Value.ref C :: bm).contains (.type "NameError") = false := by rw [List.contains_cons, hN]; rfl
  refine codeAny_builtinAt F.entry ?_
  unfold Builtin.«BaseException.__new__»
  refine PySem.wpAt_bind ?_
  show PySem.wpAt _ _ _ (stack >>= _) _ _ _
  refine PySem.wpAt_bind (PySem.wpAt_stack fun p below => PySem.wpAt_of_wpAny ?_)
  wp_walk
  refine PySem.wpAt_of_wpAny ?_
  rw [F.owner]
  repeat (first | with_reducible refine wpAny_madeHere_exc F.canon hC ?_ | with_reducible refine wpAny_loadPart_at hC ?_ | (with_reducible refine wpAny_isSubtype_exc hC ?_; first | rw [hcB] | rw [hcA] | rw [hcN]) | wp_step)
  show R _ _
  rw [Heap.size_push]
  exact hq
in #guard_msgs (drop info, drop warning) in open Nat
set_option Elab.async true in
theorem x_type_call (F : ExcBaseFacts B newId initId bm0) (hB : bm.contains (.type B) = true) (hA : bm.contains (.type "AttributeError") = false) (hN : bm.contains (.type "NameError") = false) {K : Frag} (X : K.In h) {fI : Addr} (hf : typeIn K (.ref fI) = some (.type "function"))
    {E : Value → Shared → Prop} {rest : List Value} {Q : Fin → Shared → Prop}
    (hC : h.get? C = some (excClassObj nm q C N bs bm hdct sn sub ab col dd k0 k1 k2 k3 k5 newId)) (hi : findIn K (.ref C) "__init__" = some (some (.ref fI))) (hrest : rest.length ≤ sizeLine)
    (hq : wpAny (model prog w) A (call (.ref fI) (.ref (h.objs.size + 1) :: rest)) (fun v s' => v = .none ∧ Q (.done (.ret (.ref (h.objs.size + 1)))) s') E ⟨(h.push { cls := .type "tuple", data := .seq rest.toArray }).push
      { cls := .ref C, data := .fields #[.ref h.objs.size, .none, .none, .none, .bool false, .none] }, g, d, t, os⟩) :
    wpAny (model prog w) A (Builtin.«type.__call__» ⟨.ref C :: rest, []⟩) Q E ⟨h, g, d, t, os⟩ := by
  repeat (first | with_reducible refine wpAny_loadPart_at hC ?_ | with_reducible refine wpAny_madeBy_exc hC ?_ | wp_step)
  refine codeAny_call_builtin_code (Code.quiet_builtin _ F.quiet) (x_check_new F hB hC ?_)
  refine x_new F hB hA hN hC ?_ hrest
  show wpAny _ _ _ _ _ _
  have hC₁ := Heap.get?_push_of_some { cls := .ref C, data := .fields #[.ref h.objs.size, .none, .none, .none, .bool false, .none] }
    (Heap.get?_push_of_some { cls := .type "tuple", data := .seq rest.toArray } hC)
  have X₁ : K.In ((h.push { cls := .type "tuple", data := .seq rest.toArray }).push { cls := .ref C, data := .fields #[.ref h.objs.size, .none, .none, .none, .bool false, .none] }) := X.keeps fun b o e => Heap.get?_push_of_some _ (Heap.get?_push_of_some _ e)
  have hget : ((h.push { cls := .type "tuple", data := .seq rest.toArray }).push
      { cls := .ref C, data := .fields #[.ref h.objs.size, .none, .none, .none, .bool false, .none] }).get? (h.objs.size + 1) = some
      { cls := .ref C, data := .fields #[.ref h.objs.size, .none, .none, .none, .bool false, .none] } := by heap_get
  have hcC : (Value.ref C :: bm).contains (.ref C) = true := by simp
  unfold isInstance
  repeat (first | with_reducible refine wpAny_loadPart_at hget ?_ | (with_reducible refine wpAny_isSubtype_exc hC₁ ?_; rw [hcC]) | wp_step)
  refine (looks_findIn X₁ hi).here ?_
  refine wpAny_holding (wpAny_bind ((bind_fn X₁ _ hf).here ?_))
  refine wpAny_bind (wpAny_mono hq (fun v s' hv => ?_) fun _ _ e => e)
  obtain ⟨rfl, hv⟩ := hv
  obtain ⟨hp, g', d', t', os'⟩ := s'
  wp_walk
  exact hv
in #guard_msgs (drop info, drop warning) in open Nat
set_option Elab.async true in
theorem x_call (F : ExcBaseFacts B newId initId bm0) (hB : bm.contains (.type B) = true) (hA : bm.contains (.type "AttributeError") = false) (hN : bm.contains (.type "NameError") = false) {K : Frag} (X : K.In h) {fI : Addr} (hf : typeIn K (.ref fI) = some (.type "function"))
    {E : Value → Shared → Prop} {rest : List Value} {Q : Value → Shared → Prop}
    (hC : h.get? C = some (excClassObj nm q C N bs bm hdct sn sub ab col dd k0 k1 k2 k3 k5 newId)) (hi : findIn K (.ref C) "__init__" = some (some (.ref fI))) (hrest : rest.length ≤ sizeLine)
    (hq : wpAny (model prog w) (A.under (.builtin "type.__call__" ⟨.ref C :: rest, []⟩)) (call (.ref fI) (.ref (h.objs.size + 1) :: rest)) (fun v s' => v = .none ∧ Q (.ref (h.objs.size + 1)) s') E ⟨(h.push { cls := .type "tuple", data := .seq rest.toArray }).push
      { cls := .ref C, data := .fields #[.ref h.objs.size, .none, .none, .none, .bool false, .none] }, g, d, t, os⟩) :
    wpAny (model prog w) A (call (.ref C) rest) Q E ⟨h, g, d, t, os⟩ := by
  have f1 := tc_lookup
  have f2 := tc_bind (.ref C)
  have hT : (⟨h, g, d, t, os⟩ : Shared).TypeIs (.ref C) "type" := ⟨_, hC, rfl⟩
  refine wpAny_call (codeAny_of_tree ?_)
  show wpAny _ _ (callAny (.ref C) _) _ _ _
  repeat (any_goals (first | assumption | with_reducible refine wpAny_loadPart_at hC ?_ | wp_step))
  refine ⟨rfl, ?_⟩
  refine codeAny_call_builtin_at (Code.quiet_builtin _ (by decide +kernel)) entry_typeCall (wpAny_check_type_call_sub hC (x_type_call F hB hA hN X hf hC hi hrest ?_))
  exact hq
in #guard_msgs (drop info, drop warning) in open Nat
end
theorem eExc1 : True := trivial
end Mine
-- Exc3
namespace Mine
example : True := by
  k_with "omega" => first | ((fail_if_success have hzz := eExc31); omega (config := {})) | fail
  trivial
theorem x_slot_get : Slot "wrapper_descriptor" "__get__" "wrapper_descriptor.__get__" := .of (owner := "wrapper_descriptor") (n := "__get__") (by rw [typeLookup_type, builtinLookup_eq_fast]; kernel_rfl) (by decide +kernel) (by decide +kernel) (by decide +kernel)
  (by first | exact .inl (by decide +kernel) | exact .inr (by decide +kernel)) (by rw [isSubtype_type]; kernel_rfl)
theorem x_entry_get : entryFor table "wrapper_descriptor.__get__" = some Builtin.«wrapper_descriptor.__get__» := entryFor_of_tree (by kernel_rfl)
theorem x_getArgs (a b c : Value) : argsOk "wrapper_descriptor.__get__" ⟨[a, b, c], []⟩ := by unfold argsOk; kernel_rfl
theorem x_type_init : typeOf (.builtin "Exception.__init__") = pure (.type "wrapper_descriptor") := by kernel_rfl
section
variable {prog : Program} {w : World} {M : Model} {A : Around} {E : Value → Shared → Prop} {h : Heap} {g : Array GenState} {d : Drawn} {t : Nat} {os : OsState}
variable {nm q : Str} {C Nn : Addr} {bs bm bm0 : List Value} {hdct : Bool} {sn : List Str} {sub : List Value} {ab : Bool} {col : Option Bool} {dd : Option Addr} {k0 k1 k2 k3 k5 : Option Value} {newId : String}
set_option Elab.async true in
set_option maxHeartbeats 2000000 in
theorem x_super_ga {so D x : Addr} {ox : Obj} {l : List Value} {K : Frag} {tk : Tok} {Q : Fin → Shared → Prop}
    (hso : h.get? so = some { cls := .type "super", dict := none, data := .fields #[.ref D, .ref x, .ref C], slots := #[] }) (hno : Looks (model prog w) h (opaqueClassAbove (.ref C)) none)
    (hC : h.get? C = some (excClassObj nm q C Nn bs bm hdct sn sub ab col dd k0 k1 k2 k3 k5 newId)) (hx : h.get? x = some ox) (hxc : ox.cls = .ref C) (hB : bm.contains (.type "Exception") = true) (hl : ((Value.ref C :: bm).dropWhile (· != .ref D)).drop 1 = l) (X : K.In h)
    (hf : alongIn K "__init__" l = some (some (.builtin "Exception.__init__"))) (hxC : x ≠ C)
    (hq : Q (.done (.ret (.ref h.objs.size))) ⟨h.push { cls := .type "method-wrapper", data := .fields #[.builtin "Exception.__init__", .ref x] }, g, d, t, os⟩) :
    wpAny (model prog w) A (Builtin.«super.__getattribute__» ⟨[.ref so, .str "__init__" tk], []⟩) Q E ⟨h, g, d, t, os⟩ := by
  have hlk := x_slot_get.lookup
  have hne : (Value.ref x == Value.ref C) = false := by simp [hxC]
  have hn : (("__init__" : Str) == ("__class__" : Str)) = false := by decide +kernel
  have hty := x_type_init
  have hdt : ({ cls := .type "super", dict := none, data := .fields #[.ref D, .ref x, .ref C], slots := #[] } : Obj).data = .fields #[.ref D, .ref x, .ref C] := rfl
  have f0 : (#[.ref D, .ref x, .ref C] : Array Value)[0]? = some (.ref D) := rfl
  have f1 : (#[.ref D, .ref x, .ref C] : Array Value)[1]? = some (.ref x) := rfl
  have f2 : (#[.ref D, .ref x, .ref C] : Array Value)[2]? = some (.ref C) := rfl
  have hT : (⟨h, g, d, t, os⟩ : Shared).TypeIs (.builtin "Exception.__init__") "wrapper_descriptor" := hty
  have hE : (".".intercalate ("Exception.__init__".cutAt '.').dropLast) = "Exception" := by decide +kernel
  k_extra "c110"
  unfold Builtin.«super.__getattribute__»
  repeat (first
    | focus ((with_reducible show wpAny _ _ (field _ _) _ _ _); first | with_reducible refine wpAny_field hso hdt f0 ?_ | with_reducible refine wpAny_field hso hdt f1 ?_ | with_reducible refine wpAny_field hso hdt f2 ?_)
    | (with_reducible refine ks_wpAny_notOpaque hno ?_)
    | (with_reducible refine wpAny_mroOf_exc hC ?_; rw [hl])
    | (refine ks_forIn_along X (fun _ _ => rfl) rfl ?_ hf)
    | (with_reducible refine wpAny_of_eq hty ?_)
    | (with_reducible refine wpAny_call_entry x_slot_get hT x_entry_get ?_ (x_getArgs _ _ _))
    | (with_reducible refine wpAny_loadPart_at hx ?_; rw [hxc])
    | (with_reducible refine wpAny_isSubtype_exc hC ?_; rw [hE, hcB])
    | (with_reducible refine ⟨_, rfl, ?_⟩)
    | (with_reducible refine wpAny_of_eq hlk ?_)
    | (simp only [hn, hne, Bool.or_false, Bool.false_eq_true, if_false])
    | wp_step
    | dsimp only)
  all_goals exact hq
in #guard_msgs (drop info, drop warning) in open Nat
end
theorem eExc31 : True := trivial
end Mine
-- Exc4
namespace Mine
example : True := by
  k_with "omega" => first | ((fail_if_success have hzz := eExc41); omega (config := {})) | fail
  trivial
section
variable {prog : Program} {w : World} {M : Model} {A : Around} {E : Value → Shared → Prop} {h : Heap} {g : Array GenState} {d : Drawn} {t : Nat} {os : OsState}
variable {nm q : Str} {C Nn : Addr} {bs bm bm0 : List Value} {hdct : Bool} {sn : List Str} {sub : List Value} {ab : Bool} {col : Option Bool} {dd : Option Addr} {k0 k1 k2 k3 k5 : Option Value} {newId : String}
set_option Elab.async true in
theorem x_getMethod_super {so D x : Addr} {ox : Obj} {l : List Value} {K : Frag} {pl : Sem Bool} {Q : Value × List Value → Shared → Prop}
    (hso : h.get? so = some { cls := .type "super", dict := none, data := .fields #[.ref D, .ref x, .ref C], slots := #[] }) (hno : Looks (model prog w) h (opaqueClassAbove (.ref C)) none)
    (hC : h.get? C = some (excClassObj nm q C Nn bs bm hdct sn sub ab col dd k0 k1 k2 k3 k5 newId)) (hx : h.get? x = some ox) (hxc : ox.cls = .ref C) (hB : bm.contains (.type "Exception") = true) (hl : ((Value.ref C :: bm).dropWhile (· != .ref D)).drop 1 = l) (X : K.In h)
    (hf : alongIn K "__init__" l = some (some (.builtin "Exception.__init__"))) (hxC : x ≠ C)
    (hq : Q (.ref h.objs.size, []) ⟨h.push { cls := .type "method-wrapper", data := .fields #[.builtin "Exception.__init__", .ref x] }, g, d, t + 1, os⟩) :
    wpAny (model prog w) A (getMethod (.ref so) "__init__" pl) Q E ⟨h, g, d, t, os⟩ := by
  have hlk := F.ks_slot_super_ga.lookup
  have hcan := F.ks_canon_super_ga
  have hT : ∀ t', (⟨h, g, d, t', os⟩ : Shared).TypeIs (.ref so) "super" := fun _ => ⟨_, hso, rfl⟩
  unfold getMethod
  refine wpAny_bind (wpAny_specialOf (hT _) hlk ?_)
  show wpAny _ _ (if (Manifest.canonical "super.__getattribute__" != "object.__getattribute__") = true then _ else _) _ _ _
  rw [if_pos hcan]
  unfold getAttr getAttrBy
  refine wpAny_bind (wpAny_bind (wpAny_mkText (wpAny_holding (wpAny_bind (wpAny_typeOf (hT _) (wpAny_bind (wpAny_of_eq hlk ?_)))))))
  show wpAny _ _ (getAttrByItsOwn (.ref so) (.str "__init__" t) (.type "super") (.builtin "super.__getattribute__") true false) _ _ _
  unfold getAttrByItsOwn hookBefore callGetattribute boundAndCalled
  refine wpAny_bind (wpAny_of_eq (show (if onTheHeap (.type "super") then typeLookup (.type "super") "__getattr__" else pure none) = pure none from rfl) ?_)
  refine wpAny_bind (wpAny_attempt (wpAny_holding ?_))
  show wpAny _ _ (bindSpecial (.builtin "super.__getattribute__") (.ref so) >>= _) _ _ _
  refine wpAny_bind (wpAny_of_eq (F.ks_slot_super_ga.bind _) ?_)
  refine wpAny_mono (Q := fun v s' => v = .ref h.objs.size ∧ s' = ⟨h.push { cls := .type "method-wrapper", data := .fields #[.builtin "Exception.__init__", .ref x] }, g, d, t + 1, os⟩) (E := fun _ _ => False)
    (wpAny_call_entry F.ks_slot_super_ga (hT _) F.ks_entry_super_ga (x_super_ga hso hno hC hx hxc hB hl X hf hxC ⟨_, rfl, rfl, rfl⟩) (F.ks_gaArgs_super _ _)) (fun v s' hv => ?_) fun _ _ z => z.elim
  obtain ⟨rfl, rfl⟩ := hv
  exact wpAny_pure (wpAny_pure hq)
in #guard_msgs (drop info, drop warning) in open Nat
theorem x_sig_init : Manifest.signature? "Exception.__init__" = some ⟨.positional, "*", "Exception", .self, [⟨"args", .varPos, false⟩]⟩ := (PySem.F.excBase_Exception).initRow
theorem x_kind_init : builtinKind "Exception.__init__" = some .slot := (PySem.F.excBase_Exception).initKind
theorem x_entry_init : entryFor table "Exception.__init__" = some Builtin.«BaseException.__init__» := (PySem.F.excBase_Exception).initEntry
set_option Elab.async true in
theorem x_mw_call {b x T : Addr} {v : Value} {ox : Option Addr} {Q : Value → Shared → Prop}
    (hb : h.get? b = some { cls := .type "method-wrapper", data := .fields #[.builtin "Exception.__init__", .ref x] })
    (hC : h.get? C = some (excClassObj nm q C Nn bs bm hdct sn sub ab col dd k0 k1 k2 k3 k5 newId)) (hB : bm.contains (.type "Exception") = true)
    (hx : h.get? x = some { cls := .ref C, dict := ox, data := .fields #[.ref T, .none, .none, .none, .bool false, .none] })
    (hq : Q .none ⟨(h.push { cls := .type "tuple", data := .seq #[v] }).update x (Obj.mapFields (·.setIfInBounds 0 (.ref h.objs.size))), g, d, t, os⟩) :
    wpAny (model prog w) A (call (.ref b) [v]) Q E ⟨h, g, d, t, os⟩ := by
  have FE := PySem.F.excBase_Exception
  k_extra "c110"
  have hshort := FE.noStar
  refine wpAny_call (codeAny_of_tree ?_)
  show wpAny _ A.in1 (callAny (.ref b) _) _ _ _
  unfold callAny
  refine wpAny_bind (wpAny_load hb ?_)
  show wpAny _ _ (checkBoundCall "Exception.__init__" ⟨[.ref x, v], []⟩ >>= fun _ => again (.builtin "Exception.__init__" ⟨[.ref x, v], []⟩)) _ _ _
  refine wpAny_bind ?_
  simp only [checkBoundCall, FE.initKind, FE.initRow]
  repeat (first | (with_reducible refine wpAny_loadPart_at hx ?_) | with_reducible refine wpAny_loadPart_at hC ?_ | (with_reducible refine wpAny_isSubtype_exc hC ?_; rw [hcB]) | wp_step)
  refine ⟨Code.quiet_builtin _ (by decide +kernel), codeAny_builtin FE.initEntry ?_⟩
  unfold Builtin.«BaseException.__init__»
  have h' : (h.push { cls := .type "tuple", data := .seq #[v] }).get? x = some { cls := .ref C, dict := ox, data := .fields #[.ref T, .none, .none, .none, .bool false, .none] } := Heap.get?_push_of_some _ hx
  wp_walk
  all_goals exact hq
in #guard_msgs (drop info, drop warning) in open Nat
end
theorem eExc41 : True := trivial
end Mine
namespace Mine
example : True := by
  k_with "omega" => first | ((fail_if_success have hzz := eom2); (first | k_extra "ub" | (simp +arith only; done) | k_extra "fk" | omega (config := {}))) | fail
  trivial
end Mine
-- Exc5
open PySem.Builtin PySem.Builtin.ObjectAttr
namespace Mine
example : True := by
  k_with "fk" => first | ((fail_if_success have hzz := eExc51); (with_reducible (first | exact fk142 (by assumption)))) | fail
  trivial
section
variable {prog : Program} {w : World} {A : Around} {E : Value → Shared → Prop} {s : Shared} {K : Frag} {x C dx L : Addr} {h₀ : Heap} {m : Str → Option Value} {news news' rest : Led} {ox od : Obj} {R : Result → Shared → Prop} {name : Str} {v : Value} {cd : ClassData}
set_option Elab.async true in
theorem x_osa_open {od : Option Obj} {tk : Tok} (X : K.In s.heap) (I : InstAt s.heap x ox C od) (hc : clsIn K C = some cd) (hr : ∀ self, refuseLoop self "__setattr__" cd.mro = pure ()) (hobj : cd.mro.contains (.type "object") = true)
    (ht : takerIn K C name = some none)
    (h : ∀ b, wpAny (model prog w) A.in1 (storeInOwnDict (.ref x) (.ref C) (.str name tk) name v b)
      (fun fin s' => match fin with | .done f => R (.ok f) s' | .again c' => c'.quiet = true ∧ codeAny (model prog w) A c' R s') (fun e s' => R (.error e) s') s) :
    codeAny (model prog w) A (.call (.builtin "object.__setattr__") ⟨[.ref x, .str name tk, v], []⟩) R s := by
  have SF := PySem.F.store_object
  have ne : cd.mro.isEmpty = false := by cases q : cd.mro with | nil => rw [q] at hobj; cases hobj | cons _ _ => rfl
  have sub : Looks (model prog w) s.heap (isInstance (.ref x) (.type "object")) true := I.type.andThen (looks_mroIn X (by unfold mroIn; rw [hc, Option.bind_some, if_neg (by rw [ne]; decide), hobj]))
  refine codeAny_call_builtin SF.slot.plain SF.entry (@check_slot (model prog w) _ _ s "object.__setattr__" "object" "__setattr__" (.ref x) [.str name tk, v] [] _ SF.kind SF.split sub (SF.args (.ref x) (.str name tk) v) ?_)
  obtain ⟨attr, ha, hrr⟩ := Option.bind_eq_some_iff.mp ht
  have hm : Looks (model prog w) s.heap (mroOf (.ref C)) cd.mro := (looks_clsIn X hc).andThen .now
  have L3 : Looks (model prog w) s.heap (storeTaker? attr) none := by
    cases attr with
    | none => exact .now
    | some a =>
      obtain ⟨b, hb, e⟩ := Option.map_eq_some_iff.mp hrr
      refine (looks_takesIn X hb).andThen ?_
      cases b
      · exact .now
      · cases e
  rw [osa_eq, refuse_eq]
  refine wpAny_bind (wpAny_bind (I.type.here (wpAny_bind (hm.here ?_))))
  rw [hr]
  refine wpAny_pure (wpAny_bind (I.type.here (wpAny_bind ((looks_findIn X ha).here (wpAny_bind (L3.here ?_))))))
  exact h _
in #guard_msgs (drop info, drop warning) in open Nat
set_option Elab.async true in
theorem x_set0 {Q : Unit → Shared → Prop} (F : Fr h₀ L s.heap m) (X₀ : K.In h₀) (N : News h₀ L s.heap ((x, ox) :: rest)) (hne : ∀ p ∈ rest, p.1 ≠ x) (hcl : ox.cls = .ref C) (hdn : ox.dict = none) (hnc : ∃ vs, ox.data = .fields vs)
    (hs : findIn K (.ref C) "__setattr__" = some (some (.builtin "object.__setattr__")))
    (hc : clsIn K C = some cd) (hr : ∀ self, refuseLoop self "__setattr__" cd.mro = pure ()) (hobj : cd.mro.contains (.type "object") = true) (ht : takerIn K C name = some none) (hh : cd.hasDict = true)
    (h : ∀ d h' tk, Fr h₀ L h' m → News h₀ L h' ((x, { ox with dict := some d }) :: (d, dictOf [⟨PyData.keyHash w.params name, .str name tk, v⟩] 1) :: rest) → (∀ p ∈ rest, p.1 < d) → x < d → Q () { s with heap := h', toks := s.toks + 2 }) :
    wpAny (model prog w) A (setAttr (.ref x) name v) Q E s := by
  obtain ⟨vs, hdat⟩ := hnc
  have X := X₀.keeps F.keep
  have hx := (N _ (.head _)).1
  have hnot : notCls ox = true := by unfold notCls; rw [hdat]
  have I : InstAt s.heap x ox C none := ⟨hx, hcl, hnot, by rw [hdn]; trivial⟩
  k_extra "c114"
  obtain ⟨hp, g, dr, t, os⟩ := s
  obtain ⟨oc, odi, oda, osl⟩ := ox
  dsimp only at hcl hdn hdat
  subst hcl hdn hdat
  dsimp only at X F N hx h ⊢
  have hxs : x ≠ hp.objs.size := Nat.ne_of_lt (Heap.lt_size hx)
  have hx₁ : (hp.push emptyDict).get? x = some { cls := .ref C, dict := none, data := .fields vs, slots := osl } := Heap.get?_push_of_some _ hx
  have hgd : ((hp.push emptyDict).update x fun o => { cls := o.cls, dict := some hp.objs.size, data := o.data, slots := o.slots }).get? hp.objs.size = some emptyDict :=
    (Heap.get?_update_ne _ _ _ _ hxs.symm).trans (Heap.get?_push_at rfl rfl)
  have F1 := F.push emptyDict
  have N1 : News h₀ L (hp.push emptyDict) ((x, { cls := .ref C, dict := none, data := .fields vs, slots := osl }) :: (hp.objs.size, emptyDict) :: rest) := News.sub (N.push F emptyDict) (fun p hp => by rcases List.mem_cons.mp hp with rfl | hp; exact .tail _ (.head _); rcases List.mem_cons.mp hp with rfl | hp; exact .head _; exact .tail _ (.tail _ hp))
  obtain ⟨F2, N2⟩ := news_upd (pre := []) (f := fun o => { cls := o.cls, dict := some hp.objs.size, data := o.data, slots := o.slots }) F1 N1 (by intro p hp; cases hp)
    (by intro p hp; rcases List.mem_cons.mp hp with rfl | hp; exact hxs.symm; exact hne p hp) rfl rfl
  obtain ⟨F3, N3⟩ := news_upd (pre := [(x, { cls := .ref C, dict := some hp.objs.size, data := .fields vs, slots := osl })]) (o' := dictOf [⟨PyData.keyHash w.params name, .str name (t + 1), v⟩] 1) (f := Obj.putName name (PyData.keyHash w.params name) (.str name (t + 1)) v) F2 N2 (by intro p hp; rcases List.mem_cons.mp hp with rfl | hp; exact hxs; cases hp)
    (fun p hp' => Nat.ne_of_lt (Heap.lt_size (N p (.tail _ hp')).1)) (putName_dict (es := []) (n := 0) _ _ _ _) rfl
  have D := (N2 (hp.objs.size, emptyDict) (by simp)).1
  have D' := (N3 (hp.objs.size, dictOf [⟨PyData.keyHash w.params name, .str name (t + 1), v⟩] 1) (by simp)).1
  refine wpAny_bind (wpAny_pure (wpAny_bind (wpAny_bind (wpAny_loadPart hx (wpAny_bind ((looks_clsIn X hc).here ?_))))))
  rw [hh]
  refine wpAny_bind (wpAny_alloc' (wpAny_bind (wpAny_update' hx₁ (wpAny_pure (wpAny_bind (wpAny_pure (wpAny_bind ?_)))))))
  unfold nsSet
  refine wpAny_bind (wpAny_bind (wpAny_askSetting (wpAny_pure (wpAny_bind (wpAny_mkText (wpAny_bind (wpAny_loadPart D ?_)))))))
  refine wpAny_updatePart D ?_
  refine wpAny_bind (wpAny_lookBehind D' (pastItsLine_dict (by rw [sizeLine_eq]; show (1 : Nat) ≤ 16777216 + 1; decide)) ?_)
  exact wpAny_pure (h _ _ _ F3 N3 (fun p hp' => Heap.lt_size (N p (.tail _ hp')).1) (Heap.lt_size hx))
in #guard_msgs (drop info, drop warning) in open Nat
set_option Elab.async true in
theorem x_set1 {Q : Unit → Shared → Prop} {es : List DictEntry} {n : Nat} (F : Fr h₀ L s.heap m) (X₀ : K.In h₀) (N : News h₀ L s.heap ((dx, dictOf es n) :: rest)) (hne : ∀ p ∈ rest, p.1 ≠ dx) (hx : (x, ox) ∈ rest) (hcl : ox.cls = .ref C) (hdn : ox.dict = some dx) (hnc : ∃ vs, ox.data = .fields vs)
    (hs : findIn K (.ref C) "__setattr__" = some (some (.builtin "object.__setattr__")))
    (hc : clsIn K C = some cd) (hr : ∀ self, refuseLoop self "__setattr__" cd.mro = pure ()) (hobj : cd.mro.contains (.type "object") = true) (ht : takerIn K C name = some none) (hh : cd.hasDict = true)
    (hl : (getL name es).isSome = true) (hz : es.length ≤ 1000)
    (h : ∀ h' tk, Fr h₀ L h' m → News h₀ L h' ((dx, dictOf (putL name (PyData.keyHash w.params name) (.str name tk) v es) (putN name es n)) :: rest) → Q () { s with heap := h', toks := s.toks + 2 }) :
    wpAny (model prog w) A (setAttr (.ref x) name v) Q E s := by
  obtain ⟨vs, hdat⟩ := hnc
  have X := X₀.keeps F.keep
  have hx' := (N _ (.tail _ hx)).1
  have hd' := (N _ (.head _)).1
  have hnot : notCls ox = true := by unfold notCls; rw [hdat]
  have I : InstAt s.heap x ox C (some (dictOf es n)) := ⟨hx', hcl, hnot, by rw [hdn]; exact hd'⟩
  k_extra "c114"
  obtain ⟨hp, g, dr, t, os⟩ := s
  obtain ⟨oc, odi, oda, osl⟩ := ox
  dsimp only at hcl hdn hdat
  subst hcl hdn hdat
  dsimp only at X F N hx' hd' h ⊢
  obtain ⟨F3, N3⟩ := news_upd (pre := []) (o' := dictOf (putL name (PyData.keyHash w.params name) (.str name (t + 1)) v es) (putN name es n)) (f := Obj.putName name (PyData.keyHash w.params name) (.str name (t + 1)) v) F N (by intro p hp; cases hp)
    hne (putName_dict _ _ _ _ _ _) rfl
  have D' := (N3 _ (.head _)).1
  refine wpAny_bind (wpAny_pure (wpAny_bind (wpAny_bind (wpAny_loadPart hx' (wpAny_bind ((looks_clsIn X hc).here ?_))))))
  rw [hh]
  refine wpAny_pure (a := some dx) (wpAny_bind (wpAny_pure (wpAny_bind ?_)))
  unfold nsSet
  refine wpAny_bind (wpAny_bind (wpAny_askSetting (wpAny_pure (wpAny_bind (wpAny_mkText (wpAny_bind (wpAny_loadPart hd' ?_)))))))
  have c : (!es.toArray.any (·.key.isStr name) && es.toArray.any (·.refKey)) = false := by
    rw [← Array.any_toList, ← Array.any_toList]
    unfold getL at hl
    split at hl
    · rename_i en he
      rw [List.any_eq_true.mpr ⟨en, List.mem_of_find?_eq_some he, List.find?_some he⟩]; rfl
    · split at hl
      · cases hl
      · rename_i z; rw [Bool.not_eq_true] at z
        show (_ && es.any _) = false
        rw [z, Bool.and_false]
  dsimp only [dictOf]
  rw [aRefKeyMayBeTheName_at, c]
  refine wpAny_updatePart hd' ?_
  have hsz : (putL name (PyData.keyHash w.params name) (.str name (t + 1)) v es).length ≤ 1001 := by
    have : ∀ es : List DictEntry, (putL name (PyData.keyHash w.params name) (.str name (t + 1)) v es).length ≤ es.length + 1 := by
      intro es
      induction es with
      | nil => exact Nat.le_refl _
      | cons e r ih => unfold putL; split <;> simp only [List.length_cons] <;> omega
    have := this es; omega
  refine wpAny_bind (wpAny_lookBehind D' (pastItsLine_dict (by rw [List.size_toArray, sizeLine_eq]; omega)) ?_)
  exact wpAny_pure (h _ _ F3 N3)
in #guard_msgs (drop info, drop warning) in open Nat
end
theorem eExc51 : True := trivial
end Mine
-- Exc6
namespace Mine
example : True := by
  k_with "k_all" => first | ((fail_if_success have hzz := eExc61); (first | with_reducible assumption | with_reducible exact List.forall_mem_nil _ | ((with_reducible refine List.forall_mem_cons.mpr ⟨?_, ?_⟩) <;> first | k_ne | k_all) | ((with_reducible refine List.forall_mem_append.mpr ⟨?_, ?_⟩) <;> k_all) | assumption)) | fail
  k_with "k_mem" => first | ((fail_if_success have hzz := eExc61); ((repeat (first | exact List.Mem.head _ | apply List.Mem.tail | apply mem_inr | with_reducible assumption | assumption)); done)) | fail
  k_with "k_room" => first | ((fail_if_success have hzz := eExc61); (ktr_room)) | fail
  k_with "ktr_room" => first | ((fail_if_success have hzz := eExc61); ((try dsimp only [ktrTop]); omega)) | fail
  k_with "ktr_units" => first | ((fail_if_success have hzz := eExc61); ((try dsimp only [ktrTop]); omega)) | fail
  trivial
noncomputable abbrev excO (T : Addr) : Obj := { cls := .ref 76, data := .fields #[.ref T, .none, .none, .none, .bool false, .none] }
theorem m_excInst {h₀ h : Heap} {L e T : Addr} {news : Led} (N : News h₀ L h news) (hm : (e, excO T) ∈ news) : InstAt h e (excO T) 76 none := ⟨(N _ hm).1, rfl, rfl, trivial⟩
example : True := by
  k_with "k_inst" => first | ((fail_if_success have hzz := eExc61); (exact m_excInst (by k_asm) (by k_mem))) | fail
  trivial
noncomputable abbrev mwO (e : Addr) : Obj := { cls := .type "method-wrapper", data := .fields #[.builtin "Exception.__init__", .ref e] }
section
variable {w : World} {A : Around} {E : Value → Shared → Prop} {s : Shared} {h₀ : Heap} {L : Addr} {m : Str → Option Value} {news : Led}
set_option Elab.async true in
theorem m_getM {so e T : Addr} {pl : Sem Bool} {Q : Value × List Value → Shared → Prop} (F : Fr h₀ L s.heap m) (X₀ : (hd.heap_39 w.params).In h₀) (N : News h₀ L s.heap news)
    (hso : (so, ks_superObj 47 e 76) ∈ news) (he : (e, excO T) ∈ news)
    (h : ∀ q h', Fr h₀ L h' m → News h₀ L h' ((q, mwO e) :: news) → (∀ p ∈ news, p.1 < q) → Q (.ref q, []) { s with heap := h', toks := s.toks + 1 }) :
    wpAny (model LAW.row.prog w) A (getMethod (.ref so) "__init__" pl) Q E s := by
  have X := X₀.keeps F.keep
  obtain ⟨hh, g, d, t, os⟩ := s
  k_extra "c43"
  have hne : e ≠ 76 := by
    rintro rfl
    have := (N _ he).1
    rw [hC] at this
    cases this
  refine x_getMethod_super (N _ hso).1 (looks_opaque X rfl) hC (N _ he).1 rfl (by decide) rfl X (by rfl) hne ?_
  obtain ⟨F', N', l'⟩ := ks_newsPush (s := ⟨hh, g, d, t, os⟩) (o := mwO e) F N rfl (Heap.get?_push_at rfl rfl) (fun b o e => Heap.get?_push_of_some _ e)
  exact h _ _ F' N' l'
in #guard_msgs (drop info, drop warning) in open Nat
noncomputable def MwP (q e : Addr) (h : Heap) : Prop := h.get? q = some (mwO e)
theorem keeps_mw {M : Model} {q e : Addr} (h : Heap) (X : MwP q e h) : ∃ k, (k = Keeper.frame ∨ k = Keeper.machine ∨ k = Keeper.boundFrame) ∧ Looks M h (keeperOf (.ref q)) k :=
  ⟨.machine, .inr (.inl rfl), (Looks.ld (part := none) X).andThen .now⟩
theorem callWith_MW {M : Model} {env : Env} {pos : Pos} {first : List Value} {Q : Value → Shared → Prop} {q e : Addr} {x : Expr} {rest : List Expr} (_N : News h₀ L s.heap news) (_q : (q, mwO e) ∈ news)
    (h : wpAny M A (spliced (backTo pos (starEach (x :: rest) env))) (fun vs s₁ => MwP q e s₁.heap ∧ wpAny M A (call (.ref q) (first ++ vs)) Q E s₁) E s)
    (he : starEach (x :: rest) env = (false, eval x env) :: starEach rest env) (hplain : (backTo pos (starEach rest env)).any (·.1) = false) :
    wpAny M A (callWith pos (.ref q) first (backTo pos (starEach (x :: rest) env)) []) Q E s := by
  rw [he] at h ⊢
  exact callWith_of (by show ((false || (backTo pos (starEach rest env)).any (·.1)) || false) = false; rw [hplain]; rfl) keeps_mw (evalArgs_plain h)
set_option Elab.async true in
theorem m_mwCall {q e T : Addr} {v : Value} {rest : Led} {Q : Value → Shared → Prop} (F : Fr h₀ L s.heap m) (X₀ : (hd.heap_39 w.params).In h₀) (N : News h₀ L s.heap news)
    (pk : Pick e (excO T) news rest) (hne : ∀ p ∈ rest, p.1 ≠ e) (hq : (q, mwO e) ∈ rest)
    (h : ∀ T' h', Fr h₀ L h' m → News h₀ L h' ((e, excO T') :: rest) → Q .none { s with heap := h' }) :
    wpAny (model LAW.row.prog w) A (call (.ref q) [v]) Q E s := by
  have X := X₀.keeps F.keep
  have N := News.sub N pk.sub
  obtain ⟨hh, g, d, t, os⟩ := s
  k_extra "c43"
  refine x_mw_call (N _ (.tail _ hq)).1 hC (by decide) (N _ (.head _)).1 ?_
  have N1 : News h₀ L (hh.push { cls := .type "tuple", data := .seq #[v] }) ((e, excO T) :: rest) := News.sub (N.push F { cls := .type "tuple", data := .seq #[v] }) (fun p hp => .tail _ hp)
  obtain ⟨F2, N2⟩ := news_upd (pre := []) (f := Obj.mapFields (·.setIfInBounds 0 (.ref hh.objs.size))) (o' := excO hh.objs.size) (F.push { cls := .type "tuple", data := .seq #[v] }) N1 (by intro p hp; cases hp) hne rfl rfl
  exact h _ _ F2 N2
in #guard_msgs (drop info, drop warning) in open Nat
end
example : True := by
  k_with "getMethod ref" => first | ((fail_if_success have hzz := eExc61); (k_here; k_dflt (refine m_getM (by k_asm) (by k_asm) (by k_asm) (by k_mem) (by k_mem) ?_); intro q' qh' qF' qN' ql1; (try k_lt ql1))) | fail
  k_with "call ref" => first | ((fail_if_success have hzz := eExc61); (k_here; k_dflt (refine m_mwCall (by k_asm) (by k_asm) (by k_asm) (by k_extra "c3") (by k_all) (by k_mem) ?_); intro qT' qh' qF' qN')) | fail
  k_with "callWith ref" => first | ((fail_if_success have hzz := eExc61); (k_here; k_dflt (refine callWith_MW (by k_asm) (by k_mem) ?_ (by rfl) (by rfl)))) | fail
  k_with "And" => first | ((fail_if_success have hzz := eExc61); ((with_reducible show MwP _ _ _ ∧ _); k_dflt (refine ⟨(News.get (by k_asm) (by k_mem)), ?_⟩); (try dsimp only [List.nil_append, List.cons_append]))) | fail
  trivial
noncomputable abbrev excD (T d : Addr) : Obj := { cls := .ref 76, dict := some d, data := .fields #[.ref T, .none, .none, .none, .bool false, .none] }
theorem refuse76 (self : Value) : refuseLoop self "__setattr__" [.ref 76, .ref 47, .type "Exception", .type "BaseException", .type "object"] = pure () := by
  rw [refuseLoop_ref, refuseLoop_ref]; kernel_rfl
section
variable {w : World} {A : Around} {E : Value → Shared → Prop} {s : Shared} {h₀ : Heap} {L : Addr} {m : Str → Option Value} {all rest : Led}
theorem m_set0 {e T : Addr} {name : Str} {v : Value} {Q : Unit → Shared → Prop} (F : Fr h₀ L s.heap m) (X₀ : (hd.heap_39 w.params).In h₀) (N : News h₀ L s.heap all) (pk : Pick e (excO T) all rest) (hne : ∀ p ∈ rest, p.1 ≠ e)
    (ht : takerIn (hd.heap_39 w.params) 76 name = some none)
    (h : ∀ d h' tk, Fr h₀ L h' m → News h₀ L h' ((e, excD T d) :: (d, dictOf [⟨PyData.keyHash w.params name, .str name tk, v⟩] 1) :: rest) → (∀ p ∈ rest, p.1 < d) → e < d → Q () { s with heap := h', toks := s.toks + 2 }) :
    wpAny (model LAW.row.prog w) A (setAttr (.ref e) name v) Q E s :=
  x_set0 (C := 76) F X₀ (News.sub N pk.sub) hne rfl rfl ⟨_, rfl⟩ (by rfl) (by rfl) refuse76 (by decide) ht (by rfl) h
end
example : True := by
  k_with "setAttr ref" => first | ((fail_if_success have hzz := eExc61); (k_here; k_dflt (refine m_set0 (by k_asm) (by k_asm) (by k_asm) (by k_extra "c3") (by k_all) (by rfl) ?_); intro qd' qh' qtk' qF' qN' ql1 ql2; (try k_lt ql1))) | fail
  trivial
noncomputable def TriA (K : Params → Frag) (w : World) (mean : ExcName → Option Value) (mg mb : Str → Option Value) (f : Addr) (args : List Value) (rm : Nat) (news : Led) (Out : Value → Led → Prop) : Prop :=
  ∀ (A : Around) (env : Env) (outer : List Env) (A₀ : Around) (base h₀ : Heap) (L : Addr) (m : Str → Option Value) (s : Shared) (R : Result → Shared → Prop),
    Below A₀ base outer h₀ → Fr h₀ L s.heap m → (K w.params).In h₀ → News h₀ L s.heap news → Top view (looseW view []) mean mg mb h₀ → A.frames = some (env :: outer) → env.frame = some L → env.scope.kind = .function → A.depth + rm < recursionLimit →
    (∀ r news' h' tk', Fr h₀ L h' m → News h₀ L h' news' → Out r news' → R (.ok (.ret r)) { s with heap := h', toks := tk' }) →
    codeAny (model PySem.Challenge.rw_pq0122_01.row.prog w) A (.call (.ref f) ⟨args, []⟩) R s
set_option Elab.async true in
set_option maxHeartbeats 1000000 in
theorem init37 (w : World) (mean mg mb) (e T : Addr) (what : Str) (t : Tok) (news : Led)
    (hne : ∀ p ∈ news, p.1 ≠ e) :
    TriA hd.heap_39 w mean mg mb 37 [.ref e, .str what t] 3 ((e, excO T) :: news) (fun r news' => ∃ T' d tk tl, r = .none ∧ news' = (e, excD T' d) :: (d, dictOf [⟨PyData.keyHash w.params "what", .str "what" tk, .str what t⟩] 1) :: (tl ++ news) ∧ (∀ p ∈ news, p.1 < d) ∧ (∀ p ∈ tl, p.1 ≠ e ∧ p.1 < d) ∧ e < d) := by
  k_extra "c11"
  clear hK
  w_top off
  unfold TriA
  intro A env outer A₀ base h₀ L m s R B F X N T hA hf hk hd hret
  k_dflt (refine' ks_code_super ?k1 ?k2 ?k3 ?k4 ?k5 ?kA ?kF ?kK ?k6 ?k7 ?k8 ?k9 ?kB ?_ ?c1 ?c2 ?c3 ?c4; (case kA => exact hA); (case kF => exact hf); (case kK => assumption); (case k1 => k_asm); (case k2 => k_asm); (case k3 => k_asm); (case k4 => k_asm); (case k5 => k_asm); (case k6 => k_is); (case k7 => k_is); (case k8 => omega); (case k9 => exact BindsTo.of_eq rfl); (case kB => exact locs rfl); (case c1 => decide); (case c2 => exact rfl); (case c3 => exact rfl); (case c4 => exact rfl); intro g' L' h' FG' F' N' B' X' T' l1; (try k_lt l1); (try dsimp only))
  k_steps
  k_extra "c66"
  repeat (with_reducible rename _ ∧ _ => hc; obtain ⟨_, _⟩ := hc)
  refine hret _ _ _ _ kF kN ⟨_, _, _, [_, _], rfl, rfl, fun p hp => ktn_ltOf (by assumption) p hp, ?_, by assumption⟩
  intro p hp
  simp only [List.mem_cons, List.not_mem_nil, or_false] at hp
  rcases hp with rfl | rfl
  · exact ⟨Nat.ne_of_gt (by assumption), by assumption⟩
  · exact ⟨Nat.ne_of_gt (by assumption), by assumption⟩
in #guard_msgs (drop info, drop warning) in open Nat
set_option Elab.async true in
theorem init37_use {w : World} {mean : ExcName → Option Value} {mg mb : Str → Option Value} {A : Around} {env : Env} {outer : List Env} {A₀ : Around} {base h₀ : Heap} {L : Addr} {m : Str → Option Value} {s : Shared} {R : Result → Shared → Prop} {e T : Addr} {what : Str} {t : Tok} {all rest : Led}
    (B : Below A₀ base outer h₀) (F : Fr h₀ L s.heap m) (X : (hd.heap_39 w.params).In h₀) (N : News h₀ L s.heap all) (T' : Top view (looseW view []) mean mg mb h₀) (hA : A.frames = some (env :: outer)) (hf : env.frame = some L) (hk : env.scope.kind = .function)
    (pk : Pick e (excO T) all rest) (hne : ∀ p ∈ rest, p.1 ≠ e) (hd : A.depth + 3 < recursionLimit)
    (h : ∀ T' d tk tl h' tk', Fr h₀ L h' m → News h₀ L h' ((e, excD T' d) :: (d, dictOf [⟨PyData.keyHash w.params "what", .str "what" tk, .str what t⟩] 1) :: (tl ++ rest)) → (∀ p ∈ rest, p.1 < d) → (∀ p ∈ tl, p.1 ≠ e ∧ p.1 < d) → e < d → R (.ok (.ret .none)) { s with heap := h', toks := tk' }) :
    codeAny (model LAW.row.prog w) A (.call (.ref 37) ⟨[.ref e, .str what t], []⟩) R s := by
  refine init37 w mean mg mb e T what t rest hne A env outer A₀ base h₀ L m s R B F X (News.sub N pk.sub) T' hA hf hk hd ?_
  rintro r news' h' tk' F' N' ⟨T', d, tk, tl, rfl, rfl, h1, h2, h3⟩
  exact h T' d tk tl h' tk' F' N' h1 h2 h3
in #guard_msgs (drop info, drop warning) in open Nat
theorem eExc61 : True := trivial
end Mine
-- Exc7
namespace Mine
example : True := by
  k_with "fk" => first | ((fail_if_success have hzz := eExc71); (with_reducible (first | exact fk143 (by assumption) | exact fk144 (by assumption)))) | fail
  trivial
example : True := by
  k_with "k_all" => first | ((fail_if_success have hzz := eExc71); (first | with_reducible assumption | with_reducible exact List.forall_mem_nil _ | ((with_reducible refine List.forall_mem_cons.mpr ⟨?_, ?_⟩) <;> first | k_ne | k_all) | ((with_reducible refine List.forall_mem_append.mpr ⟨?_, ?_⟩) <;> k_all) | assumption)) | fail
  k_with "k_mem" => first | ((fail_if_success have hzz := eExc71); ((repeat (first | exact List.Mem.head _ | apply List.Mem.tail | apply mem_inr | with_reducible assumption | assumption)); done)) | fail
  k_with "k_room" => first | ((fail_if_success have hzz := eExc71); (ktr_room)) | fail
  k_with "ktr_room" => first | ((fail_if_success have hzz := eExc71); ((try dsimp only [ktrTop]); omega)) | fail
  k_with "ktr_units" => first | ((fail_if_success have hzz := eExc71); ((try dsimp only [ktrTop]); omega)) | fail
  trivial
noncomputable abbrev spotD (w : World) (what : Str) (t tk : Tok) (sp : Int) (u tk2 : Tok) : Obj := dictOf [⟨PyData.keyHash w.params "what", .str "what" tk, .str what t⟩, ⟨PyData.keyHash w.params "spot", .str "spot" tk2, .int sp u⟩] 2
set_option Elab.async true in
theorem m_set1 {w : World} {A : Around} {E : Value → Shared → Prop} {s : Shared} {h₀ : Heap} {L : Addr} {m : Str → Option Value} {all rest : Led} {e T d : Addr} {name : Str} {v : Value} {es : List DictEntry} {n : Nat} {Q : Unit → Shared → Prop} (F : Fr h₀ L s.heap m) (X₀ : (hd.heap_39 w.params).In h₀) (N : News h₀ L s.heap all) (pk : Pick d (dictOf es n) all rest) (hne : ∀ p ∈ rest, p.1 ≠ d)
    (he : (e, excD T d) ∈ rest) (ht : takerIn (hd.heap_39 w.params) 76 name = some none) (hl : (getL name es).isSome = true) (hz : es.length ≤ 1000)
    (h : ∀ h' tk, Fr h₀ L h' m → News h₀ L h' ((d, dictOf (putL name (PyData.keyHash w.params name) (.str name tk) v es) (putN name es n)) :: rest) → Q () { s with heap := h', toks := s.toks + 2 }) :
    wpAny (model LAW.row.prog w) A (setAttr (.ref e) name v) Q E s :=
  x_set1 (C := 76) F X₀ (News.sub N pk.sub) hne he rfl rfl ⟨_, rfl⟩ (by rfl) (by rfl) refuse76 (by decide) ht (by rfl) hl hz h
in #guard_msgs (drop info, drop warning) in open Nat
example : True := by
  k_with "k_inst" => first | ((fail_if_success have hzz := eExc71); (exact m_excInst (by k_asm) (by k_mem))) | fail
  k_with "call ref" => first | ((fail_if_success have hzz := eExc71); (k_here; k_dflt (refine call_meth (by k_asm) (by k_mem) (init37_use (by k_asm) (by k_asm) (by k_asm) (by k_asm) (by k_asm) (Around.frames_deeper (Below.stack (by k_asm))) rfl rfl (by k_extra "c3") (by k_all) (by (simp only [depth_deeper]; omega)) ?_)); intro qT' qd' qtk9 qtl9 qh' qtk' qF' qN' ql1 ql2 ql3; (have ql4 : ∀ p ∈ qtl9, p.1 ≠ qd' := fun p hp => Nat.ne_of_lt (ql2 p hp).2); (try k_lt ql1))) | fail
  k_with "setAttr ref" => first | ((fail_if_success have hzz := eExc71); (k_here; k_dflt (refine m_set1 (by k_asm) (by k_asm) (by k_asm) (by k_extra "c3") (by k_all) (by k_mem) (by rfl) (by rfl) (by exact Nat.le_of_ble_eq_true rfl) ?_); intro qh' qtk' qF' qN')) | fail
  k_with "wpAt" => first | ((fail_if_success have hzz := eExc71); (ks_step "exec Expr"; k_dflt (refine ks_wpAt_Expr_any ?_))) | fail
  k_with "wpAt" => first | ((fail_if_success have hzz := eExc71); (ks_step "eval Call"; k_dflt (refine ks_wpAt_MethodCall ?_))) | fail
  trivial
set_option Elab.async true in
set_option maxHeartbeats 1000000 in
theorem init66 (w : World) (mean mg mb) (e T : Addr) (what : Str) (t u : Tok) (sp : Int) (news : Led)
    (hne : ∀ p ∈ news, p.1 ≠ e) :
    TriA hd.heap_39 w mean mg mb 66 [.ref e, .str what t, .int sp u] 5 ((e, excO T) :: news) (fun r news' => ∃ T' d tk tk2 tl, r = .none ∧ news' = (d, spotD w what t tk sp u tk2) :: (e, excD T' d) :: (tl ++ news) ∧ d ≠ e) := by
  k_extra "c11"
  clear hK
  w_top off
  unfold TriA
  intro A env outer A₀ base h₀ L m s R B F X N T hA hf hk hd hret
  k_dflt (refine' ks_code_super ?k1 ?k2 ?k3 ?k4 ?k5 ?kA ?kF ?kK ?k6 ?k7 ?k8 ?k9 ?kB ?_ ?c1 ?c2 ?c3 ?c4; (case kA => exact hA); (case kF => exact hf); (case kK => assumption); (case k1 => k_asm); (case k2 => k_asm); (case k3 => k_asm); (case k4 => k_asm); (case k5 => k_asm); (case k6 => k_is); (case k7 => k_is); (case k8 => omega); (case k9 => exact BindsTo.of_eq rfl); (case kB => exact locs rfl); (case c1 => decide); (case c2 => exact rfl); (case c3 => exact rfl); (case c4 => exact rfl); intro g' L' h' FG' F' N' B' X' T' l1; (try k_lt l1); (try dsimp only))
  k_steps
  k_extra "c66"
  refine hret _ _ _ _ kF kN ⟨_, _, _, _, _, rfl, congrArg (fun z => _ :: _ :: z) (Tail.eq (by k_extra "c8")), Nat.ne_of_gt (by assumption)⟩
in #guard_msgs (drop info, drop warning) in open Nat
theorem eExc71 : True := trivial
end Mine
-- Exc8
namespace Mine
example : True := by
  k_with "k_all" => first | ((fail_if_success have hzz := eExc81); (first | with_reducible assumption | with_reducible exact List.forall_mem_nil _ | ((with_reducible refine List.forall_mem_cons.mpr ⟨?_, ?_⟩) <;> first | k_ne | k_all) | ((with_reducible refine List.forall_mem_append.mpr ⟨?_, ?_⟩) <;> k_all) | assumption)) | fail
  k_with "k_mem" => first | ((fail_if_success have hzz := eExc81); ((repeat (first | exact List.Mem.head _ | apply List.Mem.tail | apply mem_inr | with_reducible assumption | assumption)); done)) | fail
  k_with "k_room" => first | ((fail_if_success have hzz := eExc81); (ktr_room)) | fail
  k_with "ktr_room" => first | ((fail_if_success have hzz := eExc81); ((try dsimp only [ktrTop]); omega)) | fail
  k_with "ktr_units" => first | ((fail_if_success have hzz := eExc81); ((try dsimp only [ktrTop]); omega)) | fail
  trivial
section
variable {w : World} {mean : ExcName → Option Value} {mg mb : Str → Option Value} {dp un : Nat} {gd : Option (List Code)} {cn : Str} {cs : Scope} {a : Addr} {ccd : Value} {cl : List (Str × Addr)} {outer : List Env} {A₀ : Around} {base h₀ : Heap} {L : Addr} {m : Str → Option Value} {s : Shared} {Q E : Value → Shared → Prop} {news : Led}
set_option Elab.async true in
theorem fault_make {what : Str} {t u : Tok} {sp : Int} (B : Below A₀ base outer h₀) (F : Fr h₀ L s.heap m) (X₀ : (hd.heap_39 w.params).In h₀) (N : News h₀ L s.heap news) (T : Top view (looseW view []) mean mg mb h₀) (hk : cs.kind = .function)
    (hd : dp + 8 < recursionLimit)
    (h : ∀ e d T' tk tk2 tl h' tk', Fr h₀ L h' m → News h₀ L h' ((d, spotD w what t tk sp u tk2) :: (e, excD T' d) :: (tl ++ news)) → (∀ p ∈ news, p.1 < e) → d ≠ e → Q (.ref e) { s with heap := h', toks := tk' }) :
    wpAny (model LAW.row.prog w) (ktrTop dp un gd cn cs L a ccd cl outer) (call (.ref 76) [.str what t, .int sp u]) Q E s := by
  have X := X₀.keeps F.keep
  obtain ⟨hh, g, dr, tk, os⟩ := s
  k_extra "c43"
  refine x_call PySem.F.excBase_Exception (by decide) (by decide) (by decide) X (fI := 66) (by rfl) hC (by rfl) (by rw [sizeLine_eq]; show (2 : Nat) ≤ 16777216; decide) ?_
  have F1 := F.push { cls := .type "tuple", data := .seq [Value.str what t, .int sp u].toArray }
  have N1 := N.push F { cls := .type "tuple", data := .seq [Value.str what t, .int sp u].toArray }
  have N2 := N1.push F1 (excO hh.objs.size)
  have F2 := F1.push (excO hh.objs.size)
  have hne : ∀ p ∈ (hh.objs.size, ({ cls := .type "tuple", data := .seq [Value.str what t, .int sp u].toArray } : Obj)) :: news, p.1 < hh.objs.size + 1 := fun p hp => by
    k_extra "c22"
    · exact Nat.lt_succ_self _
    · exact Nat.lt_succ_of_lt (Heap.lt_size (N p hp).1)
  refine wpAny_call ?_
  refine init66 w mean mg mb (hh.objs.size + 1) hh.objs.size what t u sp _ (fun p hp => Nat.ne_of_lt (hne p hp)) _ (envX cn cs L a ccd cl) outer A₀ base h₀ L m _ _ B F2 X₀ (by rw [Heap.size_push] at N2; exact N2) T rfl rfl hk ?_ ?_
  · show dp + 1 + 5 < _
    omega
  rintro r news' h' tk' F' N' ⟨T', d, tk1, tk2, tl, rfl, rfl, hde⟩
  refine ⟨rfl, ?_⟩
  exact h _ d T' tk1 tk2 (tl ++ [_]) h' tk' F' (by rw [List.append_assoc]; exact N') (fun p hp => hne p (.tail _ hp)) hde
in #guard_msgs (drop info, drop warning) in open Nat
end
theorem eExc81 : True := trivial
end Mine
namespace Mine
theorem eom2 : True := trivial
end Mine
-- Exc9
namespace Mine
example : True := by
  k_with "omega" => first | ((fail_if_success have hzz := eExc91); omega (config := {})) | fail
  trivial
example : True := by
  k_with "k_all" => first | ((fail_if_success have hzz := eExc91); (first | with_reducible assumption | with_reducible exact List.forall_mem_nil _ | ((with_reducible refine List.forall_mem_cons.mpr ⟨?_, ?_⟩) <;> first | k_ne | k_all) | ((with_reducible refine List.forall_mem_append.mpr ⟨?_, ?_⟩) <;> k_all) | assumption)) | fail
  k_with "k_mem" => first | ((fail_if_success have hzz := eExc91); ((repeat (first | exact List.Mem.head _ | apply List.Mem.tail | apply mem_inr | with_reducible assumption | assumption)); done)) | fail
  k_with "k_room" => first | ((fail_if_success have hzz := eExc91); (ktr_room)) | fail
  k_with "ktr_room" => first | ((fail_if_success have hzz := eExc91); ((try dsimp only [ktrTop]); omega)) | fail
  k_with "ktr_units" => first | ((fail_if_success have hzz := eExc91); ((try dsimp only [ktrTop]); omega)) | fail
  trivial
noncomputable def RaisableF (w : World) (E : Value → Shared → Prop) (v : Value) (s₁ : Shared) : Prop := ∃ e T d, v = .ref e ∧ (hd.heap_39 w.params).In s₁.heap ∧ s₁.heap.get? e = some (excD T d) ∧ E (.ref e) s₁
section
variable {prog : Program} {w : World} {A : Around} {E : Value → Shared → Prop} {s : Shared} {env : Env}
set_option Elab.async true in
theorem x_Raise {e : Expr} {pos : Pos} {Q : Flow → Shared → Prop} (hh : A.handled = none) (h : wpAny (model prog w) A (eval e env) (RaisableF w E) E s) : wpAny (model prog w) A (exec (.Raise (some e) none pos) env) Q E s := by
  show wpAny (model prog w) A (do standAt pos; raiseStmt env (some (do let v ← eval e env; standAt pos; pure v)) none) Q E s
  refine wpAny_bind (wpAny_standAt ?_)
  unfold raiseStmt
  dsimp only
  refine wpAny_bind (wpAny_bind (wpAny_mono h (fun v s₁ h₁ => wpAny_bind (wpAny_standAt (wpAny_pure ?_))) fun _ _ x => x))
  obtain ⟨e, t, d, rfl, X, he, hE⟩ := h₁
  obtain ⟨hp, g, dr, tk, os⟩ := s₁
  have hC : hp.get? 76 = some _ := X 76 (excClassObj _ _ _ _ _ _ _ _ _ _ _ _ _ _ _ _ _ _) rfl
  repeat (first | with_reducible refine wpAny_loadPart_at he ?_ | with_reducible refine wpAny_loadPart_at hC ?_ | (with_reducible refine wpAny_isSubtype_exc hC ?_) | wp_step)
  exact wpAny_raiseNew_none hh hE
in #guard_msgs (drop info, drop warning) in open Nat
end
theorem eExc91 : True := trivial
end Mine
namespace Mine
example : True := by
  k_with "omega" => first | ((fail_if_success have hzz := eom3); (first | k_extra "ub" | (simp +arith only; done) | k_extra "fk" | omega (config := {}))) | fail
  trivial
end Mine
-- Exc10
namespace Mine
noncomputable def TrF (h base : Heap) (e d : Addr) (fl : Value) : Prop :=
  ∃ oe vs T oT ts, h.get? e = some oe ∧ (oe.cls = .ref 76 ∧ oe.dict = some d) ∧ oe.data = .fields vs ∧ vs[1]? = some (.ref T) ∧ base.get? T = none ∧ T ≠ e ∧ h.get? T = some oT ∧ oT.data = .fields ts ∧ ts[3]? = some fl
noncomputable def HeadOk (h base : Heap) (e : Addr) (v : Value) : Prop := v = .none ∨ ∃ T oT ts, v = .ref T ∧ base.get? T = none ∧ T ≠ e ∧ h.get? T = some oT ∧ oT.data = .fields ts ∧ ts[3]? = some .none
theorem cls_mapF (o : Obj) (f : Array Value → Array Value) : (o.mapFields f).cls = o.cls ∧ (o.mapFields f).dict = o.dict := by
  obtain ⟨c, d, dt, sl⟩ := o
  cases dt <;> exact ⟨rfl, rfl⟩
section
variable {M : Model} {A : Around} {E : Value → Shared → Prop} {s : Shared}
set_option Elab.async true in
theorem notF {base : Heap} {env : Env} {outer : List Env} {L e d : Addr} {oe : Obj} {vs : Array Value} {hv : Value} {Q : Unit → Shared → Prop}
    (hfr : A.frames = some (env :: outer)) (hl : s.heap.FunFrames base (env :: outer)) (hf : env.frame = some L)
    (he : s.heap.get? e = some oe) (hcd : oe.cls = .ref 76 ∧ oe.dict = some d) (hd : oe.data = .fields vs) (h1 : vs[1]? = some hv) (hok : HeadOk s.heap base e hv) (hkb : base.StaysIn s.heap) (hen : base.get? e = none)
    (h : ∀ h', base.StaysIn h' → h'.FunFrames base (env :: outer) → TrF h' base e d (rawInt L) → s.heap.UpToSlots h' → Q () { s with heap := h' }) : wpAny M A (noteFrame (.ref e) env) Q E s := by
  have hsz : 1 < vs.size := (Array.getElem?_eq_some_iff.mp h1).1
  -- the entry, behind any heap that stands like this one
  have core : ∀ (g : Heap) (b : Bool), base.StaysIn g → g.FunFrames base (env :: outer) → g.get? e = some oe → (∀ b o, s.heap.get? b = some o → (∀ vs, o.data ≠ .fields vs) → g.get? b = some o) →
      wpAny M A (do setField (.ref e) 1 (← EntryCells.newEntry hv (← frameOf env) .none (rawInt L) .none (← entryPlaceOf L b))) Q E { s with heap := g } := by
    intro g b kb fr eg up
    have hene : e ∉ (env :: outer).filterMap (·.frame) := fun hm => by
      obtain ⟨_, o, ho, hnf⟩ := fr.mem hm
      rw [eg] at ho; cases ho; exact hnf vs hd
    refine wpAny_bind (wpAny_frameOf_fun (s := { s with heap := g }) hfr fr hf fun h₁ hs₁ => ?_)
    refine wpAny_bind (wpAny_entryPlaceOf fun pl hpl => ?_)
    unfold EntryCells.newEntry newFields
    refine wpAny_bind (wpAny_newObj_type ?_ (hpl.sizeOk5 _ _ _ _ _))
    have e₁ : h₁.get? e = some oe := (hs₁.2.1 e hene).trans eg
    have kb₁ : base.StaysIn h₁ := fun b o q => (hs₁.2.1 b fun hm => by rw [(fr.mem hm).1] at q; cases q).trans (kb b o q)
    generalize hO : ({ cls := .type "traceback", dict := none, data := .fields ([hv, .ref L, .none, rawInt L, .none] ++ (if pl.isEmpty then List.replicate 6 Value.none else pl)).toArray } : Obj) = oN
    have hOd : ∃ ts, oN.data = .fields ts ∧ ts[3]? = some (rawInt L) := ⟨_, by rw [← hO], by rcases hpl with rfl | ⟨_, _, _, _, _, _, _, rfl⟩ <;> simp⟩
    obtain ⟨ts, hOd, h3⟩ := hOd
    have e₂ := Heap.get?_push_of_some (h := h₁) oN e₁
    refine wpAny_setField e₂ hd hsz ?_
    have hTe : h₁.objs.size ≠ e := Nat.ne_of_gt (Heap.lt_size e₁)
    have d₃ := Obj.data_mapFields hd (·.setIfInBounds 1 (Value.ref h₁.objs.size))
    have e₃ := Heap.get?_update_self (Obj.mapFields (·.setIfInBounds 1 (Value.ref h₁.objs.size))) e₂ (Obj.isFreed_of_fields d₃)
    have T₃ := (Heap.get?_update_other (h₁.push oN) (Obj.mapFields (·.setIfInBounds 1 (Value.ref h₁.objs.size))) (Ne.symm hTe)).trans (Heap.get?_push_size h₁ (Obj.isFreed_of_fields hOd))
    have keep : ∀ b o, b ≠ e → h₁.get? b = some o → ((h₁.push oN).update e (Obj.mapFields (·.setIfInBounds 1 (Value.ref h₁.objs.size)))).get? b = some o := fun b o hb q => by
      rw [Heap.get?_update_other _ _ (Ne.symm hb)]; exact Heap.get?_push_of_some _ q
    have nf : ∀ b o, s.heap.get? b = some o → (∀ vs, o.data ≠ .fields vs) → b ≠ e := fun b o q n z => by rw [z, he] at q; cases q; exact n vs hd
    have nf' : ∀ b o, g.get? b = some o → (∀ vs, o.data ≠ .fields vs) → b ≠ e := fun b o q n z => by rw [z, eg] at q; cases q; exact n vs hd
    refine h _ (fun b o q => keep b o (fun z => by rw [z, hen] at q; cases q) (kb₁ b o q)) (fr.of_keeps fun b o q n => ?_) ?_ fun b o q n => ?_
    · obtain ⟨sl, z⟩ := hs₁.2.2 b o q
      exact ⟨_, keep b _ (nf' b o q n) z, rfl⟩
    · exact ⟨_, _, h₁.objs.size, _, _, e₃, ⟨(cls_mapF _ _).1.trans hcd.1, (cls_mapF _ _).2.trans hcd.2⟩, d₃, by simp [hsz], kb₁.fresh, hTe, T₃, hOd, h3⟩
    · obtain ⟨sl, z⟩ := hs₁.2.2 b o (up b o q n)
      exact ⟨sl, keep b _ (nf b o q n) z⟩
  unfold noteFrame
  simp only [hf]
  refine wpAny_bind (wpAny_field he hd h1 ?_)
  rcases hok with rfl | ⟨T, oT, ts, rfl, hnT, hTe, hT, hdT, h3⟩
  · rw [if_neg (by decide)]
    exact core s.heap _ hkb hl he fun _ _ q _ => q
  · rw [if_pos (show (Value.ref T != Value.none) = true from by simp)]
    refine wpAny_bind (wpAny_field hT hdT h3 ?_)
    rw [if_neg (show ¬ ((Value.none == rawInt L) = true) from by simp [rawInt])]
    refine wpAny_bind (wpAny_setField hT hdT (Array.getElem?_eq_some_iff.mp h3).1 ?_)
    k_extra "c76"
    k_extra "c83"
    exact core _ _ (fun b o q => (other b fun z => by rw [z, hnT] at q; cases q).trans (hkb b o q)) (hl.of_keeps fun b o q n => ⟨o, (other b (nT b o q n)).trans q, rfl⟩) ((other e (Ne.symm hTe)).trans he)
      fun b o q n => (other b (nT b o q n)).trans q
in #guard_msgs (drop info, drop warning) in open Nat
set_option Elab.async true in
theorem setF {base : Heap} {l : List Env} {e d : Addr} {fl : Value} {Q : Unit → Shared → Prop} (hkb : base.StaysIn s.heap) (hl : s.heap.FunFrames base l) (ht : TrF s.heap base e d fl)
    (h : ∀ h', base.StaysIn h' → h'.FunFrames base l → TrF h' base e d .none → s.heap.UpToSlots h' → Q () { s with heap := h' }) : wpAny M A (setFlight (.ref e) none) Q E s := by
  obtain ⟨oe, vs, T, oT, ts, he, hcd, hd, h1, hnT, hTe, hT, hdT, h3⟩ := ht
  have hsz3 : 3 < ts.size := (Array.getElem?_eq_some_iff.mp h3).1
  k_extra "c76"
  k_extra "c83"
  unfold setFlight
  refine wpAny_bind (wpAny_field he hd h1 ?_)
  rw [if_pos (show (Value.ref T != Value.none) = true from by simp)]
  refine wpAny_setField hT hdT hsz3 (h _ (fun b o q => (other b fun z => by rw [z, hnT] at q; cases q).trans (hkb b o q)) (hl.of_keeps fun b o q n => ⟨o, (other b (nT b o q n)).trans q, rfl⟩) ?_
    fun b o q n => ⟨o.slots, (other b (nT b o q n)).trans q⟩)
  exact ⟨oe, vs, T, _, _, (other e (Ne.symm hTe)).trans he, hcd, hd, h1, hnT, hTe, Heap.get?_update_self _ hT (Obj.isFreed_of_fields (Obj.data_mapFields hdT _)), Obj.data_mapFields hdT _, by simp [hsz3]⟩
in #guard_msgs (drop info, drop warning) in open Nat
end
end Mine
-- Exc11
namespace Mine
noncomputable def FaultAt (w : World) (base : Heap) (l : List Env) (e : Addr) (sp : Int) (news : Led) (h : Heap) : Prop :=
  ∃ B d what t tk u tk2, base.StaysIn B ∧ (∀ q ∈ (d, spotD w what t tk sp u tk2) :: news, B.get? q.1 = some q.2 ∧ base.get? q.1 = none) ∧ B.get? e = none ∧ B.StaysIn h ∧ h.FunFrames B l ∧ TrF h B e d .none
theorem FaultAt.sub {w : World} {base : Heap} {l : List Env} {e : Addr} {sp : Int} {news news' : Led} {h : Heap} (x : FaultAt w base l e sp news h) (k : ∀ p ∈ news', p ∈ news) : FaultAt w base l e sp news' h := by
  obtain ⟨B, d, what, t, tk, u, tk2, h1, h2, r⟩ := x
  refine ⟨B, d, what, t, tk, u, tk2, h1, fun q hq => h2 q ?_, r⟩
  k_extra "c30"
  · exact .head _
  · exact .tail _ (k q hq)
section
variable {M : Model} {A : Around} {E : Value → Shared → Prop} {s : Shared} {w : World} {base g g₂ : Heap} {outer : List Env} {L e : Addr} {m : Str → Option Value} {env : Env} {Q : Unit → Shared → Prop} {news : Led} {sp : Int}
set_option Elab.async true in
theorem leave_fault1 {d T : Addr} {what : Str} {t tk u tk2 : Tok} {all rest : Led} (K : Below A base outer g) (F : Fr g L s.heap m) (N : News g L s.heap all) (hd : (d, spotD w what t tk sp u tk2) ∈ all) (pk : Pick e (excD T d) all rest)
    (hde : d ≠ e) (hr : ∀ p ∈ news, p ∈ rest) (hne : ∀ p ∈ news, p.1 ≠ e) (hf : env.frame = some L) (hk : env.scope.kind = .function)
    (hQ : ∀ h', FaultAt w base outer e sp news h' → g.UpToSlots h' → Q () { s with heap := h' }) : wpAny M (A.deeper env) (leaving env (.ref e)) Q E s := by
  have hnew : base.get? L = none := by
    cases hq : base.get? L with
    | none => rfl
    | some o => exact absurd (Nat.lt_of_lt_of_le (Heap.lt_size (K.stays L o hq)) F.above) (Nat.lt_irrefl _)
  have fr0 : s.heap.FunFrames base (env :: outer) := Heap.FunFrames.cons (by rw [hk]; decide) hf F.ns hnew (K.frames.of_keeps fun b o q _ => ⟨o, F.keep b o q, rfl⟩)
  k_extra "c132"
  have hin : ∀ x ∈ env :: outer, ∀ b, x.frame = some b → b ∈ e :: (env :: outer).filterMap (·.frame) := fun x hx b hb => .tail _ (List.mem_filterMap.mpr ⟨x, hx, hb⟩)
  have hall : ∀ p ∈ (e, excD T d) :: rest, p ∈ all := pk.sub
  have he : s.heap.get? e = some (excD T d) := (N _ (hall _ (.head _))).1
  have notIn : ∀ q ∈ all, q.1 ≠ e → q.1 ∉ e :: (env :: outer).filterMap (·.frame) := fun q hq hqe hm => by
    rcases List.mem_cons.mp hm with z | hm
    · exact hqe z
    obtain ⟨x, hx, hb⟩ := List.mem_filterMap.mp hm
    k_extra "c41"
    · exact (N q hq).2.1 (Option.some.inj (hf.symm.trans hb)).symm
    · obtain ⟨o, ho, _⟩ := (K.frames.mem (List.mem_filterMap.mpr ⟨x, hx, hb⟩)).2
      rw [(N q hq).2.2] at ho; cases ho
  have fresh : ∀ q ∈ all, base.get? q.1 = none := fun q hq => by
    cases z : base.get? q.1 with
    | none => rfl
    | some o => have := K.stays _ _ z; rw [(N q hq).2.2] at this; cases this
  have st : base.StaysIn (hideAll s.heap (e :: (env :: outer).filterMap (·.frame))) := fun b o q => hideAll_get _ (F.keep _ _ (K.stays b o q)) fun hm => by
    rcases List.mem_cons.mp hm with rfl | hm
    · rw [fresh _ (hall _ (.head _))] at q; cases q
    · rw [(fr0.mem hm).1] at q; cases q
  have hl : ∀ q ∈ (d, spotD w what t tk sp u tk2) :: news, (hideAll s.heap (e :: (env :: outer).filterMap (·.frame))).get? q.1 = some q.2 ∧ base.get? q.1 = none := fun q hq => by
    k_extra "c30"
    · exact ⟨hideAll_get _ (N _ hd).1 (notIn _ hd hde), fresh _ hd⟩
    · have h' := hall _ (.tail _ (hr q hq))
      exact ⟨hideAll_get _ (N q h').1 (notIn q h' (hne q hq)), fresh q h'⟩
  have hBe := hideAll_none (e :: (env :: outer).filterMap (·.frame)) (h := s.heap) (.head _)
  unfold leaving
  refine wpAny_bind (notF (base := hideAll s.heap (e :: (env :: outer).filterMap (·.frame))) hst (funFrames_hide fr0 hin) hf he ⟨rfl, rfl⟩ rfl rfl (.inl rfl) (fun b o q => of_hideAll _ q) hBe fun h₁ b₁ f₁ t₁ u₁ => ?_)
  k_extra "c124"
  exact hQ h₂ ⟨_, d, what, t, tk, u, tk2, st, hl, hBe, b₂, f₂.2.2, t₂⟩ ((Heap.UpToSlots.of_keeps F.keep).trans (u₁.trans u₂))
in #guard_msgs (drop info, drop warning) in open Nat
set_option Elab.async true in
theorem leave_fault2 (K : Below A base outer g) (F : Fr g L g₂ m) (R : FaultAt w base (env :: outer) e sp news s.heap) (hsm : g₂.UpToSlots s.heap) (hf : env.frame = some L)
    (hQ : ∀ h', FaultAt w base outer e sp news h' → g.UpToSlots h' → Q () { s with heap := h' }) : wpAny M (A.deeper env) (leaving env (.ref e)) Q E s := by
  obtain ⟨B, d, what, t, tk, u, tk2, st, hl, hBe, bs, fr, oe, vs, T, oT, ts, he, hcd, hd, h1, hnT, hTe, hT, hdT, h3⟩ := R
  k_extra "c132"
  unfold leaving
  refine wpAny_bind (notF hst fr hf he hcd hd h1 (.inr ⟨T, oT, ts, rfl, hnT, hTe, hT, hdT, h3⟩) bs hBe fun h₁ b₁ f₁ t₁ u₁ => ?_)
  k_extra "c124"
  exact hQ h₂ ⟨B, d, what, t, tk, u, tk2, st, hl, hBe, b₂, f₂.2.2, t₂⟩ ((Heap.UpToSlots.of_keeps F.keep).trans (hsm.trans (u₁.trans u₂)))
in #guard_msgs (drop info, drop warning) in open Nat
end
end Mine
-- Rd3
namespace Mine
noncomputable def RdC (w : World) (mean : ExcName → Option Value) (mg mb : Str → Option Value) (x dx W : Addr) (t1 t2 t3 t4 u4 : Tok) (mst : Nat) (ws : Toks) (f : Addr) (args : List Value) (rm um p dep dep' : Nat) {α : Type} (res : Res α) (Rel : Led → Value → α → Prop) : Prop :=
  ∀ (dp un : Nat) (gd : Option (List Code)) (cn : Str) (cs : Scope) (a : Addr) (ccd : Value) (cl : List (Str × Addr)) (outer : List Env) (A₀ : Around) (base h₀ : Heap) (L : Addr) (m : Str → Option Value) (s : Shared) (Q E : Value → Shared → Prop) (u2 u3 : Tok) (news : Led),
    Below A₀ base outer h₀ → Fr h₀ L s.heap m → (hd.heap_39 w.params).In h₀ → News h₀ L s.heap ((dx, rdObj w W t1 t2 t3 t4 u2 u3 u4 p dep mst) :: news) → Top view (looseW view []) mean mg mb h₀ → cs.kind = .function →
    (x, instObj 258 dx) ∈ news → WordsAt news W ws → (∀ q ∈ news, q.1 ≠ dx) → dp + rm < recursionLimit → un + um < cLine →
    (∀ r tl u2' u3' h' tk' v p', res = .ok v p' → Fr h₀ L h' m → News h₀ L h' ((dx, rdObj w W t1 t2 t3 t4 u2' u3' u4 p' dep' mst) :: (tl ++ news)) → Above ((dx, rdObj w W t1 t2 t3 t4 u2 u3 u4 p dep mst) :: news) tl → Rel tl r v → Q r { s with heap := h', toks := tk' }) →
    (∀ e h' tk' sp g, res = .err sp → FaultAt w base (envX cn cs L a ccd cl :: outer) e sp news h' → Fr h₀ L g m → g.UpToSlots h' → E (.ref e) { s with heap := h', toks := tk' }) →
    res ≠ .stuck →
    wpAny (model PySem.Challenge.rw_pq0122_01.row.prog w) (ktrTop dp un gd cn cs L a ccd cl outer) (call (.ref f) (.ref x :: args)) Q E s
theorem WordsAt.mono {news news' : Led} {W : Addr} {ws : List (Str × Nat)} (h : WordsAt news W ws) (k : ∀ p ∈ news, p ∈ news') : WordsAt news' W ws := by
  obtain ⟨vs, n, hm, hl, hat⟩ := h
  refine ⟨vs, n, k _ hm, hl, fun i x hx => ?_⟩
  obtain ⟨a, t, u, n', hv, hb⟩ := hat i x hx
  exact ⟨a, t, u, n', hv, k _ hb⟩
section
variable {w : World} {mean : ExcName → Option Value} {mg mb : Str → Option Value} {dp un : Nat} {gd : Option (List Code)} {cn : Str} {cs : Scope} {a : Addr} {ccd : Value} {cl : List (Str × Addr)} {outer : List Env} {A₀ : Around} {base h₀ : Heap} {L : Addr} {m : Str → Option Value} {s : Shared} {Q E : Value → Shared → Prop}
    {x dx W : Addr} {t1 t2 t3 t4 u2 u3 u4 : Tok} {p d mst : Nat} {ws : List (Str × Nat)} {y : Str × Nat} {all rest : Led}
set_option Elab.async true in
theorem word_use (B : Below A₀ base outer h₀) (F : Fr h₀ L s.heap m) (X : (hd.heap_39 w.params).In h₀) (N : News h₀ L s.heap all) (T : Top view (looseW view []) mean mg mb h₀) (hk : cs.kind = .function)
    (hx : (x, instObj 258 dx) ∈ all) (hdx : (dx, rdObj w W t1 t2 t3 t4 u2 u3 u4 p d mst) ∈ all) (hW : WordsAt all W ws) (hy : ws[p]? = some y) (hp : p < 100000) (hd : dp + 2 < recursionLimit) (hu : un + 30 < cLine)
    (h : ∀ tk h' tk', Fr h₀ L h' m → News h₀ L h' all → Q (.str y.1 tk) { s with heap := h', toks := tk' }) :
    wpAny (model PySem.Challenge.rw_pq0122_01.row.prog w) (ktrTop dp un gd cn cs L a ccd cl outer) (call (.ref 166) [.ref x]) Q E s := by
  refine word_tri w mean mg mb x dx W t1 t2 t3 t4 u2 u3 u4 p d mst ws y all hx hdx hW hy hp dp un gd cn cs a ccd cl outer A₀ base h₀ L m s Q E B F X N T hk hd hu ?_
  rintro r news' h' tk' F' N' ⟨tk, rfl, rfl⟩
  exact h tk h' tk' F' N'
in #guard_msgs (drop info, drop warning) in open Nat
set_option Elab.async true in
theorem spot_use (B : Below A₀ base outer h₀) (F : Fr h₀ L s.heap m) (X : (hd.heap_39 w.params).In h₀) (N : News h₀ L s.heap all) (T : Top view (looseW view []) mean mg mb h₀) (hk : cs.kind = .function)
    (hx : (x, instObj 258 dx) ∈ all) (hdx : (dx, rdObj w W t1 t2 t3 t4 u2 u3 u4 p d mst) ∈ all) (hW : WordsAt all W ws) (hy : ws[p]? = some y) (hp : p < 100000) (hd : dp + 2 < recursionLimit) (hu : un + 30 < cLine)
    (h : ∀ tk h' tk', Fr h₀ L h' m → News h₀ L h' all → Q (.int y.2 tk) { s with heap := h', toks := tk' }) :
    wpAny (model PySem.Challenge.rw_pq0122_01.row.prog w) (ktrTop dp un gd cn cs L a ccd cl outer) (call (.ref 173) [.ref x]) Q E s := by
  refine spot_tri w mean mg mb x dx W t1 t2 t3 t4 u2 u3 u4 p d mst ws y all hx hdx hW hy hp dp un gd cn cs a ccd cl outer A₀ base h₀ L m s Q E B F X N T hk hd hu ?_
  rintro r news' h' tk' F' N' ⟨tk, rfl, rfl⟩
  exact h tk h' tk' F' N'
in #guard_msgs (drop info, drop warning) in open Nat
set_option Elab.async true in
theorem take_use (B : Below A₀ base outer h₀) (F : Fr h₀ L s.heap m) (X : (hd.heap_39 w.params).In h₀) (N : News h₀ L s.heap all) (T : Top view (looseW view []) mean mg mb h₀) (hk : cs.kind = .function)
    (pk : Pick dx (rdObj w W t1 t2 t3 t4 u2 u3 u4 p d mst) all rest) (hx : (x, instObj 258 dx) ∈ rest) (hne : ∀ q ∈ rest, q.1 ≠ dx) (hW : WordsAt rest W ws) (hy : ws[p]? = some y) (hp : p < 100000) (hd : dp + 2 < recursionLimit) (hu : un + 30 < cLine)
    (h : ∀ tk u2' h' tk', Fr h₀ L h' m → News h₀ L h' ((dx, rdObj w W t1 t2 t3 t4 u2' u3 u4 ((p + 1 : Nat)) d mst) :: rest) → Q (.str y.1 tk) { s with heap := h', toks := tk' }) :
    wpAny (model PySem.Challenge.rw_pq0122_01.row.prog w) (ktrTop dp un gd cn cs L a ccd cl outer) (call (.ref 180) [.ref x]) Q E s := by
  refine take_tri w mean mg mb x dx W t1 t2 t3 t4 u2 u3 u4 p d mst ws y rest hx hne hW hy hp dp un gd cn cs a ccd cl outer A₀ base h₀ L m s Q E B F X (News.sub N pk.sub) T hk hd hu ?_
  rintro r news' h' tk' F' N' ⟨tk, u2', rfl, rfl⟩
  exact h tk u2' h' tk' F' (by exact N')
in #guard_msgs (drop info, drop warning) in open Nat
end
end Mine
-- Rd4
namespace Mine
structure Dead : Prop where
  h : False
theorem l9_of {all : Led} {e : Addr} (h : ∀ p ∈ all, p.1 < e) (p : Addr × Obj) (hp : List.Mem p all) : p.1 < e := h p hp
section
variable {w : World} {mean : ExcName → Option Value} {mg mb : Str → Option Value} {dp un : Nat} {gd : Option (List Code)} {cn : Str} {cs : Scope} {a : Addr} {ccd : Value} {cl : List (Str × Addr)} {outer : List Env} {A₀ : Around} {base h₀ : Heap} {L : Addr} {m : Str → Option Value} {s : Shared} {Q E : Value → Shared → Prop}
    {x dx W : Addr} {t1 t2 t3 t4 u2 u3 u4 : Tok} {p d mst : Nat} {ws : List (Str × Nat)} {all rest : Led}
set_option Elab.async true in
theorem word_any (hwl : ws.length ≤ 20000) (hwz : ∀ y ∈ ws, y.1.cps.size ≤ 10000) (B : Below A₀ base outer h₀) (F : Fr h₀ L s.heap m) (X : (hd.heap_39 w.params).In h₀) (N : News h₀ L s.heap all) (T : Top view (looseW view []) mean mg mb h₀) (hk : cs.kind = .function)
    (hx : (x, instObj 258 dx) ∈ all) (hdx : (dx, rdObj w W t1 t2 t3 t4 u2 u3 u4 p d mst) ∈ all) (hW : WordsAt all W ws) (hd : dp + 2 < recursionLimit) (hu : un + 30 < cLine)
    (hn : ws[p]? = none → Dead)
    (h : ∀ y tk h' tk', ws[p]? = some y → p < 20000 → y.1.length ≤ 10000 → Fr h₀ L h' m → News h₀ L h' all → Q (.str y.1 tk) { s with heap := h', toks := tk' }) :
    wpAny (model PySem.Challenge.rw_pq0122_01.row.prog w) (ktrTop dp un gd cn cs L a ccd cl outer) (call (.ref 166) [.ref x]) Q E s := by
  cases hy : ws[p]? with
  | none => exact (hn hy).h.elim
  | some y =>
    k_extra "c142"
    exact word_use B F X N T hk hx hdx hW hy (by omega) hd hu fun tk h' tk' => h y tk h' tk' hy hp (hwz y (List.mem_of_getElem? hy))
in #guard_msgs (drop info, drop warning) in open Nat
set_option Elab.async true in
theorem spot_any (hwl : ws.length ≤ 20000) (B : Below A₀ base outer h₀) (F : Fr h₀ L s.heap m) (X : (hd.heap_39 w.params).In h₀) (N : News h₀ L s.heap all) (T : Top view (looseW view []) mean mg mb h₀) (hk : cs.kind = .function)
    (hx : (x, instObj 258 dx) ∈ all) (hdx : (dx, rdObj w W t1 t2 t3 t4 u2 u3 u4 p d mst) ∈ all) (hW : WordsAt all W ws) (hd : dp + 2 < recursionLimit) (hu : un + 30 < cLine)
    (hn : ws[p]? = none → Dead)
    (h : ∀ y tk h' tk', ws[p]? = some y → p < 20000 → Fr h₀ L h' m → News h₀ L h' all → Q (.int y.2 tk) { s with heap := h', toks := tk' }) :
    wpAny (model PySem.Challenge.rw_pq0122_01.row.prog w) (ktrTop dp un gd cn cs L a ccd cl outer) (call (.ref 173) [.ref x]) Q E s := by
  cases hy : ws[p]? with
  | none => exact (hn hy).h.elim
  | some y =>
    k_extra "c142"
    exact spot_use B F X N T hk hx hdx hW hy (by omega) hd hu fun tk h' tk' => h y tk h' tk' hy hp
in #guard_msgs (drop info, drop warning) in open Nat
theorem raisF {e T d : Addr} (F : Fr h₀ L s.heap m) (X : (hd.heap_39 w.params).In h₀) (N : News h₀ L s.heap all) (he : (e, excD T d) ∈ all) (h : E (.ref e) s) : RaisableF w E (.ref e) s := ⟨e, T, d, rfl, X.keeps F.keep, (N _ he).1, h⟩
end
theorem wz_of {ws : List (Str × Nat)} {p : Nat} {y : Str × Nat} (h : ∀ y ∈ ws, y.1.cps.size ≤ 10000) (e : ws[p]? = some y) : y.1.cps.size ≤ 10000 := h _ (List.mem_of_getElem? e)
theorem wo_of {ws : List (Str × Nat)} {p : Nat} {y : Str × Nat} (h : ∀ y ∈ ws, PyData.strOk y.1 = true) (e : ws[p]? = some y) : PyData.strOk y.1 = true := h _ (List.mem_of_getElem? e)
section
variable {M : Model} {A : Around} {E : Value → Shared → Prop} {s : Shared} {w : World} {base g g₂ : Heap} {outer : List Env} {L e : Addr} {m : Str → Option Value} {env : Env} {Q : Unit → Shared → Prop} {news : Led} {sp : Int} {x dx : Addr}
theorem leave_faultR (_hx : (x, instObj 258 dx) ∈ news) {d T : Addr} {what : Str} {t tk u tk2 : Tok} {all rest : Led} (K : Below A base outer g) (F : Fr g L s.heap m) (N : News g L s.heap all) (hd : (d, spotD w what t tk sp u tk2) ∈ all) (pk : Pick e (excD T d) all rest)
    (hde : d ≠ e) (hr : ∀ p ∈ news, p ∈ rest) (hne : ∀ p ∈ news, p.1 ≠ e) (hf : env.frame = some L) (hk : env.scope.kind = .function)
    (hQ : ∀ h', FaultAt w base outer e sp news h' → g.UpToSlots h' → Q () { s with heap := h' }) : wpAny M (A.deeper env) (leaving env (.ref e)) Q E s :=
  leave_fault1 K F N hd pk hde hr hne hf hk hQ
end
theorem pOp_len {ws : Toks} {p p' : Nat} {v : Str} (h : ∀ y ∈ ws, y.1.cps.size ≤ 10000) (e : pOp ws p = .ok v p') : v.length ≤ 10000 := by
  unfold pOp at e
  split at e
  · cases e
  · rename_i y hy
    split at e
    · cases e; exact wz_of h hy
    · cases e
theorem pVar_len {ws : Toks} {p p' : Nat} {v : Str} (h : ∀ y ∈ ws, y.1.cps.size ≤ 10000) (e : pVar ws p = .ok v p') : v.length ≤ 10000 := by
  unfold pVar at e
  split at e
  · cases e
  · rename_i y hy
    split at e
    · cases e
    · cases e; exact wz_of h hy
end Mine
-- Rd5
namespace Mine
theorem want_ok {c : Str} {ws : Toks} {p p' : Nat} {v : Unit} (h : pWant c ws p = .ok v p') : p' = p + 1 := by
  unfold pWant at h
  split at h
  · cases h
  · split at h
    · cases h
    · cases h; rfl
theorem want_noerr {c : Str} {ws : Toks} {p sp : Nat} {y : Str × Nat} (h : pWant c ws p = .err sp) (e : ws[p]? = some y) (k : (y.1 != c) = false) : False := by
  unfold pWant at h
  rw [e] at h
  dsimp only at h
  rw [k] at h
  cases h
theorem want_nostuck {c : Str} {ws : Toks} {p : Nat} {y : Str × Nat} (h : pWant c ws p = .stuck) (e : ws[p]? = some y) : False := by
  unfold pWant at h
  rw [e] at h
  dsimp only at h
  split at h <;> cases h
section
variable {w : World} {mean : ExcName → Option Value} {mg mb : Str → Option Value} {dp un : Nat} {gd : Option (List Code)} {cn : Str} {cs : Scope} {a : Addr} {ccd : Value} {cl : List (Str × Addr)} {outer : List Env} {A₀ : Around} {base h₀ : Heap} {L : Addr} {m : Str → Option Value} {s : Shared} {Q E : Value → Shared → Prop}
    {x dx W : Addr} {t1 t2 t3 t4 u2 u3 u4 : Tok} {mst : Nat} {ws : List (Str × Nat)} {all rest : Led}
set_option Elab.async true in
theorem rdc_use {α : Type} {res : Res α} {f : Addr} {args : List Value} {rm um p dep dep' : Nat} {Rel : Led → Value → α → Prop}
    (B : Below A₀ base outer h₀) (F : Fr h₀ L s.heap m) (X : (hd.heap_39 w.params).In h₀) (N : News h₀ L s.heap all) (T : Top view (looseW view []) mean mg mb h₀) (hk : cs.kind = .function)
    (pk : Pick dx (rdObj w W t1 t2 t3 t4 u2 u3 u4 p dep mst) all rest) (hx : (x, instObj 258 dx) ∈ rest) (hW : WordsAt rest W ws) (hne : ∀ q ∈ rest, q.1 ≠ dx) (C : RdC w mean mg mb x dx W t1 t2 t3 t4 u4 mst ws f args rm um p dep dep' res Rel) (hd : dp + rm < recursionLimit) (hu : un + um < cLine)
    (hok : ∀ v p' r tl u2' u3' h' tk', res = .ok v p' → Fr h₀ L h' m → News h₀ L h' ((dx, rdObj w W t1 t2 t3 t4 u2' u3' u4 p' dep' mst) :: (tl ++ rest)) → Above ((dx, rdObj w W t1 t2 t3 t4 u2 u3 u4 p dep mst) :: rest) tl → (∀ q ∈ tl, q.1 ≠ dx) → Rel tl r v → Q r { s with heap := h', toks := tk' })
    (herr : ∀ e h' tk' sp g, res = .err sp → FaultAt w base (envX cn cs L a ccd cl :: outer) e sp rest h' → Fr h₀ L g m → g.UpToSlots h' → E (.ref e) { s with heap := h', toks := tk' })
    (hst : res = .stuck → Dead) :
    wpAny (model PySem.Challenge.rw_pq0122_01.row.prog w) (ktrTop dp un gd cn cs L a ccd cl outer) (call (.ref f) (.ref x :: args)) Q E s := by
  k_extra "c40"
  exact fun r tl u2' u3' h' tk' v p' e F' N' A' R' => hok v p' r tl u2' u3' h' tk' e F' N' A' A'.ne R'
in #guard_msgs (drop info, drop warning) in open Nat
set_option Elab.async true in
theorem rdc_useS {res : Res Str} {f : Addr} {args : List Value} {rm um p dep dep' : Nat}
    (B : Below A₀ base outer h₀) (F : Fr h₀ L s.heap m) (X : (hd.heap_39 w.params).In h₀) (N : News h₀ L s.heap all) (T : Top view (looseW view []) mean mg mb h₀) (hk : cs.kind = .function)
    (pk : Pick dx (rdObj w W t1 t2 t3 t4 u2 u3 u4 p dep mst) all rest) (hx : (x, instObj 258 dx) ∈ rest) (hW : WordsAt rest W ws) (hne : ∀ q ∈ rest, q.1 ≠ dx) (C : RdC w mean mg mb x dx W t1 t2 t3 t4 u4 mst ws f args rm um p dep dep' res (fun _ r v => ∃ tk, r = .str v tk)) (hd : dp + rm < recursionLimit) (hu : un + um < cLine)
    (hok : ∀ v p' tk tl u2' u3' h' tk', res = .ok v p' → Fr h₀ L h' m → News h₀ L h' ((dx, rdObj w W t1 t2 t3 t4 u2' u3' u4 p' dep' mst) :: (tl ++ rest)) → Above ((dx, rdObj w W t1 t2 t3 t4 u2 u3 u4 p dep mst) :: rest) tl → (∀ q ∈ tl, q.1 ≠ dx) → Q (.str v tk) { s with heap := h', toks := tk' })
    (herr : ∀ e h' tk' sp g, res = .err sp → FaultAt w base (envX cn cs L a ccd cl :: outer) e sp rest h' → Fr h₀ L g m → g.UpToSlots h' → E (.ref e) { s with heap := h', toks := tk' })
    (hst : res = .stuck → Dead) :
    wpAny (model PySem.Challenge.rw_pq0122_01.row.prog w) (ktrTop dp un gd cn cs L a ccd cl outer) (call (.ref f) (.ref x :: args)) Q E s := by
  k_extra "c40"
  rintro r tl u2' u3' h' tk' v p' e F' N' A' ⟨tk, rfl⟩
  exact hok v p' tk tl u2' u3' h' tk' e F' N' A' A'.ne
in #guard_msgs (drop info, drop warning) in open Nat
set_option Elab.async true in
theorem rdc_useN {c : Str} {f : Addr} {args : List Value} {rm um p dep dep' : Nat}
    (B : Below A₀ base outer h₀) (F : Fr h₀ L s.heap m) (X : (hd.heap_39 w.params).In h₀) (N : News h₀ L s.heap all) (T : Top view (looseW view []) mean mg mb h₀) (hk : cs.kind = .function)
    (pk : Pick dx (rdObj w W t1 t2 t3 t4 u2 u3 u4 p dep mst) all rest) (hx : (x, instObj 258 dx) ∈ rest) (hW : WordsAt rest W ws) (hne : ∀ q ∈ rest, q.1 ≠ dx) (C : RdC w mean mg mb x dx W t1 t2 t3 t4 u4 mst ws f args rm um p dep dep' (pWant c ws p) (fun _ r _ => r = .none)) (hd : dp + rm < recursionLimit) (hu : un + um < cLine)
    (hok : ∀ tl u2' u3' h' tk', pWant c ws p = .ok () (p + 1) → Fr h₀ L h' m → News h₀ L h' ((dx, rdObj w W t1 t2 t3 t4 u2' u3' u4 ((p + 1 : Nat)) dep' mst) :: (tl ++ rest)) → Above ((dx, rdObj w W t1 t2 t3 t4 u2 u3 u4 p dep mst) :: rest) tl → (∀ q ∈ tl, q.1 ≠ dx) → Q .none { s with heap := h', toks := tk' })
    (herr : ∀ e h' tk' sp g, pWant c ws p = .err sp → FaultAt w base (envX cn cs L a ccd cl :: outer) e sp rest h' → Fr h₀ L g m → g.UpToSlots h' → E (.ref e) { s with heap := h', toks := tk' })
    (hst : pWant c ws p = .stuck → Dead) :
    wpAny (model PySem.Challenge.rw_pq0122_01.row.prog w) (ktrTop dp un gd cn cs L a ccd cl outer) (call (.ref f) (.ref x :: args)) Q E s := by
  k_extra "c40"
  rintro r tl u2' u3' h' tk' v p' e F' N' A' rfl
  obtain rfl := want_ok e
  exact hok tl u2' u3' h' tk' e F' N' A' A'.ne
in #guard_msgs (drop info, drop warning) in open Nat
theorem leave_faultM {M : Model} {A : Around} {g g₂ : Heap} {env : Env} {e : Addr} {sp : Int} {Q : Unit → Shared → Prop} (_hx : (x, instObj 258 dx) ∈ rest) (K : Below A base outer g) (F : Fr g L g₂ m) (R : FaultAt w base (env :: outer) e sp all s.heap) (hsm : g₂.UpToSlots s.heap) (hsub : ∀ p ∈ rest, p ∈ all) (hf : env.frame = some L)
    (hQ : ∀ h', FaultAt w base outer e sp rest h' → g.UpToSlots h' → Q () { s with heap := h' }) : wpAny M (A.deeper env) (leaving env (.ref e)) Q E s :=
  leave_fault2 K F R hsm hf fun h' R' U' => hQ h' (R'.sub hsub) U'
end
theorem Above.at {old tl : Led} (h : Above old tl) {a : Addr} {o : Obj} (hm : (a, o) ∈ old) {p : Addr × Obj} (hp : p ∈ tl) : p.1 ≠ a := (h _ hm p hp).symm
section
variable {prog : Program} {w : World} {A : Around} {E : Value → Shared → Prop} {s : Shared} {h₀ : Heap} {L : Addr} {m : Str → Option Value} {all rest : Led}
theorem m_append {l : Addr} {vs : List Value} {n : Nat} {v : Value} {Q : Value → Shared → Prop} (F : Fr h₀ L s.heap m) (N : News h₀ L s.heap all) (pk : Pick l (listOf vs.toArray n) all rest) (hne : ∀ p ∈ rest, p.1 ≠ l) (hz : vs.length ≤ 100000)
    (h : ∀ h', Fr h₀ L h' m → News h₀ L h' ((l, listOf (vs ++ [v]).toArray (n + 1)) :: rest) → Q .none { s with heap := h' }) : wpAny (model prog w) A (call (.builtin "list.append") [.ref l, v]) Q E s := by
  refine append_K F (News.sub N pk.sub) (Upd.head hne) (fun h' F' N' => h h' F' ?_) (by rw [List.size_toArray, sizeLine_eq]; omega)
  rw [List.push_toArray] at N'
  exact N'
end
theorem fit_cat {v l : Str} (h : v.length ≤ 10000) (k : l.length ≤ 1000) : (Str.empty ++ v ++ l).length ≤ sizeLine := by
  rw [Str.length_append, Str.length_append, sizeLine_eq]
  have : (Str.empty : Str).length = 0 := rfl
  omega
theorem m_joinEnd {M : Model} {A : Around} {E : Value → Shared → Prop} {s : Shared} {env : Env} {out : Str} {Q : Value → Shared → Prop} (hsz : out.length ≤ sizeLine) (h : Q (.str out s.toks) { s with toks := s.toks + 1 }) : wpAny M A (joinParts out (evalEach [] env)) Q E s := joinParts_nilE (joinParts_nil h hsz)
theorem mem_up {tl tl' : Led} {x : Addr × Obj} (m : x ∈ tl) (h : ∀ p ∈ tl, p ∈ tl') : x ∈ tl' := h _ m
end Mine
-- Words
namespace Mine
example : True := by
  k_with "omega" => first | ((fail_if_success have hzz := eWords1); (first | k_extra "ub" | (simp +arith only; done) | k_extra "fk" | lia | omega (config := {}))) | fail
  trivial
example : True := by
  k_with "fk" => first | ((fail_if_success have hzz := eWords1); (with_reducible (first | exact fk145 (by assumption) (by assumption) (by assumption) (by assumption) (by assumption) | exact fk43 (by assumption) | exact fk146 (by assumption) (by assumption) | exact fk147 (by assumption) (by assumption) | exact fk148 (by assumption) (by assumption) | exact fk149 (by assumption) | exact fk150 (by assumption) (by assumption) (by assumption) | exact fk151 (by assumption) (by assumption) | exact fk152 (by assumption) (by assumption) (by assumption) (by assumption) | exact fk153 (by assumption) (by assumption) (by assumption) (by assumption) | exact fk154 (by assumption) | exact fk155 (by assumption) (by assumption) (by assumption) (by assumption)))) | fail
  trivial
example : True := by
  k_with "k_all" => first | ((fail_if_success have hzz := eWords1); (first | with_reducible assumption | with_reducible exact List.forall_mem_nil _ | ((with_reducible refine List.forall_mem_cons.mpr ⟨?_, ?_⟩) <;> first | k_ne | k_all) | ((with_reducible refine List.forall_mem_append.mpr ⟨?_, ?_⟩) <;> k_all) | assumption)) | fail
  k_with "k_mem" => first | ((fail_if_success have hzz := eWords1); ((repeat (first | exact List.Mem.head _ | apply List.Mem.tail | apply mem_inr | with_reducible assumption | assumption)); done)) | fail
  k_with "k_room" => first | ((fail_if_success have hzz := eWords1); (ktr_room)) | fail
  k_with "ktr_room" => first | ((fail_if_success have hzz := eWords1); ((try dsimp only [ktrTop]); omega)) | fail
  k_with "ktr_units" => first | ((fail_if_success have hzz := eWords1); ((try dsimp only [ktrTop]); omega)) | fail
  k_with "call ref" => first | ((fail_if_success have hzz := eWords1); (k_here; (with_reducible show wpAny _ _ (call (Value.ref 95) _) _ _ _); first | (k_dflt (refine isop_use (by k_asm) (by k_asm) (by k_asm) (by k_asm) (by k_asm) (by first | assumption | rfl) (by first | assumption | exact Nat.le_of_ble_eq_true rfl) (by first | assumption | exact strOk_getD (by assumption) (by omega)) (by ktr_room) (by ktr_units) ?_); intro qh9 qtk9' qF9 qN9; (try k_sweep); (try k_fold)) | refine stuck_of ?_)) | fail
  k_with "exec While" => first | ((fail_if_success have hzz := eWords1); (k_here; refine stuck_of ?_)) | fail
  k_with "exec While Compare" => first | ((fail_if_success have hzz := eWords1); (k_here; refine stuck_of ?_)) | fail
  k_with "exec While Compare cons nil" => first | ((fail_if_success have hzz := eWords1); (k_here; refine stuck_of ?_)) | fail
  k_with "call builtin:len" => first | ((fail_if_success have hzz := eWords1); (k_here; (with_reducible show wpAny _ _ (call (Value.builtin "len") [Value.str _ _]) _ _ _); k_dflt (refine m_lenS (by omega) ?_))) | fail
  k_with "subscriptTail Name Name str int" => first | ((fail_if_success have hzz := eWords1); (k_here; k_dflt (refine m_itemS (by first | rfl | omega) (by omega) (by omega) ?_ (by with_unfolding_all rfl)))) | fail
  k_with "eval Name" => first | ((fail_if_success have hzz := eWords1); (k_here; k_dflt (refine ld (by k_asm) (by assumption) ?_))) | fail
  k_with "binaryOp Add ref ref" => first | ((fail_if_success have hzz := eWords1); (k_here; k_dflt (refine m_addL (by k_asm) (by k_asm) (by k_mem) (by k_mem) (by simp; omega) ?_); intro qD' qh' qF' qN' ql1; (try k_lt ql1); (try k_sweep))) | fail
  k_with "exec Raise some none" => first | ((fail_if_success have hzz := eWords1); (k_here; refine stuck_of ?_)) | fail
  k_with "exec Raise" => first | ((fail_if_success have hzz := eWords1); (k_here; refine stuck_of ?_)) | fail
  trivial
namespace Z
example : True := by
  k_with "eps" => first | ((fail_if_success have hzz := zWords5); skip) | fail
  trivial
set_option Elab.async true in
set_option maxHeartbeats 2000000 in
theorem words_tri : ∀ (w : World) (mean : ExcName → Option Value) (mg : Str → Option Value) (mb : Str → Option Value) (t : Str) (tkT : Tok) (news : Led) (hlen : t.cps.size ≤ 10000) (hok : PyData.strOk t = true) (ws : List (Str × Nat)) (hL : Laid t 0 ws), Tri LAW hd.heap_39 w mean mg mb 145 [.str t tkT] 12 120 news (fun r news' => ∃ W tl, r = .ref W ∧ news' = tl ++ news ∧ Above news tl ∧ WordsAt tl W (ws ++ [(Str.ofString "", t.cps.size)])) := by
  intro w mean mg mb t tkT news hlen hok ws hL
  k_extra "c11"
  clear hK
  w_top off
  unfold Tri
  k_extra "c14"
  refine wpAny_call ?_
  k_dflt ktr_enter
  k_steps
  refine ⟨?_⟩
  refine While_inv (n₀ := t.cps.size) (JW t tkT ws news) (by k_asm) (News.sub (news' := (_, listOf #[] 0) :: ([] ++ news)) (by k_asm) (k := fun p hp => List.mem_cons_of_mem _ hp)) ?_ ?_
  · refine ⟨0, _, _, [], [], ws, [], 0, rfl, rfl, rfl, rfl, rfl, Nat.zero_le _, (by intro p hp; exact Nat.ne_of_lt ((by assumption : ∀ p ∈ news, p.1 < _) p hp)), (fun _ _ _ h => nomatch h), (fun p hp => nomatch hp), ⟨rfl, fun i x h => by cases h⟩, rfl, hL⟩
  · intro n m₁ nw h₁ tk₁ F₁ N₁ hh9
    obtain ⟨i, tki, l, vs, ws1, ws2, tl, k, hm1, hm2, hm3, rfl, rfl, hi, hnl, hab, htl, hws, hcat, hlaid⟩ := hh9
    have hvl : vs.length ≤ 10000 := by
      have h1 := laid_count hL
      have h2 := hws.1
      rw [← hcat, List.length_append] at h1
      omega
    k_steps
    · refine ⟨?_⟩
      refine While_inv (n₀ := t.cps.size - i) (JI t tkT l i tki ((l, listOf vs.toArray k) :: (tl ++ news))) (by k_asm) (by k_asm) ?_ ?_
      · exact ⟨i, tki, by assumption, by assumption, rfl, by assumption, rfl, rfl, Nat.le_refl _, hi, fun k h1 h2 => absurd h2 (Nat.not_lt.mpr h1)⟩
      · intro n m₂ nw₂ h₂ tk₂ F₂ N₂ hh9
        obtain ⟨j, tkj, hn1, hn2, hn3, hn4, rfl, rfl, hij, hj, hrun⟩ := hh9
        k_steps
        · exact WhileStep.intro (by k_asm) (by k_asm) (n' := t.cps.size - (j + 1)) (by omega) ⟨j + 1, _, by assumption, by assumption, by assumption, by rfl, rfl, rfl, by omega, by omega, fun k' h1 h2 => by
            rcases Nat.lt_or_ge k' j with h | h
            · exact hrun k' h1 h
            · obtain rfl : k' = j := by omega
              rw [← isOpS_one]; assumption⟩
        · obtain ⟨ws', rfl, hl'⟩ := laid_word hlaid (by omega) (by omega) hj hrun (fun _ => by rw [← isOpS_one]; assumption)
          k_extra "c92"
        · obtain rfl : j = i := by omega
          k_extra "c94"
          obtain ⟨_, hl'⟩ := laid_space hlaid (by omega) h0 (occ_punct (by assumption))
          exact WhileStep.intro (by k_asm) (by k_asm) (n' := t.cps.size - (j + 1)) (by omega) ⟨j + 1, _, l, vs, ws1, ws2, tl, _, by assumption, by assumption, by rfl, rfl, rfl, by omega, hnl, hab, htl, hws, hcat, hl'⟩
        · exfalso
          obtain rfl : j = i := by omega
          k_extra "c94"
          have := (laid_space hlaid (by omega) h0 (occ_punct (by assumption))).1
          unfold sgn at this
          (with_reducible rename Txt.isspace _ = false => hsp)
          rw [hsp] at this; cases this
        · obtain rfl : j = i := by omega
          k_extra "c94"
          obtain ⟨ws', rfl, hl'⟩ := laid_sign hlaid (by omega) h0 (occ_punct (by assumption))
          exact ws_turn (j := j + 1) (by k_asm) (by k_asm) (by omega) (by assumption) (by assumption) (by rfl) (by omega) hnl hab htl hws hcat hl' (by assumption)
        · obtain ⟨ws', rfl, hl'⟩ := laid_word hlaid (by omega) (by omega) hj hrun (fun _ => by omega)
          k_extra "c92"
    · have hw2 := laid_end hlaid (by omega)
      subst hw2
      rw [List.append_nil] at hcat
      subst hcat
      k_extra "c66"
      repeat (with_reducible rename _ ∧ _ => hc; obtain ⟨_, _⟩ := hc)
      refine hret _ _ _ _ kF kN ⟨_, _, rfl, Tail.eq (by k_extra "c8"), ?_, ?_⟩
      · repeat' (first | exact Above.nil | assumption | (rw [List.append_nil]; assumption) | (refine Above.cons (fun q hq => by first | exact hnl q hq | exact Nat.ne_of_lt (ktn_ltOf (l := _ ++ _) (by assumption) q (List.mem_append_right _ hq))) ?_))
      · exact ws_all hws (.head _) (.tail _ (.tail _ (.head _))) (fun p hp => .tail _ (.tail _ (.tail _ (.tail _ (by rw [List.append_nil]; exact hp)))))
in #guard_msgs (drop info, drop warning) in open Nat
theorem zWords5 : True := trivial
end Z
theorem eWords1 : True := trivial
end Mine
-- RdOp
namespace Mine
example : True := by
  k_with "k_all" => first | ((fail_if_success have hzz := eRdOp1); (first | with_reducible assumption | with_reducible exact List.forall_mem_nil _ | ((with_reducible refine List.forall_mem_cons.mpr ⟨?_, ?_⟩) <;> first | k_ne | k_all) | ((with_reducible refine List.forall_mem_append.mpr ⟨?_, ?_⟩) <;> k_all) | assumption)) | fail
  k_with "k_mem" => first | ((fail_if_success have hzz := eRdOp1); ((repeat (first | exact List.Mem.head _ | apply List.Mem.tail | apply mem_inr | with_reducible assumption | assumption)); done)) | fail
  k_with "k_room" => first | ((fail_if_success have hzz := eRdOp1); (ktr_room)) | fail
  k_with "ktr_room" => first | ((fail_if_success have hzz := eRdOp1); ((try dsimp only [ktrTop]); omega)) | fail
  k_with "ktr_units" => first | ((fail_if_success have hzz := eRdOp1); ((try dsimp only [ktrTop]); omega)) | fail
  k_with "call ref" => first | ((fail_if_success have hzz := eRdOp1); (k_here; refine stuck_of ?_)) | fail
  k_with "call ref" => first | ((fail_if_success have hzz := eRdOp1); (k_here; (with_reducible show wpAny _ _ (call (Value.ref 95) _) _ _ _); first | (k_dflt (refine isop_use (by k_asm) (by k_asm) (by k_asm) (by k_asm) (by k_asm) (by k_extra "c9") (by k_extra "c20") (by k_extra "c32") (by ktr_room) (by ktr_units) ?_); intro qh9 qtk9' qF9 qN9; (try k_sweep); (try k_fold)) | refine stuck_of ?_)) | fail
  k_with "call ref" => first | ((fail_if_success have hzz := eRdOp1); (k_here; (with_reducible show wpAny _ _ (call (Value.ref 166) _) _ _ _); first | (k_dflt (refine word_use (by k_asm) (by k_asm) (by k_asm) (by k_asm) (by k_asm) (by k_extra "c9") (by k_mem) (by k_mem) (WordsAt.mono (by k_asm) (fun p hp => by k_mem)) (by k_asm) (by omega) (by ktr_room) (by ktr_units) ?_); intro qtk9 qh9 qtk9' qF9 qN9; (try k_sweep); (try k_fold)) | (k_dflt (refine word_any (by k_asm) (by k_asm) (by k_asm) (by k_asm) (by k_asm) (by k_asm) (by k_asm) (by k_extra "c9") (by k_mem) (by k_mem) (WordsAt.mono (by k_asm) (fun p hp => by k_mem)) (by ktr_room) (by ktr_units) ?_ ?_); rotate_left; intro qy9 qtk9 qh9 qtk9' qe9 ql9 qz9 qF9 qN9; (try k_sweep); (try k_fold)) | refine stuck_of ?_)) | fail
  k_with "call ref" => first | ((fail_if_success have hzz := eRdOp1); (k_here; (with_reducible show wpAny _ _ (call (Value.ref 173) _) _ _ _); first | (k_dflt (refine spot_use (by k_asm) (by k_asm) (by k_asm) (by k_asm) (by k_asm) (by k_extra "c9") (by k_mem) (by k_mem) (WordsAt.mono (by k_asm) (fun p hp => by k_mem)) (by k_asm) (by omega) (by ktr_room) (by ktr_units) ?_); intro qtk9 qh9 qtk9' qF9 qN9; (try k_sweep); (try k_fold)) | (k_dflt (refine spot_any (by k_asm) (by k_asm) (by k_asm) (by k_asm) (by k_asm) (by k_asm) (by k_extra "c9") (by k_mem) (by k_mem) (WordsAt.mono (by k_asm) (fun p hp => by k_mem)) (by ktr_room) (by ktr_units) ?_ ?_); rotate_left; intro qy9 qtk9 qh9 qtk9' qe9 ql9 qF9 qN9; (try k_sweep); (try k_fold)) | refine stuck_of ?_)) | fail
  k_with "call ref" => first | ((fail_if_success have hzz := eRdOp1); (k_here; (with_reducible show wpAny _ _ (call (Value.ref 180) _) _ _ _); first | (k_dflt (refine take_use (by k_asm) (by k_asm) (by k_asm) (by k_asm) (by k_asm) (by k_extra "c9") (by k_extra "c3") (by k_mem) (by k_all) (WordsAt.mono (by k_asm) (fun p hp => by k_mem)) (by k_asm) (by omega) (by ktr_room) (by ktr_units) ?_); intro qtk9 qu9 qh9 qtk9' qF9 qN9; (try k_sweep); (try k_fold)) | refine stuck_of ?_)) | fail
  k_with "call ref" => first | ((fail_if_success have hzz := eRdOp1); (k_here; (with_reducible show wpAny _ _ (call (Value.ref 76) _) _ _ _); first | (k_dflt (refine fault_make (by k_asm) (by k_asm) (by k_asm) (by k_asm) (by k_asm) (by k_extra "c9") (by ktr_room) ?_); intro qe9 qd9 qT9 qtk9 qtk8 qtl9 qh9 qtk7 qF9 qN9 ql9 q9) | refine stuck_of ?_)) | fail
  k_with "exec Raise some none" => first | ((fail_if_success have hzz := eRdOp1); (k_here; k_dflt (refine x_Raise (by first | rfl | assumption) ?_))) | fail
  k_with "RaisableF" => first | ((fail_if_success have hzz := eRdOp1); (k_dflt (refine raisF (by k_asm) (by k_asm) (by k_asm) (by k_mem) ?_))) | fail
  k_with "leaving ref" => first | ((fail_if_success have hzz := eRdOp1); (k_here; k_dflt (refine leave_faultR (by k_asm) (by k_asm) (by k_asm) (by k_asm) (by k_mem) (by k_extra "c3") (by k_asm) (fun p hp => by k_mem) (fun p hp => Nat.ne_of_lt (l9_of (by k_asm) p (by k_mem))) rfl rfl ?_); intro qh9 qR9 qU9; refine stuck_of ?_)) | fail
  k_with "callWith ref cons nil" => first | ((fail_if_success have hzz := eRdOp1); (k_here; k_dflt (first | (refine callWith_K0 (by k_in) (by k_is) ?_; k_whole) | (refine callWith_K (by k_asm) (by k_is) ?_; k_whole)))) | fail
  k_with "k_in" => first | ((fail_if_success have hzz := eRdOp1); (first | with_reducible assumption | with_reducible exact Frag.In.keeps (by with_reducible assumption) (Fr.keep (by with_reducible assumption)) | exact Frag.In.keeps (by k_asm) (Fr.keep (by k_asm)))) | fail
  trivial
namespace Z
example : True := by
  k_with "eps" => first | ((fail_if_success have hzz := zRdOp3); skip) | fail
  trivial
set_option Elab.async true in
set_option maxHeartbeats 2000000 in
theorem op_tri : ∀ (w : World) (mean : ExcName → Option Value) (mg : Str → Option Value) (mb : Str → Option Value) (x dx W : Addr) (t1 t2 t3 t4 u4 : Tok) (mst : Nat) (ws : Toks) (hwl : ws.length ≤ 20000) (hwz : ∀ y ∈ ws, y.1.cps.size ≤ 10000) (hwo : ∀ y ∈ ws, PyData.strOk y.1 = true) (p dep : Nat), RdC w mean mg mb x dx W t1 t2 t3 t4 u4 mst ws 194 [] 11 150 p dep dep (pOp ws p) (fun tl r v => ∃ tk, r = .str v tk) := by
  intro w mean mg mb x dx W t1 t2 t3 t4 u4 mst ws hwl hwz hwo p dep
  k_extra "c11"
  clear hK
  w_top off
  unfold RdC
  k_extra "c18"
  refine wpAny_call ?_
  k_dflt ktr_enter
  k_steps
  · (with_reducible rename Fr h₀ L _ _ => kF); (with_reducible rename News h₀ L _ _ => kN)
    exact hok _ [] _ _ _ _ _ _ (by simp only [pOp, *]; rfl) kF kN Above.nil ⟨_, rfl⟩
  · refine ⟨?_⟩
    exact herr _ _ _ _ _ (by simp only [pOp, *]; rfl) (by assumption) (by assumption) (by assumption)
  · exact ⟨hns (by simp only [pOp, *])⟩
in #guard_msgs (drop info, drop warning) in open Nat
theorem zRdOp3 : True := trivial
end Z
theorem eRdOp1 : True := trivial
end Mine
-- RdWant
namespace Mine
example : True := by
  k_with "fk" => first | ((fail_if_success have hzz := eRdWant1); (with_reducible (first | exact fk156 (by assumption) | exact fk157 (by assumption) (by assumption) (by assumption)))) | fail
  trivial
example : True := by
  k_with "k_all" => first | ((fail_if_success have hzz := eRdWant1); (first | with_reducible assumption | with_reducible exact List.forall_mem_nil _ | ((with_reducible refine List.forall_mem_cons.mpr ⟨?_, ?_⟩) <;> first | k_ne | k_all) | ((with_reducible refine List.forall_mem_append.mpr ⟨?_, ?_⟩) <;> k_all) | assumption)) | fail
  k_with "k_mem" => first | ((fail_if_success have hzz := eRdWant1); ((repeat (first | exact List.Mem.head _ | apply List.Mem.tail | apply mem_inr | with_reducible assumption | assumption)); done)) | fail
  k_with "k_room" => first | ((fail_if_success have hzz := eRdWant1); (ktr_room)) | fail
  k_with "ktr_room" => first | ((fail_if_success have hzz := eRdWant1); ((try dsimp only [ktrTop]); omega)) | fail
  k_with "ktr_units" => first | ((fail_if_success have hzz := eRdWant1); ((try dsimp only [ktrTop]); omega)) | fail
  k_with "call ref" => first | ((fail_if_success have hzz := eRdWant1); (k_here; refine stuck_of ?_)) | fail
  k_with "call ref" => first | ((fail_if_success have hzz := eRdWant1); (k_here; (with_reducible show wpAny _ _ (call (Value.ref 95) _) _ _ _); first | (k_dflt (refine isop_use (by k_asm) (by k_asm) (by k_asm) (by k_asm) (by k_asm) (by k_extra "c9") (by k_extra "c20") (by k_extra "c32") (by ktr_room) (by ktr_units) ?_); intro qh9 qtk9' qF9 qN9; (try k_sweep); (try k_fold)) | refine stuck_of ?_)) | fail
  k_with "call ref" => first | ((fail_if_success have hzz := eRdWant1); (k_here; (with_reducible show wpAny _ _ (call (Value.ref 166) _) _ _ _); first | (k_dflt (refine word_use (by k_asm) (by k_asm) (by k_asm) (by k_asm) (by k_asm) (by k_extra "c9") (by k_mem) (by k_mem) (WordsAt.mono (by k_asm) (fun p hp => by k_mem)) (by k_asm) (by omega) (by ktr_room) (by ktr_units) ?_); intro qtk9 qh9 qtk9' qF9 qN9; (try k_sweep); (try k_fold)) | (k_dflt (refine word_any (by k_asm) (by k_asm) (by k_asm) (by k_asm) (by k_asm) (by k_asm) (by k_asm) (by k_extra "c9") (by k_mem) (by k_mem) (WordsAt.mono (by k_asm) (fun p hp => by k_mem)) (by ktr_room) (by ktr_units) ?_ ?_); rotate_left; intro qy9 qtk9 qh9 qtk9' qe9 ql9 qz9 qF9 qN9; (try k_sweep); (try k_fold)) | refine stuck_of ?_)) | fail
  k_with "call ref" => first | ((fail_if_success have hzz := eRdWant1); (k_here; (with_reducible show wpAny _ _ (call (Value.ref 173) _) _ _ _); first | (k_dflt (refine spot_use (by k_asm) (by k_asm) (by k_asm) (by k_asm) (by k_asm) (by k_extra "c9") (by k_mem) (by k_mem) (WordsAt.mono (by k_asm) (fun p hp => by k_mem)) (by k_asm) (by omega) (by ktr_room) (by ktr_units) ?_); intro qtk9 qh9 qtk9' qF9 qN9; (try k_sweep); (try k_fold)) | (k_dflt (refine spot_any (by k_asm) (by k_asm) (by k_asm) (by k_asm) (by k_asm) (by k_asm) (by k_extra "c9") (by k_mem) (by k_mem) (WordsAt.mono (by k_asm) (fun p hp => by k_mem)) (by ktr_room) (by ktr_units) ?_ ?_); rotate_left; intro qy9 qtk9 qh9 qtk9' qe9 ql9 qF9 qN9; (try k_sweep); (try k_fold)) | refine stuck_of ?_)) | fail
  k_with "call ref" => first | ((fail_if_success have hzz := eRdWant1); (k_here; (with_reducible show wpAny _ _ (call (Value.ref 180) _) _ _ _); first | (k_dflt (refine take_use (by k_asm) (by k_asm) (by k_asm) (by k_asm) (by k_asm) (by k_extra "c9") (by k_extra "c3") (by k_mem) (by k_all) (WordsAt.mono (by k_asm) (fun p hp => by k_mem)) (by k_asm) (by omega) (by ktr_room) (by ktr_units) ?_); intro qtk9 qu9 qh9 qtk9' qF9 qN9; (try k_sweep); (try k_fold)) | refine stuck_of ?_)) | fail
  k_with "call ref" => first | ((fail_if_success have hzz := eRdWant1); (k_here; (with_reducible show wpAny _ _ (call (Value.ref 76) _) _ _ _); first | (k_dflt (refine fault_make (by k_asm) (by k_asm) (by k_asm) (by k_asm) (by k_asm) (by k_extra "c9") (by ktr_room) ?_); intro qe9 qd9 qT9 qtk9 qtk8 qtl9 qh9 qtk7 qF9 qN9 ql9 q9) | refine stuck_of ?_)) | fail
  k_with "exec Raise some none" => first | ((fail_if_success have hzz := eRdWant1); (k_here; k_dflt (refine x_Raise (by first | rfl | assumption) ?_))) | fail
  k_with "RaisableF" => first | ((fail_if_success have hzz := eRdWant1); (k_dflt (refine raisF (by k_asm) (by k_asm) (by k_asm) (by k_mem) ?_))) | fail
  k_with "leaving ref" => first | ((fail_if_success have hzz := eRdWant1); (k_here; k_dflt (refine leave_faultR (by k_asm) (by k_asm) (by k_asm) (by k_asm) (by k_mem) (by k_extra "c3") (by k_asm) (fun p hp => by k_mem) (fun p hp => Nat.ne_of_lt (l9_of (by k_asm) p (by k_mem))) rfl rfl ?_); intro qh9 qR9 qU9; refine stuck_of ?_)) | fail
  k_with "callWith ref cons nil" => first | ((fail_if_success have hzz := eRdWant1); (k_here; k_dflt (first | (refine callWith_K0 (by k_in) (by k_is) ?_; k_whole) | (refine callWith_K (by k_asm) (by k_is) ?_; k_whole)))) | fail
  k_with "k_in" => first | ((fail_if_success have hzz := eRdWant1); (first | with_reducible assumption | with_reducible exact Frag.In.keeps (by with_reducible assumption) (Fr.keep (by with_reducible assumption)) | exact Frag.In.keeps (by k_asm) (Fr.keep (by k_asm)))) | fail
  trivial
namespace Z
example : True := by
  k_with "eps" => first | ((fail_if_success have hzz := zRdWant4); skip) | fail
  trivial
set_option Elab.async true in
set_option maxHeartbeats 400000 in
theorem want_tri : ∀ (w : World) (mean : ExcName → Option Value) (mg : Str → Option Value) (mb : Str → Option Value) (x dx W : Addr) (t1 t2 t3 t4 u4 : Tok) (mst : Nat) (ws : Toks) (hwl : ws.length ≤ 20000) (hwz : ∀ y ∈ ws, y.1.cps.size ≤ 10000) (hwo : ∀ y ∈ ws, PyData.strOk y.1 = true) (p dep : Nat) (c : Str) (tc : Tok) (hc : (c != nils) = true) (hcz : c.length ≤ 10), RdC w mean mg mb x dx W t1 t2 t3 t4 u4 mst ws 187 [.str c tc] 11 150 p dep dep (pWant c ws p) (fun _ r _ => r = .none) := by
  intro w mean mg mb x dx W t1 t2 t3 t4 u4 mst ws hwl hwz hwo p dep c tc hc hcz
  k_extra "c11"
  clear hK
  w_top off
  unfold RdC
  k_extra "c18"
  refine wpAny_call ?_
  k_dflt ktr_enter
  k_steps
  · refine ⟨?_⟩
    exact herr _ _ _ _ _ (by simp only [pWant, *]; rfl) (by assumption) (by assumption) (by assumption)
  · (with_reducible rename Fr h₀ L _ _ => kF); (with_reducible rename News h₀ L _ _ => kN)
    exact hok _ [] _ _ _ _ _ _ (by simp only [pWant, *]; rfl) kF kN Above.nil rfl
  · exact ⟨hns (by simp only [pWant, *])⟩
in #guard_msgs (drop info, drop warning) in open Nat
set_option Elab.async true in
set_option maxHeartbeats 400000 in
theorem end_tri : ∀ (w : World) (mean : ExcName → Option Value) (mg : Str → Option Value) (mb : Str → Option Value) (x dx W : Addr) (t1 t2 t3 t4 u4 : Tok) (mst : Nat) (ws : Toks) (hwl : ws.length ≤ 20000) (hwz : ∀ y ∈ ws, y.1.cps.size ≤ 10000) (hwo : ∀ y ∈ ws, PyData.strOk y.1 = true) (p dep : Nat) (tc : Tok), RdC w mean mg mb x dx W t1 t2 t3 t4 u4 mst ws 187 [.str nils tc] 11 150 p dep dep (pEnd ws p) (fun _ r _ => r = .none) := by
  intro w mean mg mb x dx W t1 t2 t3 t4 u4 mst ws hwl hwz hwo p dep tc
  k_extra "c11"
  clear hK
  w_top off
  unfold RdC
  k_extra "c18"
  refine wpAny_call ?_
  k_dflt ktr_enter
  k_steps
  · refine ⟨?_⟩
    exact herr _ _ _ _ _ (by simp only [pEnd, *]; rfl) (by assumption) (by assumption) (by assumption)
  · (with_reducible rename Fr h₀ L _ _ => kF); (with_reducible rename News h₀ L _ _ => kN)
    exact hok _ [] _ _ _ _ _ _ (by simp only [pEnd, *]; rfl) kF kN Above.nil rfl
  · exact ⟨hns (by simp only [pEnd, *])⟩
in #guard_msgs (drop info, drop warning) in open Nat
theorem zRdWant4 : True := trivial
end Z
theorem eRdWant1 : True := trivial
end Mine
-- RdBegin
namespace Mine
example : True := by
  k_with "fk" => first | ((fail_if_success have hzz := eRdBegin1); (with_reducible (first | exact fk149 (by assumption) | exact fk158 (by assumption) (by assumption) | exact fk26))) | fail
  trivial
example : True := by
  k_with "k_all" => first | ((fail_if_success have hzz := eRdBegin1); (first | with_reducible assumption | with_reducible exact List.forall_mem_nil _ | ((with_reducible refine List.forall_mem_cons.mpr ⟨?_, ?_⟩) <;> first | k_ne | k_all) | ((with_reducible refine List.forall_mem_append.mpr ⟨?_, ?_⟩) <;> k_all) | assumption)) | fail
  k_with "k_mem" => first | ((fail_if_success have hzz := eRdBegin1); ((repeat (first | exact List.Mem.head _ | apply List.Mem.tail | apply mem_inr | with_reducible assumption | assumption)); done)) | fail
  k_with "k_room" => first | ((fail_if_success have hzz := eRdBegin1); (ktr_room)) | fail
  k_with "ktr_room" => first | ((fail_if_success have hzz := eRdBegin1); ((try dsimp only [ktrTop]); omega)) | fail
  k_with "ktr_units" => first | ((fail_if_success have hzz := eRdBegin1); ((try dsimp only [ktrTop]); omega)) | fail
  k_with "call ref" => first | ((fail_if_success have hzz := eRdBegin1); (k_here; refine stuck_of ?_)) | fail
  k_with "call ref" => first | ((fail_if_success have hzz := eRdBegin1); (k_here; (with_reducible show wpAny _ _ (call (Value.ref 95) _) _ _ _); first | (k_dflt (refine isop_use (by k_asm) (by k_asm) (by k_asm) (by k_asm) (by k_asm) (by k_extra "c9") (by k_extra "c20") (by k_extra "c32") (by ktr_room) (by ktr_units) ?_); intro qh9 qtk9' qF9 qN9; (try k_sweep); (try k_fold)) | refine stuck_of ?_)) | fail
  k_with "call ref" => first | ((fail_if_success have hzz := eRdBegin1); (k_here; (with_reducible show wpAny _ _ (call (Value.ref 166) _) _ _ _); first | (k_dflt (refine word_use (by k_asm) (by k_asm) (by k_asm) (by k_asm) (by k_asm) (by k_extra "c9") (by k_mem) (by k_mem) (WordsAt.mono (by k_asm) (fun p hp => by k_mem)) (by k_asm) (by omega) (by ktr_room) (by ktr_units) ?_); intro qtk9 qh9 qtk9' qF9 qN9; (try k_sweep); (try k_fold)) | (k_dflt (refine word_any (by k_asm) (by k_asm) (by k_asm) (by k_asm) (by k_asm) (by k_asm) (by k_asm) (by k_extra "c9") (by k_mem) (by k_mem) (WordsAt.mono (by k_asm) (fun p hp => by k_mem)) (by ktr_room) (by ktr_units) ?_ ?_); rotate_left; intro qy9 qtk9 qh9 qtk9' qe9 ql9 qz9 qF9 qN9; (try k_sweep); (try k_fold)) | refine stuck_of ?_)) | fail
  k_with "call ref" => first | ((fail_if_success have hzz := eRdBegin1); (k_here; (with_reducible show wpAny _ _ (call (Value.ref 173) _) _ _ _); first | (k_dflt (refine spot_use (by k_asm) (by k_asm) (by k_asm) (by k_asm) (by k_asm) (by k_extra "c9") (by k_mem) (by k_mem) (WordsAt.mono (by k_asm) (fun p hp => by k_mem)) (by k_asm) (by omega) (by ktr_room) (by ktr_units) ?_); intro qtk9 qh9 qtk9' qF9 qN9; (try k_sweep); (try k_fold)) | (k_dflt (refine spot_any (by k_asm) (by k_asm) (by k_asm) (by k_asm) (by k_asm) (by k_asm) (by k_extra "c9") (by k_mem) (by k_mem) (WordsAt.mono (by k_asm) (fun p hp => by k_mem)) (by ktr_room) (by ktr_units) ?_ ?_); rotate_left; intro qy9 qtk9 qh9 qtk9' qe9 ql9 qF9 qN9; (try k_sweep); (try k_fold)) | refine stuck_of ?_)) | fail
  k_with "call ref" => first | ((fail_if_success have hzz := eRdBegin1); (k_here; (with_reducible show wpAny _ _ (call (Value.ref 180) _) _ _ _); first | (k_dflt (refine take_use (by k_asm) (by k_asm) (by k_asm) (by k_asm) (by k_asm) (by k_extra "c9") (by k_extra "c3") (by k_mem) (by k_all) (WordsAt.mono (by k_asm) (fun p hp => by k_mem)) (by k_asm) (by omega) (by ktr_room) (by ktr_units) ?_); intro qtk9 qu9 qh9 qtk9' qF9 qN9; (try k_sweep); (try k_fold)) | refine stuck_of ?_)) | fail
  k_with "call ref" => first | ((fail_if_success have hzz := eRdBegin1); (k_here; (with_reducible show wpAny _ _ (call (Value.ref 76) _) _ _ _); first | (k_dflt (refine fault_make (by k_asm) (by k_asm) (by k_asm) (by k_asm) (by k_asm) (by k_extra "c9") (by ktr_room) ?_); intro qe9 qd9 qT9 qtk9 qtk8 qtl9 qh9 qtk7 qF9 qN9 ql9 q9) | refine stuck_of ?_)) | fail
  k_with "exec Raise some none" => first | ((fail_if_success have hzz := eRdBegin1); (k_here; k_dflt (refine x_Raise (by first | rfl | assumption) ?_))) | fail
  k_with "RaisableF" => first | ((fail_if_success have hzz := eRdBegin1); (k_dflt (refine raisF (by k_asm) (by k_asm) (by k_asm) (by k_mem) ?_))) | fail
  k_with "leaving ref" => first | ((fail_if_success have hzz := eRdBegin1); (k_here; k_dflt (refine leave_faultR (by k_asm) (by k_asm) (by k_asm) (by k_asm) (by k_mem) (by k_extra "c3") (by k_asm) (fun p hp => by k_mem) (fun p hp => Nat.ne_of_lt (l9_of (by k_asm) p (by k_mem))) rfl rfl ?_); intro qh9 qR9 qU9; refine stuck_of ?_)) | fail
  k_with "callWith ref cons nil" => first | ((fail_if_success have hzz := eRdBegin1); (k_here; k_dflt (first | (refine callWith_K0 (by k_in) (by k_is) ?_; k_whole) | (refine callWith_K (by k_asm) (by k_is) ?_; k_whole)))) | fail
  k_with "k_in" => first | ((fail_if_success have hzz := eRdBegin1); (first | with_reducible assumption | with_reducible exact Frag.In.keeps (by with_reducible assumption) (Fr.keep (by with_reducible assumption)) | exact Frag.In.keeps (by k_asm) (Fr.keep (by k_asm)))) | fail
  k_with "call ref" => first | ((fail_if_success have hzz := eRdBegin1); (k_here; (with_reducible show wpAny _ _ (call (Value.ref 194) _) _ _ _); first | (k_dflt (refine rdc_useS (by k_asm) (by k_asm) (by k_asm) (by k_asm) (by k_asm) (by k_extra "c9") (by k_extra "c3") (by k_mem) (WordsAt.mono (by k_asm) (fun p hp => by k_mem)) (by k_all) (op_tri _ _ _ _ _ _ _ _ _ _ _ _ _ _ (by k_asm) (by k_asm) (by k_asm) _ _) (by ktr_room) (by ktr_units) ?_ ?_ ?_; intro qv9 qp9 qtk9 qtl9 qu9 qu8 qh9 qtk8 qe9 qF9 qN9 qA9 qne9; (have qz9 := pOp_len (by k_asm) qe9); (try k_sweep); (try k_fold); rotate_left 1; (intro qe9 qh9 qtk9 qsp9 qg9 q9 qR9 qF9 qU9); rotate_right 1)) | refine stuck_of ?_)) | fail
  k_with "call ref" => first | ((fail_if_success have hzz := eRdBegin1); (k_here; (with_reducible show wpAny _ _ (call (Value.ref 187) _) _ _ _); first | (k_dflt (refine rdc_useN (by k_asm) (by k_asm) (by k_asm) (by k_asm) (by k_asm) (by k_extra "c9") (by k_extra "c3") (by k_mem) (WordsAt.mono (by k_asm) (fun p hp => by k_mem)) (by k_all) (want_tri _ _ _ _ _ _ _ _ _ _ _ _ _ _ (by k_asm) (by k_asm) (by k_asm) _ _ _ _ (by decide) (by decide)) (by ktr_room) (by ktr_units) ?_ ?_ ?_; intro qtl9 qu9 qu8 qh9 qtk8 qe9 qF9 qN9 qA9 qne9;  (try k_sweep); (try k_fold); rotate_left 1; (intro qe9 qh9 qtk9 qsp9 qg9 q9 qR9 qF9 qU9); rotate_right 1)) | refine stuck_of ?_)) | fail
  k_with "leaving ref" => first | ((fail_if_success have hzz := eRdBegin1); (k_here; k_dflt (refine leave_faultM (by k_asm) (by k_asm) (by k_asm) (by k_asm) (by k_asm) (fun p hp => by k_mem) rfl ?_); intro qh9 qR9 qU9; refine stuck_of ?_)) | fail
  trivial
theorem above_drop {d : Addr} {o o' : Obj} {news tl : Led} (h : Above ((d, o) :: news) tl) : Above ((d, o') :: news) tl := Above.sub2 h (fun _ h => h)
namespace Z
example : True := by
  k_with "eps" => first | ((fail_if_success have hzz := zRdBegin4); skip) | fail
  trivial
set_option Elab.async true in
set_option maxHeartbeats 400000 in
theorem begin_tri : ∀ (w : World) (mean : ExcName → Option Value) (mg : Str → Option Value) (mb : Str → Option Value) (x dx W : Addr) (t1 t2 t3 t4 u4 : Tok) (mst : Nat) (ws : Toks) (hwl : ws.length ≤ 20000) (hwz : ∀ y ∈ ws, y.1.cps.size ≤ 10000) (hwo : ∀ y ∈ ws, PyData.strOk y.1 = true) (p dep : Nat) (hdep : dep + 1 ≤ mst) (hm : mst ≤ 1000), RdC w mean mg mb x dx W t1 t2 t3 t4 u4 mst ws 201 [] 13 180 p dep (dep + 1) (pWant lpar ws p) (fun _ r _ => r = .none) := by
  intro w mean mg mb x dx W t1 t2 t3 t4 u4 mst ws hwl hwz hwo p dep hdep hm
  k_extra "c11"
  clear hK
  w_top off
  unfold RdC
  k_extra "c18"
  refine wpAny_call ?_
  k_dflt ktr_enter
  k_steps
  · (with_reducible rename Fr h₀ L _ _ => kF); (with_reducible rename News h₀ L _ _ => kN)
    exact hok _ _ _ _ _ _ _ _ (by assumption) kF kN (by assumption) rfl
  · refine ⟨?_⟩
    k_extra "c138"
  · exact ⟨hns (by assumption)⟩
in #guard_msgs (drop info, drop warning) in open Nat
set_option Elab.async true in
set_option maxHeartbeats 400000 in
theorem close_tri : ∀ (w : World) (mean : ExcName → Option Value) (mg : Str → Option Value) (mb : Str → Option Value) (x dx W : Addr) (t1 t2 t3 t4 u4 : Tok) (mst : Nat) (ws : Toks) (hwl : ws.length ≤ 20000) (hwz : ∀ y ∈ ws, y.1.cps.size ≤ 10000) (hwo : ∀ y ∈ ws, PyData.strOk y.1 = true) (p dep : Nat) (hdep : dep + 1 ≤ mst) (hm : mst ≤ 1000), RdC w mean mg mb x dx W t1 t2 t3 t4 u4 mst ws 208 [] 13 180 p (dep + 1) dep (pWant rpar ws p) (fun _ r _ => r = .none) := by
  intro w mean mg mb x dx W t1 t2 t3 t4 u4 mst ws hwl hwz hwo p dep hdep hm
  k_extra "c11"
  clear hK
  w_top off
  unfold RdC
  k_extra "c18"
  refine wpAny_call ?_
  k_dflt ktr_enter
  k_steps
  · (with_reducible rename Fr h₀ L _ _ => kF); (with_reducible rename News h₀ L _ _ => kN)
    have e : ((dep + 1 : Nat) : Int) - 1 = (dep : Nat) := by omega
    rw [e] at kN
    exact hok _ _ _ _ _ _ _ _ (by assumption) kF kN (by assumption) rfl
  · refine ⟨?_⟩
    k_extra "c138"
  · exact ⟨hns (by assumption)⟩
in #guard_msgs (drop info, drop warning) in open Nat
set_option Elab.async true in
set_option maxHeartbeats 400000 in
theorem var_tri : ∀ (w : World) (mean : ExcName → Option Value) (mg : Str → Option Value) (mb : Str → Option Value) (x dx W : Addr) (t1 t2 t3 t4 u4 : Tok) (mst : Nat) (ws : Toks) (hwl : ws.length ≤ 20000) (hwz : ∀ y ∈ ws, y.1.cps.size ≤ 10000) (hwo : ∀ y ∈ ws, PyData.strOk y.1 = true) (p dep : Nat), RdC w mean mg mb x dx W t1 t2 t3 t4 u4 mst ws 215 [] 13 180 p dep dep (pVar ws p) (fun _ r v => ∃ tk, r = .str v tk) := by
  intro w mean mg mb x dx W t1 t2 t3 t4 u4 mst ws hwl hwz hwo p dep
  k_extra "c11"
  clear hK
  w_top off
  unfold RdC
  k_extra "c18"
  refine wpAny_call ?_
  k_dflt ktr_enter
  k_steps
  · refine ⟨?_⟩
    exact herr _ _ _ _ _ (by simp only [pVar, *]; rfl) (by assumption) (by assumption) (by assumption)
  · (with_reducible rename Fr h₀ L _ _ => kF); (with_reducible rename News h₀ L _ _ => kN)
    exact hok _ [] _ _ _ _ _ _ (by simp only [pVar, *]; rfl) kF kN Above.nil ⟨_, rfl⟩
  · exact ⟨hns (by simp only [pVar, *])⟩
in #guard_msgs (drop info, drop warning) in open Nat
theorem zRdBegin4 : True := trivial
end Z
theorem eRdBegin1 : True := trivial
end Mine
-- RdTerm
namespace Mine
example : True := by
  k_with "fk" => first | ((fail_if_success have hzz := eRdTerm1); (with_reducible (first | exact fk159 (by assumption) | exact fk160 (by assumption) | exact fk55 (by assumption) | exact fk161 (by assumption)))) | fail
  trivial
example : True := by
  k_with "k_all" => first | ((fail_if_success have hzz := eRdTerm1); (first | with_reducible assumption | with_reducible exact List.forall_mem_nil _ | ((with_reducible refine List.forall_mem_cons.mpr ⟨?_, ?_⟩) <;> first | k_ne | k_all) | ((with_reducible refine List.forall_mem_append.mpr ⟨?_, ?_⟩) <;> k_all) | assumption)) | fail
  k_with "k_mem" => first | ((fail_if_success have hzz := eRdTerm1); ((repeat (first | exact List.Mem.head _ | apply List.Mem.tail | apply mem_inr | with_reducible assumption | assumption)); done)) | fail
  k_with "k_room" => first | ((fail_if_success have hzz := eRdTerm1); (ktr_room)) | fail
  k_with "ktr_room" => first | ((fail_if_success have hzz := eRdTerm1); ((try dsimp only [ktrTop]); omega)) | fail
  k_with "ktr_units" => first | ((fail_if_success have hzz := eRdTerm1); ((try dsimp only [ktrTop]); omega)) | fail
  k_with "call ref" => first | ((fail_if_success have hzz := eRdTerm1); (k_here; refine stuck_of ?_)) | fail
  k_with "call ref" => first | ((fail_if_success have hzz := eRdTerm1); (k_here; (with_reducible show wpAny _ _ (call (Value.ref 95) _) _ _ _); first | (k_dflt (refine isop_use (by k_asm) (by k_asm) (by k_asm) (by k_asm) (by k_asm) (by k_extra "c9") (by k_extra "c20") (by k_extra "c32") (by ktr_room) (by ktr_units) ?_); intro qh9 qtk9' qF9 qN9; (try k_sweep); (try k_fold)) | refine stuck_of ?_)) | fail
  k_with "call ref" => first | ((fail_if_success have hzz := eRdTerm1); (k_here; (with_reducible show wpAny _ _ (call (Value.ref 166) _) _ _ _); first | (k_dflt (refine word_use (by k_asm) (by k_asm) (by k_asm) (by k_asm) (by k_asm) (by k_extra "c9") (by k_mem) (by k_mem) (WordsAt.mono (by k_asm) (fun p hp => by k_mem)) (by k_asm) (by omega) (by ktr_room) (by ktr_units) ?_); intro qtk9 qh9 qtk9' qF9 qN9; (try k_sweep); (try k_fold)) | (k_dflt (refine word_any (by k_asm) (by k_asm) (by k_asm) (by k_asm) (by k_asm) (by k_asm) (by k_asm) (by k_extra "c9") (by k_mem) (by k_mem) (WordsAt.mono (by k_asm) (fun p hp => by k_mem)) (by ktr_room) (by ktr_units) ?_ ?_); rotate_left; intro qy9 qtk9 qh9 qtk9' qe9 ql9 qz9 qF9 qN9; (try k_sweep); (try k_fold)) | refine stuck_of ?_)) | fail
  k_with "call ref" => first | ((fail_if_success have hzz := eRdTerm1); (k_here; (with_reducible show wpAny _ _ (call (Value.ref 173) _) _ _ _); first | (k_dflt (refine spot_use (by k_asm) (by k_asm) (by k_asm) (by k_asm) (by k_asm) (by k_extra "c9") (by k_mem) (by k_mem) (WordsAt.mono (by k_asm) (fun p hp => by k_mem)) (by k_asm) (by omega) (by ktr_room) (by ktr_units) ?_); intro qtk9 qh9 qtk9' qF9 qN9; (try k_sweep); (try k_fold)) | (k_dflt (refine spot_any (by k_asm) (by k_asm) (by k_asm) (by k_asm) (by k_asm) (by k_asm) (by k_extra "c9") (by k_mem) (by k_mem) (WordsAt.mono (by k_asm) (fun p hp => by k_mem)) (by ktr_room) (by ktr_units) ?_ ?_); rotate_left; intro qy9 qtk9 qh9 qtk9' qe9 ql9 qF9 qN9; (try k_sweep); (try k_fold)) | refine stuck_of ?_)) | fail
  k_with "call ref" => first | ((fail_if_success have hzz := eRdTerm1); (k_here; (with_reducible show wpAny _ _ (call (Value.ref 180) _) _ _ _); first | (k_dflt (refine take_use (by k_asm) (by k_asm) (by k_asm) (by k_asm) (by k_asm) (by k_extra "c9") (by k_extra "c3") (by k_mem) (by k_all) (WordsAt.mono (by k_asm) (fun p hp => by k_mem)) (by k_asm) (by omega) (by ktr_room) (by ktr_units) ?_); intro qtk9 qu9 qh9 qtk9' qF9 qN9; (try k_sweep); (try k_fold)) | refine stuck_of ?_)) | fail
  k_with "call ref" => first | ((fail_if_success have hzz := eRdTerm1); (k_here; (with_reducible show wpAny _ _ (call (Value.ref 76) _) _ _ _); first | (k_dflt (refine fault_make (by k_asm) (by k_asm) (by k_asm) (by k_asm) (by k_asm) (by k_extra "c9") (by ktr_room) ?_); intro qe9 qd9 qT9 qtk9 qtk8 qtl9 qh9 qtk7 qF9 qN9 ql9 q9) | refine stuck_of ?_)) | fail
  k_with "exec Raise some none" => first | ((fail_if_success have hzz := eRdTerm1); (k_here; k_dflt (refine x_Raise (by first | rfl | assumption) ?_))) | fail
  k_with "RaisableF" => first | ((fail_if_success have hzz := eRdTerm1); (k_dflt (refine raisF (by k_asm) (by k_asm) (by k_asm) (by k_mem) ?_))) | fail
  k_with "leaving ref" => first | ((fail_if_success have hzz := eRdTerm1); (k_here; k_dflt (refine leave_faultR (by k_asm) (by k_asm) (by k_asm) (by k_asm) (by k_mem) (by k_extra "c3") (by k_asm) (fun p hp => by k_mem) (fun p hp => Nat.ne_of_lt (l9_of (by k_asm) p (by k_mem))) rfl rfl ?_); intro qh9 qR9 qU9; refine stuck_of ?_)) | fail
  k_with "callWith ref cons nil" => first | ((fail_if_success have hzz := eRdTerm1); (k_here; k_dflt (first | (refine callWith_K0 (by k_in) (by k_is) ?_; k_whole) | (refine callWith_K (by k_asm) (by k_is) ?_; k_whole)))) | fail
  k_with "k_in" => first | ((fail_if_success have hzz := eRdTerm1); (first | with_reducible assumption | with_reducible exact Frag.In.keeps (by with_reducible assumption) (Fr.keep (by with_reducible assumption)) | exact Frag.In.keeps (by k_asm) (Fr.keep (by k_asm)))) | fail
  k_with "call ref" => first | ((fail_if_success have hzz := eRdTerm1); (k_here; (with_reducible show wpAny _ _ (call (Value.ref 194) _) _ _ _); first | (k_dflt (refine rdc_useS (by k_asm) (by k_asm) (by k_asm) (by k_asm) (by k_asm) (by k_extra "c9") (by k_extra "c3") (by k_mem) (WordsAt.mono (by k_asm) (fun p hp => by k_mem)) (by k_all) (op_tri _ _ _ _ _ _ _ _ _ _ _ _ _ _ (by k_asm) (by k_asm) (by k_asm) _ _) (by ktr_room) (by ktr_units) ?_ ?_ ?_; intro qv9 qp9 qtk9 qtl9 qu9 qu8 qh9 qtk8 qe9 qF9 qN9 qA9 qne9; (have qz9 := pOp_len (by k_asm) qe9); (try k_sweep); (try k_fold); rotate_left 1; (intro qe9 qh9 qtk9 qsp9 qg9 q9 qR9 qF9 qU9); rotate_right 1)) | refine stuck_of ?_)) | fail
  k_with "call ref" => first | ((fail_if_success have hzz := eRdTerm1); (k_here; (with_reducible show wpAny _ _ (call (Value.ref 201) _) _ _ _); first | (k_dflt (refine rdc_useN (by k_asm) (by k_asm) (by k_asm) (by k_asm) (by k_asm) (by k_extra "c9") (by k_extra "c3") (by k_mem) (WordsAt.mono (by k_asm) (fun p hp => by k_mem)) (by k_all) (begin_tri _ _ _ _ _ _ _ _ _ _ _ _ _ _ (by k_asm) (by k_asm) (by k_asm) _ _ (by omega) (by omega)) (by ktr_room) (by ktr_units) ?_ ?_ ?_; intro qtl9 qu9 qu8 qh9 qtk8 qe9 qF9 qN9 qA9 qne9;  (try k_sweep); (try k_fold); rotate_left 1; (intro qe9 qh9 qtk9 qsp9 qg9 q9 qR9 qF9 qU9); rotate_right 1)) | refine stuck_of ?_)) | fail
  k_with "call ref" => first | ((fail_if_success have hzz := eRdTerm1); (k_here; (with_reducible show wpAny _ _ (call (Value.ref 208) _) _ _ _); first | (k_dflt (refine rdc_useN (by k_asm) (by k_asm) (by k_asm) (by k_asm) (by k_asm) (by k_extra "c9") (by k_extra "c3") (by k_mem) (WordsAt.mono (by k_asm) (fun p hp => by k_mem)) (by k_all) (close_tri _ _ _ _ _ _ _ _ _ _ _ _ _ _ (by k_asm) (by k_asm) (by k_asm) _ _ (by omega) (by omega)) (by ktr_room) (by ktr_units) ?_ ?_ ?_; intro qtl9 qu9 qu8 qh9 qtk8 qe9 qF9 qN9 qA9 qne9;  (try k_sweep); (try k_fold); rotate_left 1; (intro qe9 qh9 qtk9 qsp9 qg9 q9 qR9 qF9 qU9); rotate_right 1)) | refine stuck_of ?_)) | fail
  k_with "exec While" => first | ((fail_if_success have hzz := eRdTerm1); (k_here; k_dflt (refine whl_start 100 ?_))) | fail
  k_with "exec While Compare" => first | ((fail_if_success have hzz := eRdTerm1); (k_here; k_dflt (refine whl_start 100 ?_))) | fail
  k_with "exec While Compare cons nil" => first | ((fail_if_success have hzz := eRdTerm1); (k_here; k_dflt (refine whl_start 100 ?_))) | fail
  k_with "k_all" => first | ((fail_if_success have hzz := eRdTerm1); (first | with_reducible assumption | with_reducible exact List.forall_mem_nil _ | ((with_reducible refine List.forall_mem_cons.mpr ⟨?_, ?_⟩) <;> first | k_ne | k_all) | ((with_reducible refine List.forall_mem_append.mpr ⟨?_, ?_⟩) <;> k_all) | exact fun p hp => Above.at (by assumption) (by k_mem) hp | assumption)) | fail
  k_with "call builtin:list.append" => first | ((fail_if_success have hzz := eRdTerm1); (k_here; k_dflt (refine m_append (by k_asm) (by k_asm) (by k_extra "c3") (by k_all) (by simp; try omega) ?_; intro qh' qF' qN'))) | fail
  k_with "call type:tuple cons nil" => first | ((fail_if_success have hzz := eRdTerm1); (k_here; k_dflt (refine m_tupleOf (by k_asm) (by k_asm) (by k_mem) (by k_extra "c58") ?_); intro qD' qh' qF' qN' ql1; (try k_lt ql1); (try k_sweep))) | fail
  k_with "leaving ref" => first | ((fail_if_success have hzz := eRdTerm1); (k_here; k_dflt (refine leave_faultM (by k_asm) (by k_asm) (by k_asm) (by k_asm) (by k_asm) (fun p hp => by k_mem) rfl ?_); intro qh9 qR9 qU9; refine stuck_of ?_)) | fail
  trivial
theorem whl_if {b : Bool} {T F : Prop} (ht : b = true → T) (hf : b = false → F) : WhlIf b T F := by
  cases b
  · exact WhlIf.no rfl (hf rfl)
  · exact WhlIf.yes rfl (ht rfl)
theorem rd_end {w : World} {h₀ h : Heap} {L dx W : Addr} {t1 t2 t3 t4 u2 u3 u4 : Tok} {p d mst : Int} {news all rest tl : Led} (kN : News h₀ L h all) (pk : Pick dx (rdObj w W t1 t2 t3 t4 u2 u3 u4 p d mst) all rest) (t : Tail news rest tl) : News h₀ L h ((dx, rdObj w W t1 t2 t3 t4 u2 u3 u4 p d mst) :: (tl ++ news)) := by
  have e := t.eq
  subst e
  exact News.sub kN pk.sub
noncomputable def TermC (w : World) (mean : ExcName → Option Value) (mg mb : Str → Option Value) (x dx W : Addr) (t1 t2 t3 t4 u4 : Tok) (mst : Nat) (ws : Toks) (f : Nat) : Prop := ∀ (p dep : Nat), dep + f ≤ mst → RdC w mean mg mb x dx W t1 t2 t3 t4 u4 mst ws 222 [] (15 + f) (200 + 40 * f) p dep dep (pTerm f ws p) (fun tl r v => IsTm tl r v)
theorem term_use9 {w : World} {mean : ExcName → Option Value} {mg mb : Str → Option Value} {x dx W : Addr} {t1 t2 t3 t4 u4 : Tok} {mst : Nat} {ws : Toks} {f p dep : Nat} (h : TermC w mean mg mb x dx W t1 t2 t3 t4 u4 mst ws f) (hd : dep + f ≤ mst) : RdC w mean mg mb x dx W t1 t2 t3 t4 u4 mst ws 222 [] (15 + f) (200 + 40 * f) p dep dep (pTerm f ws p) (fun tl r v => IsTm tl r v) := h p dep hd
example : True := by
  k_with "call ref" => first | ((fail_if_success have hzz := eRdTerm1); (k_here; (with_reducible show wpAny _ _ (call (Value.ref 222) _) _ _ _); first | (k_dflt (refine rdc_use (by k_asm) (by k_asm) (by k_asm) (by k_asm) (by k_asm) (by k_extra "c9") (by k_extra "c3") (by k_mem) (WordsAt.mono (by k_asm) (fun p hp => by k_mem)) (by k_all) (term_use9 (by k_asm) (by omega)) (by ktr_room) (by ktr_units) ?_ ?_ ?_; intro qv9 qp9 qr9 qtl9 qu9 qu8 qh9 qtk8 qe9 qF9 qN9 qA9 qne9 qR9; (try dsimp only at qR9);  (try k_sweep); (try k_fold); rotate_left 1; (intro qe9 qh9 qtk9 qsp9 qg9 q9 qR9 qF9 qU9); rotate_right 1)) | refine stuck_of ?_)) | fail
  trivial
namespace Z
example : True := by
  k_with "eps" => first | ((fail_if_success have hzz := zRdTerm5); skip) | fail
  trivial
set_option Elab.async true in
set_option maxHeartbeats 1000000 in
theorem rterm_tri : ∀ (w : World) (mean : ExcName → Option Value) (mg : Str → Option Value) (mb : Str → Option Value) (x dx W : Addr) (t1 t2 t3 t4 u4 : Tok) (mst : Nat) (ws : Toks) (hwl : ws.length ≤ 20000) (hwz : ∀ y ∈ ws, y.1.cps.size ≤ 10000) (hwo : ∀ y ∈ ws, PyData.strOk y.1 = true) (hm : mst ≤ 1000), ∀ f, TermC w mean mg mb x dx W t1 t2 t3 t4 u4 mst ws f := by
  intro w mean mg mb x dx W t1 t2 t3 t4 u4 mst ws hwl hwz hwo hm
  k_extra "c11"
  clear hK
  w_top off
  refine nat_ind ?_ ?_
  · intro p dep hdep
    k_extra "c18"
    exact absurd rfl hns
  · intro f ih
    intro p dep hdep
    unfold RdC
    k_extra "c18"
    refine wpAny_call ?_
    k_dflt ktr_enter
    k_steps
    rotate_left 3
    · refine whl_if (fun hb1 => ?_) (fun hb1 => ?_)
      · k_steps
        · refine whl_if (fun hb2 => ?_) (fun hb2 => ?_)
          · exact absurd (by k_extra "c64") hns
          · k_steps
            · ((with_reducible rename Fr h₀ L _ _ => kF); (with_reducible rename News h₀ L _ _ => kN); (repeat (with_reducible rename _ ∧ _ => hc; obtain ⟨_, _⟩ := hc)); exact hok _ _ _ _ _ _ _ _ (by k_extra "c64") kF (rd_end kN (by k_extra "c3") (by k_extra "c8")) (by k_extra "c1") (by exact .two (by k_mem) (IsTm.mono (by assumption) (fun p hp => by simp only [List.mem_cons, List.mem_append, hp, true_or, or_true])) (IsTm.mono (by assumption) (fun p hp => by simp only [List.mem_cons, List.mem_append, hp, true_or, or_true]))))
            k_extra "c12"
        k_extra "c12"
      · k_steps
        · ((with_reducible rename Fr h₀ L _ _ => kF); (with_reducible rename News h₀ L _ _ => kN); (repeat (with_reducible rename _ ∧ _ => hc; obtain ⟨_, _⟩ := hc)); exact hok _ _ _ _ _ _ _ _ (by k_extra "c64") kF (rd_end kN (by k_extra "c3") (by k_extra "c8")) (by k_extra "c1") (by exact .one (by k_mem) (IsTm.mono (by assumption) (fun p hp => by simp only [List.mem_cons, List.mem_append, hp, true_or, or_true]))))
        k_extra "c12"
    rotate_right 3
    · ((with_reducible rename Fr h₀ L _ _ => kF); (with_reducible rename News h₀ L _ _ => kN); (repeat (with_reducible rename _ ∧ _ => hc; obtain ⟨_, _⟩ := hc)); exact hok _ _ _ _ _ _ _ _ (by k_extra "c64") kF (rd_end kN (by k_extra "c3") (by k_extra "c8")) (by k_extra "c1") (by exact .leaf (by k_mem)))
    k_extra "c12"
in #guard_msgs (drop info, drop warning) in open Nat
theorem zRdTerm5 : True := trivial
end Z
theorem eRdTerm1 : True := trivial
end Mine
-- RdPapers
namespace Mine
example : True := by
  k_with "fk" => first | ((fail_if_success have hzz := eRdPapers1); (with_reducible (first | exact fk161 (by assumption) | exact fk162 (by assumption) | exact fk163 (by assumption)))) | fail
  trivial
example : True := by
  k_with "k_all" => first | ((fail_if_success have hzz := eRdPapers1); (first | with_reducible assumption | with_reducible exact List.forall_mem_nil _ | ((with_reducible refine List.forall_mem_cons.mpr ⟨?_, ?_⟩) <;> first | k_ne | k_all) | ((with_reducible refine List.forall_mem_append.mpr ⟨?_, ?_⟩) <;> k_all) | assumption)) | fail
  k_with "k_mem" => first | ((fail_if_success have hzz := eRdPapers1); ((repeat (first | exact List.Mem.head _ | apply List.Mem.tail | apply mem_inr | with_reducible assumption | assumption)); done)) | fail
  k_with "k_room" => first | ((fail_if_success have hzz := eRdPapers1); (ktr_room)) | fail
  k_with "ktr_room" => first | ((fail_if_success have hzz := eRdPapers1); ((try dsimp only [ktrTop]); omega)) | fail
  k_with "ktr_units" => first | ((fail_if_success have hzz := eRdPapers1); ((try dsimp only [ktrTop]); omega)) | fail
  k_with "call ref" => first | ((fail_if_success have hzz := eRdPapers1); (k_here; refine stuck_of ?_)) | fail
  k_with "call ref" => first | ((fail_if_success have hzz := eRdPapers1); (k_here; (with_reducible show wpAny _ _ (call (Value.ref 95) _) _ _ _); first | (k_dflt (refine isop_use (by k_asm) (by k_asm) (by k_asm) (by k_asm) (by k_asm) (by k_extra "c9") (by k_extra "c20") (by k_extra "c32") (by ktr_room) (by ktr_units) ?_); intro qh9 qtk9' qF9 qN9; (try k_sweep); (try k_fold)) | refine stuck_of ?_)) | fail
  k_with "call ref" => first | ((fail_if_success have hzz := eRdPapers1); (k_here; (with_reducible show wpAny _ _ (call (Value.ref 166) _) _ _ _); first | (k_dflt (refine word_use (by k_asm) (by k_asm) (by k_asm) (by k_asm) (by k_asm) (by k_extra "c9") (by k_mem) (by k_mem) (WordsAt.mono (by k_asm) (fun p hp => by k_mem)) (by k_asm) (by omega) (by ktr_room) (by ktr_units) ?_); intro qtk9 qh9 qtk9' qF9 qN9; (try k_sweep); (try k_fold)) | (k_dflt (refine word_any (by k_asm) (by k_asm) (by k_asm) (by k_asm) (by k_asm) (by k_asm) (by k_asm) (by k_extra "c9") (by k_mem) (by k_mem) (WordsAt.mono (by k_asm) (fun p hp => by k_mem)) (by ktr_room) (by ktr_units) ?_ ?_); rotate_left; intro qy9 qtk9 qh9 qtk9' qe9 ql9 qz9 qF9 qN9; (try k_sweep); (try k_fold)) | refine stuck_of ?_)) | fail
  k_with "call ref" => first | ((fail_if_success have hzz := eRdPapers1); (k_here; (with_reducible show wpAny _ _ (call (Value.ref 173) _) _ _ _); first | (k_dflt (refine spot_use (by k_asm) (by k_asm) (by k_asm) (by k_asm) (by k_asm) (by k_extra "c9") (by k_mem) (by k_mem) (WordsAt.mono (by k_asm) (fun p hp => by k_mem)) (by k_asm) (by omega) (by ktr_room) (by ktr_units) ?_); intro qtk9 qh9 qtk9' qF9 qN9; (try k_sweep); (try k_fold)) | (k_dflt (refine spot_any (by k_asm) (by k_asm) (by k_asm) (by k_asm) (by k_asm) (by k_asm) (by k_extra "c9") (by k_mem) (by k_mem) (WordsAt.mono (by k_asm) (fun p hp => by k_mem)) (by ktr_room) (by ktr_units) ?_ ?_); rotate_left; intro qy9 qtk9 qh9 qtk9' qe9 ql9 qF9 qN9; (try k_sweep); (try k_fold)) | refine stuck_of ?_)) | fail
  k_with "call ref" => first | ((fail_if_success have hzz := eRdPapers1); (k_here; (with_reducible show wpAny _ _ (call (Value.ref 180) _) _ _ _); first | (k_dflt (refine take_use (by k_asm) (by k_asm) (by k_asm) (by k_asm) (by k_asm) (by k_extra "c9") (by k_extra "c3") (by k_mem) (by k_all) (WordsAt.mono (by k_asm) (fun p hp => by k_mem)) (by k_asm) (by omega) (by ktr_room) (by ktr_units) ?_); intro qtk9 qu9 qh9 qtk9' qF9 qN9; (try k_sweep); (try k_fold)) | refine stuck_of ?_)) | fail
  k_with "call ref" => first | ((fail_if_success have hzz := eRdPapers1); (k_here; (with_reducible show wpAny _ _ (call (Value.ref 76) _) _ _ _); first | (k_dflt (refine fault_make (by k_asm) (by k_asm) (by k_asm) (by k_asm) (by k_asm) (by k_extra "c9") (by ktr_room) ?_); intro qe9 qd9 qT9 qtk9 qtk8 qtl9 qh9 qtk7 qF9 qN9 ql9 q9) | refine stuck_of ?_)) | fail
  k_with "exec Raise some none" => first | ((fail_if_success have hzz := eRdPapers1); (k_here; k_dflt (refine x_Raise (by first | rfl | assumption) ?_))) | fail
  k_with "RaisableF" => first | ((fail_if_success have hzz := eRdPapers1); (k_dflt (refine raisF (by k_asm) (by k_asm) (by k_asm) (by k_mem) ?_))) | fail
  k_with "leaving ref" => first | ((fail_if_success have hzz := eRdPapers1); (k_here; k_dflt (refine leave_faultR (by k_asm) (by k_asm) (by k_asm) (by k_asm) (by k_mem) (by k_extra "c3") (by k_asm) (fun p hp => by k_mem) (fun p hp => Nat.ne_of_lt (l9_of (by k_asm) p (by k_mem))) rfl rfl ?_); intro qh9 qR9 qU9; refine stuck_of ?_)) | fail
  k_with "callWith ref cons nil" => first | ((fail_if_success have hzz := eRdPapers1); (k_here; k_dflt (first | (refine callWith_K0 (by k_in) (by k_is) ?_; k_whole) | (refine callWith_K (by k_asm) (by k_is) ?_; k_whole)))) | fail
  k_with "k_in" => first | ((fail_if_success have hzz := eRdPapers1); (first | with_reducible assumption | with_reducible exact Frag.In.keeps (by with_reducible assumption) (Fr.keep (by with_reducible assumption)) | exact Frag.In.keeps (by k_asm) (Fr.keep (by k_asm)))) | fail
  k_with "call ref" => first | ((fail_if_success have hzz := eRdPapers1); (k_here; (with_reducible show wpAny _ _ (call (Value.ref 194) _) _ _ _); first | (k_dflt (refine rdc_useS (by k_asm) (by k_asm) (by k_asm) (by k_asm) (by k_asm) (by k_extra "c9") (by k_extra "c3") (by k_mem) (WordsAt.mono (by k_asm) (fun p hp => by k_mem)) (by k_all) (op_tri _ _ _ _ _ _ _ _ _ _ _ _ _ _ (by k_asm) (by k_asm) (by k_asm) _ _) (by ktr_room) (by ktr_units) ?_ ?_ ?_; intro qv9 qp9 qtk9 qtl9 qu9 qu8 qh9 qtk8 qe9 qF9 qN9 qA9 qne9; (have qz9 := pOp_len (by k_asm) qe9); (try k_sweep); (try k_fold); rotate_left 1; (intro qe9 qh9 qtk9 qsp9 qg9 q9 qR9 qF9 qU9); rotate_right 1)) | refine stuck_of ?_)) | fail
  k_with "call ref" => first | ((fail_if_success have hzz := eRdPapers1); (k_here; (with_reducible show wpAny _ _ (call (Value.ref 201) _) _ _ _); first | (k_dflt (refine rdc_useN (by k_asm) (by k_asm) (by k_asm) (by k_asm) (by k_asm) (by k_extra "c9") (by k_extra "c3") (by k_mem) (WordsAt.mono (by k_asm) (fun p hp => by k_mem)) (by k_all) (begin_tri _ _ _ _ _ _ _ _ _ _ _ _ _ _ (by k_asm) (by k_asm) (by k_asm) _ _ (by omega) (by omega)) (by ktr_room) (by ktr_units) ?_ ?_ ?_; intro qtl9 qu9 qu8 qh9 qtk8 qe9 qF9 qN9 qA9 qne9;  (try k_sweep); (try k_fold); rotate_left 1; (intro qe9 qh9 qtk9 qsp9 qg9 q9 qR9 qF9 qU9); rotate_right 1)) | refine stuck_of ?_)) | fail
  k_with "call ref" => first | ((fail_if_success have hzz := eRdPapers1); (k_here; (with_reducible show wpAny _ _ (call (Value.ref 208) _) _ _ _); first | (k_dflt (refine rdc_useN (by k_asm) (by k_asm) (by k_asm) (by k_asm) (by k_asm) (by k_extra "c9") (by k_extra "c3") (by k_mem) (WordsAt.mono (by k_asm) (fun p hp => by k_mem)) (by k_all) (close_tri _ _ _ _ _ _ _ _ _ _ _ _ _ _ (by k_asm) (by k_asm) (by k_asm) _ _ (by omega) (by omega)) (by ktr_room) (by ktr_units) ?_ ?_ ?_; intro qtl9 qu9 qu8 qh9 qtk8 qe9 qF9 qN9 qA9 qne9;  (try k_sweep); (try k_fold); rotate_left 1; (intro qe9 qh9 qtk9 qsp9 qg9 q9 qR9 qF9 qU9); rotate_right 1)) | refine stuck_of ?_)) | fail
  k_with "exec While" => first | ((fail_if_success have hzz := eRdPapers1); (k_here; k_dflt (refine whl_start 100 ?_))) | fail
  k_with "exec While Compare" => first | ((fail_if_success have hzz := eRdPapers1); (k_here; k_dflt (refine whl_start 100 ?_))) | fail
  k_with "exec While Compare cons nil" => first | ((fail_if_success have hzz := eRdPapers1); (k_here; k_dflt (refine whl_start 100 ?_))) | fail
  k_with "k_all" => first | ((fail_if_success have hzz := eRdPapers1); (first | with_reducible assumption | with_reducible exact List.forall_mem_nil _ | ((with_reducible refine List.forall_mem_cons.mpr ⟨?_, ?_⟩) <;> first | k_ne | k_all) | ((with_reducible refine List.forall_mem_append.mpr ⟨?_, ?_⟩) <;> k_all) | exact fun p hp => Above.at (by assumption) (by k_mem) hp | assumption)) | fail
  k_with "call builtin:list.append" => first | ((fail_if_success have hzz := eRdPapers1); (k_here; k_dflt (refine m_append (by k_asm) (by k_asm) (by k_extra "c3") (by k_all) (by simp; try omega) ?_; intro qh' qF' qN'))) | fail
  k_with "call type:tuple cons nil" => first | ((fail_if_success have hzz := eRdPapers1); (k_here; k_dflt (refine m_tupleOf (by k_asm) (by k_asm) (by k_mem) (by k_extra "c58") ?_); intro qD' qh' qF' qN' ql1; (try k_lt ql1); (try k_sweep))) | fail
  k_with "leaving ref" => first | ((fail_if_success have hzz := eRdPapers1); (k_here; k_dflt (refine leave_faultM (by k_asm) (by k_asm) (by k_asm) (by k_asm) (by k_asm) (fun p hp => by k_mem) rfl ?_); intro qh9 qR9 qU9; refine stuck_of ?_)) | fail
  trivial
noncomputable def PaperC (w : World) (mean : ExcName → Option Value) (mg mb : Str → Option Value) (x dx W : Addr) (t1 t2 t3 t4 u4 : Tok) (mst : Nat) (ws : Toks) (f : Nat) : Prop := ∀ (p dep : Nat), dep + f + 4 ≤ mst → RdC w mean mg mb x dx W t1 t2 t3 t4 u4 mst ws 255 [] (22 + 3 * f) (400 + 120 * f) p dep dep (pPaper f ws p) (fun tl r v => IsPp tl r v)
theorem paper_use9 {w : World} {mean : ExcName → Option Value} {mg mb : Str → Option Value} {x dx W : Addr} {t1 t2 t3 t4 u4 : Tok} {mst : Nat} {ws : Toks} {f p dep : Nat} (h : PaperC w mean mg mb x dx W t1 t2 t3 t4 u4 mst ws f) (hd : dep + f + 4 ≤ mst) : RdC w mean mg mb x dx W t1 t2 t3 t4 u4 mst ws 255 [] (22 + 3 * f) (400 + 120 * f) p dep dep (pPaper f ws p) (fun tl r v => IsPp tl r v) := h p dep hd
example : True := by
  k_with "call ref" => first | ((fail_if_success have hzz := eRdPapers1); (k_here; (with_reducible show wpAny _ _ (call (Value.ref 255) _) _ _ _); first | (k_dflt (refine rdc_use (by k_asm) (by k_asm) (by k_asm) (by k_asm) (by k_asm) (by k_extra "c9") (by k_extra "c3") (by k_mem) (WordsAt.mono (by k_asm) (fun p hp => by k_mem)) (by k_all) (paper_use9 (by assumption) (by omega)) (by ktr_room) (by ktr_units) ?_ ?_ ?_; intro qv9 qp9 qr9 qtl9 qu9 qu8 qh9 qtk8 qe9 qF9 qN9 qA9 qne9 qR9; (try dsimp only at qR9);  (try k_sweep); (try k_fold); rotate_left 1; (intro qe9 qh9 qtk9 qsp9 qg9 q9 qR9 qF9 qU9); rotate_right 1)) | refine stuck_of ?_)) | fail
  trivial
inductive IsPps (news : Led) : List Value → List Pp → Prop
  | nil : IsPps news [] []
  | cons {v : Value} {p : Pp} {vs : List Value} {ps : List Pp} : IsPp news v p → IsPps news vs ps → IsPps news (v :: vs) (p :: ps)
noncomputable def PlacesC (w : World) (mean : ExcName → Option Value) (mg mb : Str → Option Value) (x dx W : Addr) (t1 t2 t3 t4 u4 : Tok) (mst : Nat) (ws : Toks) : Prop := ∀ (p dep : Nat), dep + 3 ≤ mst → RdC w mean mg mb x dx W t1 t2 t3 t4 u4 mst ws 241 [] 20 400 p dep dep (pPlaces 3 ws p) (fun tl r v => ∃ D vs n, r = .ref D ∧ (D, tupO vs n) ∈ tl ∧ IsRow tl vs v)
noncomputable def IsTupPps (tl : Led) (r : Value) (v : List Pp) : Prop := ∃ D vs n, r = .ref D ∧ (D, tupO vs n) ∈ tl ∧ IsPps tl vs v
theorem places_use9 {w : World} {mean : ExcName → Option Value} {mg mb : Str → Option Value} {x dx W : Addr} {t1 t2 t3 t4 u4 : Tok} {mst : Nat} {ws : Toks} {p dep : Nat} (h : PlacesC w mean mg mb x dx W t1 t2 t3 t4 u4 mst ws) (hd : dep + 3 ≤ mst) : RdC w mean mg mb x dx W t1 t2 t3 t4 u4 mst ws 241 [] 20 400 p dep dep (pPlaces 3 ws p) (fun tl r v => ∃ D vs n, r = .ref D ∧ (D, tupO vs n) ∈ tl ∧ IsRow tl vs v) := h p dep hd
namespace Z
example : True := by
  k_with "eps" => first | ((fail_if_success have hzz := zRdPapers5); skip) | fail
  trivial
set_option Elab.async true in
set_option maxHeartbeats 1000000 in
theorem papers_tri : ∀ (w : World) (mean : ExcName → Option Value) (mg : Str → Option Value) (mb : Str → Option Value) (x dx W : Addr) (t1 t2 t3 t4 u4 : Tok) (mst : Nat) (ws : Toks) (hwl : ws.length ≤ 20000) (hwz : ∀ y ∈ ws, y.1.cps.size ≤ 10000) (hwo : ∀ y ∈ ws, PyData.strOk y.1 = true) (hm : mst ≤ 1000) (f : Nat) (hP : PaperC w mean mg mb x dx W t1 t2 t3 t4 u4 mst ws f) (p dep : Nat) (hdep : dep + f + 4 ≤ mst), RdC w mean mg mb x dx W t1 t2 t3 t4 u4 mst ws 248 [] (23 + 3 * f) (450 + 120 * f) p dep dep (pPapers (pPaper f ws) ws p) IsTupPps := by
  intro w mean mg mb x dx W t1 t2 t3 t4 u4 mst ws hwl hwz hwo hm f hP p dep hdep
  k_extra "c11"
  clear hK
  w_top off
  unfold RdC
  k_extra "c18"
  refine wpAny_call ?_
  k_dflt ktr_enter
  k_steps
  · refine whl_if (fun hb1 => ?_) (fun hb1 => ?_)
    · k_steps
      · refine whl_if (fun hb2 => ?_) (fun hb2 => ?_)
        · k_steps
          · refine whl_if (fun hb3 => ?_) (fun hb3 => ?_)
            · k_steps
              · exact absurd (by k_extra "c63") hns
              k_extra "c7"
            · k_steps
              · ((with_reducible rename Fr h₀ L _ _ => kF); (with_reducible rename News h₀ L _ _ => kN); (repeat (with_reducible rename _ ∧ _ => hc; obtain ⟨_, _⟩ := hc)); exact hok _ _ _ _ _ _ _ _ (by k_extra "c63") kF (rd_end kN (by k_extra "c3") (by k_extra "c8")) (by k_extra "c1") (by exact ⟨_, _, _, rfl, by k_mem, .cons (IsPp.mono (by assumption) (fun p hp => by simp only [List.mem_cons, List.mem_append, hp, true_or, or_true])) (.cons (IsPp.mono (by assumption) (fun p hp => by simp only [List.mem_cons, List.mem_append, hp, true_or, or_true])) .nil)⟩))
              k_extra "c7"
          k_extra "c7"
        · k_steps
          · ((with_reducible rename Fr h₀ L _ _ => kF); (with_reducible rename News h₀ L _ _ => kN); (repeat (with_reducible rename _ ∧ _ => hc; obtain ⟨_, _⟩ := hc)); exact hok _ _ _ _ _ _ _ _ (by k_extra "c63") kF (rd_end kN (by k_extra "c3") (by k_extra "c8")) (by k_extra "c1") (by exact ⟨_, _, _, rfl, by k_mem, .cons (IsPp.mono (by assumption) (fun p hp => by simp only [List.mem_cons, List.mem_append, hp, true_or, or_true])) .nil⟩))
          k_extra "c7"
      k_extra "c7"
    · k_steps
      · ((with_reducible rename Fr h₀ L _ _ => kF); (with_reducible rename News h₀ L _ _ => kN); (repeat (with_reducible rename _ ∧ _ => hc; obtain ⟨_, _⟩ := hc)); exact hok _ _ _ _ _ _ _ _ (by k_extra "c63") kF (rd_end kN (by k_extra "c3") (by k_extra "c8")) (by k_extra "c1") (by exact ⟨_, _, _, rfl, by k_mem, .nil⟩))
      k_extra "c7"
  k_extra "c7"
in #guard_msgs (drop info, drop warning) in open Nat
theorem zRdPapers5 : True := trivial
end Z
theorem eRdPapers1 : True := trivial
end Mine
-- Rd6
namespace Mine
section
variable {prog : Program} {w : World} {A : Around} {E : Value → Shared → Prop} {s : Shared} {h₀ : Heap} {L : Addr} {m : Str → Option Value} {all rest news : Led}
theorem upd_of {c : Addr} {o : Obj} {all rest : Led} {h : Heap} (N : News h₀ L h all) (pk : Pick c o all rest) : News h₀ L h ((c, o) :: rest) := News.sub N pk.sub
theorem st_cell {a : Addr} {cn : Str} {cs : Scope} {ccd : Value} {cl : List (Str × Addr)} {x : Str} {v : Value} {c : Addr} {o : Obj} {v₀ : Option Value} {M : Model} {Q : Unit → Shared → Prop} (F : Fr h₀ L s.heap m) (N : News h₀ L s.heap all) (hc : cl.lookup x = some c) (pk : Pick c o all rest) (hne : ∀ q ∈ rest, q.1 ≠ c) (hd : o.data = .cell v₀)
    (h : ∀ h' o', Fr h₀ L h' m → News h₀ L h' ((c, o') :: rest) → o'.data = .cell (some v) → Q () { s with heap := h' })
    (hk : cs.kind = .function) (hx : (envX cn cs L a ccd cl).kindOf x = some .cell) : wpAny M A (storeName (envX cn cs L a ccd cl) x v) Q E s :=
  storeX_C F (News.sub N pk.sub) hc (UpdF.head hne) hd h hk hx
theorem d_in {d : Addr} {o : Obj} {kvs : List (Str × Value)} {k : Str} {t : Tok} {b : Bool} {Q : Value → Shared → Prop} (N : News h₀ L s.heap all) (hp : (d, o) ∈ all) (hd : o.IsDictOf (PySem.strKind prog w) kvs) (lo : (d == sysModules) = false) (hb : (valueAt kvs k).isSome = b) (h : Q (.bool b) { s with toks := s.toks + 1 }) :
    wpAny (model prog w) A (compareOp .In (.str k t) (.ref d)) Q E s := kda_in (knd := PySem.strKind prog w) N hp hd lo (strKind_is _ _ _ _) b hb h
theorem d_set {d : Addr} {o : Obj} {kvs kvs' : List (Str × Value)} {k : Str} {t : Tok} {v : Value} {Q : Unit → Shared → Prop} (F : Fr h₀ L s.heap m) (N : News h₀ L s.heap all) (pk : Pick d o all rest) (hd : o.IsDictOf (PySem.strKind prog w) kvs) (hne : ∀ q ∈ rest, q.1 ≠ d) (hst : stored kvs k v = kvs') (hsz : kvs.length ≤ 10)
    (h : ∀ h' o', Fr h₀ L h' m → News h₀ L h' ((d, o') :: rest) → o'.IsDictOf (PySem.strKind prog w) kvs' → Q () { s with heap := h', toks := s.toks + 1 }) : wpAny (model prog w) A (setItem (.ref d) (.str k t) v) Q E s :=
  kda_set (knd := PySem.strKind prog w) F (News.sub N pk.sub) (UpdF.head hne) hd (strKind_is _ _ _ _) (by rw [sizeLine_eq]; omega) (by rw [hst]; exact h)
set_option Elab.async true in
theorem m_sortS {D : Addr} {vs : List Value} {ss : List Str} {n : Nat} {Q : Value → Shared → Prop} (F : Fr h₀ L s.heap m) (N : News h₀ L s.heap ((D, listOf vs.toArray n) :: rest)) (hne : ∀ q ∈ rest, q.1 ≠ D) (hS : StrsAre vs ss) (h64 : vs.length < 64)
    (h : ∀ (vs' : List Value) (ss' : List Str) (n' : Nat) h', StrsAre vs' ss' → ss'.Perm ss → sortedS ss' = true → Fr h₀ L h' m → News h₀ L h' ((D, listOf vs'.toArray n') :: rest) → Q .none { s with heap := h' }) :
    wpAny (model prog w) A (call (.builtin "list.sort") [.ref D]) Q E s := by
  have z := N (D, listOf vs.toArray n) (.head _)
  have ho : s.heap.get? D = some (seqObj "list" vs.toArray n) := z.1
  refine wpAny_call_entry PyProof.Rows.slot_list_sort ⟨_, z.1, rfl⟩ PyProof.Rows.entry_list_sort (list_sort_treeK strKind_oneLt ho hS.keysOf (fun v₁ v₂ rest e => keyKind_strs (by rw [← e]; exact hS)) h64 fun st' hp hP => ⟨.none, rfl, ?_⟩) (PyProof.Rows.args_list_sort _)
  obtain ⟨ss', h1, h2, h3⟩ := sorted_out_str hS hp hP
  generalize (arrOf st').map (·.2) = out at h1 ⊢
  have F1 : Fr h₀ L (s.heap.update D (Obj.mapSeq fun _ => (#[] : Array Value))) m := F.change (Heap.SameBut.update ..) z.2.1 z.2.2
  have N1 := ki_turn (pre := []) (fun _ => (#[] : Array Value)) (its' := #[]) N (fun _ h => nomatch h) hne rfl rfl
  have N2 := News.grown N1 fun _ _ e => Heap.get?_push_of_some (seqObj "tuple" vs.toArray 0) e
  have N3 := News.grown N2 fun _ _ e => Heap.get?_push_of_some (seqObj "list" #[] 0) e
  have N4 := ki_turn (pre := []) (fun _ => out) (its' := out) N3 (fun _ h => nomatch h) hne rfl rfl
  have F4 : Fr h₀ L ((((s.heap.update D (Obj.mapSeq fun _ => (#[] : Array Value))).push (seqObj "tuple" vs.toArray 0)).push (seqObj "list" #[] 0)).update D (Obj.mapSeq fun _ => out)) m :=
    ((F1.push (seqObj "tuple" vs.toArray 0)).push (seqObj "list" #[] 0)).change (Heap.SameBut.update ..) z.2.1 z.2.2
  exact h out.toList ss' _ _ h1 h2 h3 F4 (by rw [Array.toArray_toList]; exact N4)
in #guard_msgs (drop info, drop warning) in open Nat
theorem strs_of {kvs : List (Str × Value)} : ∀ {vs : List Value}, vs.length = kvs.length → (∀ (j : Nat) (v : Value), vs[j]? = some v → ∃ k x, kvs[j]? = some (k, x) ∧ (PySem.strKind prog w).is k v = true) → StrsAre vs (kvs.map (·.1)) := by
  induction kvs with
  | nil => intro vs hl _; rw [List.eq_nil_of_length_eq_zero hl]; exact .nil
  | cons kv kvs ih =>
    intro vs hl hv
    cases vs with
    | nil => cases hl
    | cons v vs =>
      obtain ⟨k, x, e, hk⟩ := hv 0 v rfl
      cases e
      obtain ⟨t, rfl⟩ := Value.isStrOf_shape hk
      exact .cons _ t (ih (Nat.succ.inj hl) fun j u hu => hv (j + 1) u hu)
set_option Elab.async true in
theorem m_sortedD {d : Addr} {o : Obj} {kvs : List (Str × Value)} {ss : List Str} {Q : Value → Shared → Prop} (hh : A.handled = none) (F : Fr h₀ L s.heap m) (N : News h₀ L s.heap news) (hm : (d, o) ∈ news) (hd : o.IsDictOf (PySem.strKind prog w) kvs) (lo : (d == sysModules) = false) (hn : kvs.length ≤ 60)
    (hs : ∀ l : List Str, l.Perm (kvs.map (·.1)) → sortedS l = true → l = ss)
    (h : ∀ D vs n h' tk', StrsAre vs ss → Fr h₀ L h' m → News h₀ L h' ((D, listOf vs.toArray n) :: news) → (∀ q ∈ news, q.1 < D) → Q (.ref D) { s with heap := h', toks := tk' }) :
    wpAny (model prog w) A (call (.builtin "sorted") [.ref d]) Q E s := by
  obtain ⟨ep, hat⟩ := (kda_dict N hm hd).dictAt
  refine kdu_sorted (kdl_dict (knd := PySem.strKind prog w) (kvs := kvs) (ep := ep) lo) hh F N hat (by rw [sizeLine_eq]; omega) fun D h' tk vs F' N' l1 hl hv => ?_
  have hS := strs_of hl hv
  refine m_sortS F' N' (fun q hq => Nat.ne_of_lt (l1 q hq)) hS (by omega) fun vs' ss' n' h2 hS' hp hq F2 N2 => ?_
  obtain rfl := hs ss' hp hq
  exact h D vs' n' h2 tk hS' F2 N2 l1
in #guard_msgs (drop info, drop warning) in open Nat
end
theorem perm_pair {α : Type} {l : List α} {a b : α} (h : l.Perm [a, b]) : l = [a, b] ∨ l = [b, a] := by
  have hl := h.length_eq
  match l, hl with
  | [x, y], _ =>
    have hx : x ∈ [a, b] := h.mem_iff.mp (.head _)
    k_extra "c41"
    · exact .inl (by rw [List.perm_singleton.mp (List.Perm.cons_inv h)])
    · have e : x = b := List.mem_singleton.mp hx
      subst e
      have h' : [x, y].Perm [x, a] := h.trans (List.Perm.swap _ _ _)
      exact .inr (by rw [List.perm_singleton.mp (List.Perm.cons_inv h')])
theorem srt0 : ∀ l : List Str, l.Perm [] → sortedS l = true → l = [] := fun _ h _ => List.perm_nil.mp h
theorem srt1 {k : Str} : ∀ l : List Str, l.Perm [k] → sortedS l = true → l = [k] := fun _ h _ => List.perm_singleton.mp h
theorem srt2 : ∀ l : List Str, l.Perm [Str.ofString "?x", Str.ofString "?y"] → sortedS l = true → l = [Str.ofString "?x", Str.ofString "?y"] := fun _ h k => (perm_pair h).elim id fun e => by subst e; exact absurd k (by decide +kernel)
theorem srt3 : ∀ l : List Str, l.Perm [Str.ofString "?y", Str.ofString "?x"] → sortedS l = true → l = [Str.ofString "?x", Str.ofString "?y"] := fun l h k => srt2 l (h.trans (List.Perm.swap _ _ _)) k
theorem cell_none {o : Obj} {v : Option Value} (h : o.data = .cell v) (e : v = none) : o.data = .cell none := e ▸ h
theorem sa0 {vs : List Value} (h : StrsAre vs []) : vs = [] := by cases h; rfl
theorem sa1 {vs : List Value} {a : Str} (h : StrsAre vs [a]) : ∃ t, vs = [.str a t] := by cases h with | cons _ t h => cases h; exact ⟨t, rfl⟩
theorem sa2 {vs : List Value} {a b : Str} (h : StrsAre vs [a, b]) : ∃ t u, vs = [.str a t, .str b u] := by cases h with | cons _ t h => cases h with | cons _ u h => cases h; exact ⟨t, u, rfl⟩
theorem sto0 {k : Str} {v : Value} : stored [] k v = [(k, v)] := rfl
theorem sto1 {a v : Value} : stored [(Str.ofString "?x", a)] (Str.ofString "?y") v = [(Str.ofString "?x", a), (Str.ofString "?y", v)] := by
  k_extra "c108"
  simp [stored, h]
theorem sto2 {a v : Value} : stored [(Str.ofString "?y", a)] (Str.ofString "?x") v = [(Str.ofString "?y", a), (Str.ofString "?x", v)] := by
  k_extra "c107"
  simp [stored, h]
theorem vat0 {k : Str} : (valueAt ([] : List (Str × Value)) k).isSome = false := rfl
theorem vat1 {k : Str} {a : Value} : (valueAt [(k, a)] k).isSome = true := by simp [valueAt]
theorem vat2 {a : Value} : (valueAt [(Str.ofString "?x", a)] (Str.ofString "?y")).isSome = false := by
  k_extra "c108"
  simp [valueAt, h]
theorem vat3 {a : Value} : (valueAt [(Str.ofString "?y", a)] (Str.ofString "?x")).isSome = false := by
  k_extra "c107"
  simp [valueAt, h]
theorem vat4 {a b : Value} : (valueAt [(Str.ofString "?x", a), (Str.ofString "?y", b)] (Str.ofString "?y")).isSome = true := by
  k_extra "c108"
  simp [valueAt, h]
theorem vat5 {a b : Value} : (valueAt [(Str.ofString "?y", a), (Str.ofString "?x", b)] (Str.ofString "?x")).isSome = true := by
  k_extra "c107"
  simp [valueAt, h]
theorem vat6 {k : Str} {a b : Value} : (valueAt [(k, a), (Str.ofString "?y", b)] k).isSome = true := by simp [valueAt]
theorem vat7 {k : Str} {a b : Value} : (valueAt [(k, a), (Str.ofString "?x", b)] k).isSome = true := by simp [valueAt]
end Mine
-- RdPlaces
namespace Mine
example : True := by
  k_with "fk" => first | ((fail_if_success have hzz := eRdPlaces1); (with_reducible (first | exact fk164 (by assumption) | exact fk24 (by assumption) | exact fk165 (by assumption) | exact fk166 (by assumption) | exact fk167 (by assumption) (by assumption) (by assumption)))) | fail
  trivial
theorem pVar_ok {ws : Toks} {p p' : Nat} {v : Str} (h : pVar ws p = .ok v p') : p' = p + 1 := by
  unfold pVar at h
  split at h
  · cases h
  · split at h
    · cases h
    · cases h; rfl
section
variable {w : World} {mean : ExcName → Option Value} {mg mb : Str → Option Value} {dp un : Nat} {gd : Option (List Code)} {cn : Str} {cs : Scope} {a : Addr} {ccd : Value} {cl : List (Str × Addr)} {outer : List Env} {A₀ : Around} {base h₀ : Heap} {L : Addr} {m : Str → Option Value} {s : Shared} {Q E : Value → Shared → Prop}
    {x dx W : Addr} {t1 t2 t3 t4 u2 u3 u4 : Tok} {mst : Nat} {ws : List (Str × Nat)} {all rest : Led}
set_option Elab.async true in
theorem rdc_useV {f : Addr} {args : List Value} {rm um p dep dep' : Nat}
    (B : Below A₀ base outer h₀) (F : Fr h₀ L s.heap m) (X : (hd.heap_39 w.params).In h₀) (N : News h₀ L s.heap all) (T : Top view (looseW view []) mean mg mb h₀) (hk : cs.kind = .function)
    (pk : Pick dx (rdObj w W t1 t2 t3 t4 u2 u3 u4 p dep mst) all rest) (hx : (x, instObj 258 dx) ∈ rest) (hW : WordsAt rest W ws) (hne : ∀ q ∈ rest, q.1 ≠ dx) (C : RdC w mean mg mb x dx W t1 t2 t3 t4 u4 mst ws f args rm um p dep dep' (pVar ws p) (fun _ r v => ∃ tk, r = .str v tk)) (hd : dp + rm < recursionLimit) (hu : un + um < cLine)
    (h1 : ∀ tk tl u2' u3' h' tk', pVar ws p = .ok xName (p + 1) → Fr h₀ L h' m → News h₀ L h' ((dx, rdObj w W t1 t2 t3 t4 u2' u3' u4 ((p + 1 : Nat)) dep' mst) :: (tl ++ rest)) → Above ((dx, rdObj w W t1 t2 t3 t4 u2 u3 u4 p dep mst) :: rest) tl → (∀ q ∈ tl, q.1 ≠ dx) → Q (.str (Str.ofString "?x") tk) { s with heap := h', toks := tk' })
    (h2 : ∀ tk tl u2' u3' h' tk', pVar ws p = .ok yName (p + 1) → Fr h₀ L h' m → News h₀ L h' ((dx, rdObj w W t1 t2 t3 t4 u2' u3' u4 ((p + 1 : Nat)) dep' mst) :: (tl ++ rest)) → Above ((dx, rdObj w W t1 t2 t3 t4 u2 u3 u4 p dep mst) :: rest) tl → (∀ q ∈ tl, q.1 ≠ dx) → Q (.str (Str.ofString "?y") tk) { s with heap := h', toks := tk' })
    (h3 : ∀ v, v ≠ xName → v ≠ yName → pVar ws p = .ok v (p + 1) → Dead)
    (herr : ∀ e h' tk' sp g, pVar ws p = .err sp → FaultAt w base (envX cn cs L a ccd cl :: outer) e sp rest h' → Fr h₀ L g m → g.UpToSlots h' → E (.ref e) { s with heap := h', toks := tk' })
    (hst : pVar ws p = .stuck → Dead) :
    wpAny (model PySem.Challenge.rw_pq0122_01.row.prog w) (ktrTop dp un gd cn cs L a ccd cl outer) (call (.ref f) (.ref x :: args)) Q E s := by
  refine rdc_useS B F X N T hk pk hx hW hne C hd hu ?_ herr hst
  intro v p' tk tl u2' u3' h' tk' e F' N' A' n'
  obtain rfl := pVar_ok e
  by_cases hx : v = xName
  · subst hx; exact h1 tk tl u2' u3' h' tk' e F' N' A' n'
  · by_cases hy : v = yName
    · subst hy; exact h2 tk tl u2' u3' h' tk' e F' N' A' n'
    · exact (h3 v hx hy e).h.elim
in #guard_msgs (drop info, drop warning) in open Nat
end
theorem eRdPlaces1 : True := trivial
end Mine
namespace Mine
example : True := by
  k_with "fk" => first | ((fail_if_success have hzz := eRdPlaces3); (with_reducible (first | exact fk164 (by assumption) | exact fk24 (by assumption) | exact fk165 (by assumption) | exact fk166 (by assumption) | exact fk167 (by assumption) (by assumption) (by assumption)))) | fail
  trivial
example : True := by
  k_with "k_all" => first | ((fail_if_success have hzz := eRdPlaces3); (first | with_reducible assumption | with_reducible exact List.forall_mem_nil _ | ((with_reducible refine List.forall_mem_cons.mpr ⟨?_, ?_⟩) <;> first | k_ne | k_all) | ((with_reducible refine List.forall_mem_append.mpr ⟨?_, ?_⟩) <;> k_all) | assumption)) | fail
  k_with "k_mem" => first | ((fail_if_success have hzz := eRdPlaces3); ((repeat (first | exact List.Mem.head _ | apply List.Mem.tail | apply mem_inr | with_reducible assumption | assumption)); done)) | fail
  k_with "k_room" => first | ((fail_if_success have hzz := eRdPlaces3); (ktr_room)) | fail
  k_with "CompSrc" => first | ((fail_if_success have hzz := eRdPlaces3); (k_here; k_dflt (refine LCg.CompSrc.ledger (by rfl) (by k_asm) (by k_asm) (by k_mem) (by first | size_fits | exact Nat.le_of_ble_eq_true rfl) ?_; intro qg9; lcg_lit))) | fail
  k_with "ktr_room" => first | ((fail_if_success have hzz := eRdPlaces3); ((try dsimp only [ktrTop]); omega)) | fail
  k_with "ktr_units" => first | ((fail_if_success have hzz := eRdPlaces3); ((try dsimp only [ktrTop]); omega)) | fail
  k_with "call ref" => first | ((fail_if_success have hzz := eRdPlaces3); (k_here; refine stuck_of ?_)) | fail
  k_with "call ref" => first | ((fail_if_success have hzz := eRdPlaces3); (k_here; (with_reducible show wpAny _ _ (call (Value.ref 95) _) _ _ _); first | (k_dflt (refine isop_use (by k_asm) (by k_asm) (by k_asm) (by k_asm) (by k_asm) (by k_extra "c9") (by k_extra "c20") (by k_extra "c32") (by ktr_room) (by ktr_units) ?_); intro qh9 qtk9' qF9 qN9; (try k_sweep); (try k_fold)) | refine stuck_of ?_)) | fail
  k_with "call ref" => first | ((fail_if_success have hzz := eRdPlaces3); (k_here; (with_reducible show wpAny _ _ (call (Value.ref 166) _) _ _ _); first | (k_dflt (refine word_use (by k_asm) (by k_asm) (by k_asm) (by k_asm) (by k_asm) (by k_extra "c9") (by k_mem) (by k_mem) (WordsAt.mono (by k_asm) (fun p hp => by k_mem)) (by k_asm) (by omega) (by ktr_room) (by ktr_units) ?_); intro qtk9 qh9 qtk9' qF9 qN9; (try k_sweep); (try k_fold)) | (k_dflt (refine word_any (by k_asm) (by k_asm) (by k_asm) (by k_asm) (by k_asm) (by k_asm) (by k_asm) (by k_extra "c9") (by k_mem) (by k_mem) (WordsAt.mono (by k_asm) (fun p hp => by k_mem)) (by ktr_room) (by ktr_units) ?_ ?_); rotate_left; intro qy9 qtk9 qh9 qtk9' qe9 ql9 qz9 qF9 qN9; (try k_sweep); (try k_fold)) | refine stuck_of ?_)) | fail
  k_with "call ref" => first | ((fail_if_success have hzz := eRdPlaces3); (k_here; (with_reducible show wpAny _ _ (call (Value.ref 173) _) _ _ _); first | (k_dflt (refine spot_use (by k_asm) (by k_asm) (by k_asm) (by k_asm) (by k_asm) (by k_extra "c9") (by k_mem) (by k_mem) (WordsAt.mono (by k_asm) (fun p hp => by k_mem)) (by k_asm) (by omega) (by ktr_room) (by ktr_units) ?_); intro qtk9 qh9 qtk9' qF9 qN9; (try k_sweep); (try k_fold)) | (k_dflt (refine spot_any (by k_asm) (by k_asm) (by k_asm) (by k_asm) (by k_asm) (by k_asm) (by k_extra "c9") (by k_mem) (by k_mem) (WordsAt.mono (by k_asm) (fun p hp => by k_mem)) (by ktr_room) (by ktr_units) ?_ ?_); rotate_left; intro qy9 qtk9 qh9 qtk9' qe9 ql9 qF9 qN9; (try k_sweep); (try k_fold)) | refine stuck_of ?_)) | fail
  k_with "call ref" => first | ((fail_if_success have hzz := eRdPlaces3); (k_here; (with_reducible show wpAny _ _ (call (Value.ref 180) _) _ _ _); first | (k_dflt (refine take_use (by k_asm) (by k_asm) (by k_asm) (by k_asm) (by k_asm) (by k_extra "c9") (by k_extra "c3") (by k_mem) (by k_all) (WordsAt.mono (by k_asm) (fun p hp => by k_mem)) (by k_asm) (by omega) (by ktr_room) (by ktr_units) ?_); intro qtk9 qu9 qh9 qtk9' qF9 qN9; (try k_sweep); (try k_fold)) | refine stuck_of ?_)) | fail
  k_with "call ref" => first | ((fail_if_success have hzz := eRdPlaces3); (k_here; (with_reducible show wpAny _ _ (call (Value.ref 76) _) _ _ _); first | (k_dflt (refine fault_make (by k_asm) (by k_asm) (by k_asm) (by k_asm) (by k_asm) (by k_extra "c9") (by ktr_room) ?_); intro qe9 qd9 qT9 qtk9 qtk8 qtl9 qh9 qtk7 qF9 qN9 ql9 q9) | refine stuck_of ?_)) | fail
  k_with "exec Raise some none" => first | ((fail_if_success have hzz := eRdPlaces3); (k_here; k_dflt (refine x_Raise (by first | rfl | assumption) ?_))) | fail
  k_with "RaisableF" => first | ((fail_if_success have hzz := eRdPlaces3); (k_dflt (refine raisF (by k_asm) (by k_asm) (by k_asm) (by k_mem) ?_))) | fail
  k_with "leaving ref" => first | ((fail_if_success have hzz := eRdPlaces3); (k_here; k_dflt (refine leave_faultR (by k_asm) (by k_asm) (by k_asm) (by k_asm) (by k_mem) (by k_extra "c3") (by k_asm) (fun p hp => by k_mem) (fun p hp => Nat.ne_of_lt (l9_of (by k_asm) p (by k_mem))) rfl rfl ?_); intro qh9 qR9 qU9; refine stuck_of ?_)) | fail
  k_with "callWith ref cons nil" => first | ((fail_if_success have hzz := eRdPlaces3); (k_here; k_dflt (first | (refine callWith_K0 (by k_in) (by k_is) ?_; k_whole) | (refine callWith_K (by k_asm) (by k_is) ?_; k_whole)))) | fail
  k_with "k_in" => first | ((fail_if_success have hzz := eRdPlaces3); (first | with_reducible assumption | with_reducible exact Frag.In.keeps (by with_reducible assumption) (Fr.keep (by with_reducible assumption)) | exact Frag.In.keeps (by k_asm) (Fr.keep (by k_asm)))) | fail
  k_with "call ref" => first | ((fail_if_success have hzz := eRdPlaces3); (k_here; (with_reducible show wpAny _ _ (call (Value.ref 215) _) _ _ _); first | (k_dflt (refine rdc_useV (by k_asm) (by k_asm) (by k_asm) (by k_asm) (by k_asm) (by k_extra "c9") (by k_extra "c3") (by k_mem) (WordsAt.mono (by k_asm) (fun p hp => by k_mem)) (by k_all) (var_tri _ _ _ _ _ _ _ _ _ _ _ _ _ _ (by k_asm) (by k_asm) (by k_asm) _ _) (by ktr_room) (by ktr_units) ?_ ?_ ?_ ?_ ?_; (intro qtk9 qtl9 qu9 qu8 qh9 qtk8 qe9 qF9 qN9 qA9 qne9; (try k_sweep); (try k_fold)); rotate_left 1; (intro qtk9 qtl9 qu9 qu8 qh9 qtk8 qe9 qF9 qN9 qA9 qne9; (try k_sweep); (try k_fold)); rotate_left 2; (intro qe9 qh9 qtk9 qsp9 qg9 q9 qR9 qF9 qU9); rotate_right 3)) | refine stuck_of ?_)) | fail
  k_with "call ref" => first | ((fail_if_success have hzz := eRdPlaces3); (k_here; (with_reducible show wpAny _ _ (call (Value.ref 222) _) _ _ _); first | (k_dflt (refine rdc_use (by k_asm) (by k_asm) (by k_asm) (by k_asm) (by k_asm) (by k_extra "c9") (by k_extra "c3") (by k_mem) (WordsAt.mono (by k_asm) (fun p hp => by k_mem)) (by k_all) (rterm_tri _ _ _ _ _ _ _ _ _ _ _ _ _ _ (by k_asm) (by k_asm) (by k_asm) (by omega) 3 _ _ (by omega)) (by ktr_room) (by ktr_units) ?_ ?_ ?_; intro qv9 qp9 qr9 qtl9 qu9 qu8 qh9 qtk8 qe9 qF9 qN9 qA9 qne9 qR9; (try dsimp only at qR9);  (try k_sweep); (try k_fold); rotate_left 1; (intro qe9 qh9 qtk9 qsp9 qg9 q9 qR9 qF9 qU9); rotate_right 1)) | refine stuck_of ?_)) | fail
  k_with "exec While" => first | ((fail_if_success have hzz := eRdPlaces3); (k_here; k_dflt (refine whl_start 100 ?_))) | fail
  k_with "exec While Compare" => first | ((fail_if_success have hzz := eRdPlaces3); (k_here; k_dflt (refine whl_start 100 ?_))) | fail
  k_with "exec While Compare cons nil" => first | ((fail_if_success have hzz := eRdPlaces3); (k_here; k_dflt (refine whl_start 100 ?_))) | fail
  k_with "k_all" => first | ((fail_if_success have hzz := eRdPlaces3); (first | with_reducible assumption | with_reducible exact List.forall_mem_nil _ | ((with_reducible refine List.forall_mem_cons.mpr ⟨?_, ?_⟩) <;> first | k_ne | k_all) | ((with_reducible refine List.forall_mem_append.mpr ⟨?_, ?_⟩) <;> k_all) | exact fun p hp => Above.at (by assumption) (by k_mem) hp | assumption)) | fail
  k_with "call builtin:list.append" => first | ((fail_if_success have hzz := eRdPlaces3); (k_here; k_dflt (refine m_append (by k_asm) (by k_asm) (by k_extra "c3") (by k_all) (by simp; try omega) ?_; intro qh' qF' qN'))) | fail
  k_with "call type:tuple cons nil" => first | ((fail_if_success have hzz := eRdPlaces3); (k_here; k_dflt (refine m_tupleOf (by k_asm) (by k_asm) (by k_mem) (by k_extra "c58") ?_); intro qD' qh' qF' qN' ql1; (try k_lt ql1); (try k_sweep))) | fail
  k_with "leaving ref" => first | ((fail_if_success have hzz := eRdPlaces3); (k_here; k_dflt (refine leave_faultM (by k_asm) (by k_asm) (by k_asm) (by k_asm) (by k_asm) (fun p hp => by k_mem) rfl ?_); intro qh9 qR9 qU9; refine stuck_of ?_)) | fail
  k_with "call type:tuple cons nil" => first | ((fail_if_success have hzz := eRdPlaces3); (k_here; k_dflt (refine m_tupleOf (by k_asm) (by k_asm) (by k_mem) (by first | decide | (simp only [List.length_cons, List.length_nil]; omega) | (simp only [List.length_map, List.length_nil] at *; omega)) ?_); intro qD' qh' qF' qN' ql1; (try k_lt ql1); (try k_sweep))) | fail
  k_with "CompEnd" => first | ((fail_if_success have hzz := eRdPlaces3); ((repeat (with_reducible rename _ ∧ _ => qhc9; obtain ⟨_, _⟩ := qhc9)); k_dflt (refine comp_end (by k_asm) (by k_asm) (by k_extra "c3") (by k_extra "c3") (by k_extra "c3") (by k_extra "c34") (by lcg_src) ?_))) | fail
  k_with "k_all" => first | ((fail_if_success have hzz := eRdPlaces3); (first | with_reducible assumption | with_reducible exact List.forall_mem_nil _ | ((with_reducible refine List.forall_mem_cons.mpr ⟨?_, ?_⟩) <;> first | k_ne | k_all) | ((with_reducible refine List.forall_mem_append.mpr ⟨?_, ?_⟩) <;> k_all) | exact fun p hp => Above.at (by assumption) (by k_mem) hp | exact fun q hq => Nat.ne_of_lt (ktn_ltOf (by assumption) q hq) | exact fun q hq => Nat.ne_of_lt (Nat.lt_succ_of_lt (ktn_ltOf (by assumption) q hq)) | assumption)) | fail
  k_with "storeName" => first | ((fail_if_success have hzz := eRdPlaces3); (k_here; k_dflt (refine st_cell (by k_asm) (by k_asm) (by rfl) (by k_extra "c3") (by k_all) (by k_asm) ?_ (by rfl) (by rfl) (by rfl) (by rfl)); intro qh9 qo9 qF9 qN9 qd9; (try k_sweep))) | fail
  k_with "compareOp In str ref" => first | ((fail_if_success have hzz := eRdPlaces3); (k_here; k_dflt (refine d_in (by k_asm) (by k_mem) (by k_asm) (by k_asm) (by first | with_reducible exact vat1 | with_reducible exact vat4 | with_reducible exact vat5 | with_reducible exact vat6 | with_reducible exact vat7 | with_reducible exact vat0 | with_reducible exact vat2 | with_reducible exact vat3 | exact vat1 | exact vat4 | exact vat5 | exact vat6 | exact vat7 | exact vat0 | exact vat2 | exact vat3) ?_))) | fail
  k_with "setItem ref str" => first | ((fail_if_success have hzz := eRdPlaces3); (k_here; k_dflt (refine d_set (by k_asm) (by k_asm) (by k_extra "c3") (by k_asm) (by k_all) (by first | exact sto0 | exact sto1 | exact sto2) (by simp) ?_; intro qh9 qo9 qF9 qN9 qd9))) | fail
  k_with "call builtin:sorted" => first | ((fail_if_success have hzz := eRdPlaces3); (k_here; k_dflt (refine m_sortedD (by rfl) (by k_asm) (by k_asm) (by k_mem) (by k_asm) (by k_asm) (by simp) (by first | exact srt0 | exact srt1 | exact srt2 | exact srt3) ?_; intro qD9 qvs9 qn9 qh9 qtk9 qS9 qF9 qN9 ql9; first | (obtain ⟨qt9, qu9, qe9⟩ := sa2 qS9; subst qe9) | (obtain ⟨qt9, qe9⟩ := sa1 qS9; subst qe9) | (have qe9 := sa0 qS9; subst qe9)); (try k_lt ql9))) | fail
  trivial
namespace Z
example : True := by
  k_with "eps" => first | ((fail_if_success have hzz := zRdPlaces6); skip) | fail
  trivial
set_option Elab.async true in
set_option maxHeartbeats 4000000 in
theorem places_tri : ∀ (w : World) (mean : ExcName → Option Value) (mg : Str → Option Value) (mb : Str → Option Value) (x dx W : Addr) (t1 t2 t3 t4 u4 : Tok) (mst : Nat) (ws : Toks) (hwl : ws.length ≤ 20000) (hwz : ∀ y ∈ ws, y.1.cps.size ≤ 10000) (hwo : ∀ y ∈ ws, PyData.strOk y.1 = true) (hm : mst ≤ 1000), PlacesC w mean mg mb x dx W t1 t2 t3 t4 u4 mst ws := by
  intro w mean mg mb x dx W t1 t2 t3 t4 u4 mst ws hwl hwz hwo hm
  k_extra "c11"
  clear hK
  w_top off
  have hyx : ¬ yName = xName := by decide
  intro p dep hdep
  unfold RdC
  k_extra "c18"
  refine wpAny_call ?_
  refine' code_defC ?k1 ?k2 ?k3 ?k4 ?k5 ?kA ?kF ?kK ?k6 ?k7 ?k8 ?k9 ?kB ?kD ?_ ?c2 ?c3 ?c4; (case kA => exact rfl); (case kF => exact rfl); (case kK => assumption); (case k1 => k_asm); (case k2 => k_asm); (case k3 => k_asm); (case k4 => k_asm); (case k5 => k_asm); (case k6 => k_is); (case k7 => k_is); (case k8 => ktr_room); (case k9 => exact BindsTo.of_eq rfl); (case kB => exact rfl); (case kD => decide +kernel); (case c2 => exact rfl); (case c3 => exact rfl); (case c4 => exact rfl); k_whole; intro g' L' h' tk' cells' FG' F' N' Y' B' X' T' l1; (try k_lt l1); k_cells Y'; (try simp only [List.cons_append, List.nil_append] at N'); (try dsimp only); (try k_fold)
  (with_reducible rename _ = Data.cell _ => dc9); replace dc9 := cell_none dc9 (by with_unfolding_all rfl)
  k_steps
  · refine whl_if (fun hb1 => ?_) (fun hb1 => ?_)
    · k_steps
      k_extra "c62"
      · refine whl_if (fun hb2 => ?_) (fun hb2 => ?_)
        · k_steps
          k_extra "c62"
          · refine whl_if (fun hb3 => ?_) (fun hb3 => ?_)
            · k_steps
              k_extra "c61"
            · k_steps
              · k_extra "c121"
              k_extra "c61"
        · k_steps
          · ((with_reducible rename Fr h₀ L _ _ => kF); (with_reducible rename News h₀ L _ _ => kN); (repeat (with_reducible rename _ ∧ _ => hc; obtain ⟨_, _⟩ := hc)); exact hok _ _ _ _ _ _ _ _ (by k_extra "c4") kF (rd_end kN (by k_extra "c3") (by k_extra "c8")) (by k_extra "c1") (by exact ⟨_, _, _, rfl, by k_mem, .cons (by k_mem) (IsTm.mono (by assumption) (fun p hp => by simp only [List.mem_cons, List.mem_append, hp, true_or, or_true])) .nil⟩))
          k_extra "c61"
      · refine whl_if (fun hb2 => ?_) (fun hb2 => ?_)
        · k_steps
          k_extra "c62"
          · refine whl_if (fun hb3 => ?_) (fun hb3 => ?_)
            · k_steps
              k_extra "c61"
            · k_steps
              · k_extra "c121"
              k_extra "c61"
        · exact absurd (by k_extra "c4") hns
    · k_steps
      · try ((rename List.length _ = List.length (List.map _ []) => hL9); (have hL8 := List.eq_nil_of_length_eq_zero hL9); subst hL8)
        (with_reducible rename Fr h₀ L _ _ => kF); (with_reducible rename News h₀ L _ _ => kN); (repeat (with_reducible rename _ ∧ _ => hc; obtain ⟨_, _⟩ := hc))
        have hp : pPlaces 3 ws p = .ok [] p := (by k_extra "c4")
        have N9 := rd_end kN (by k_extra "c3") (by k_extra "c8") (news := news)
        refine hok _ _ _ _ _ _ _ _ hp kF N9 (by k_extra "c1") ?_
        exact ⟨_, _, _, rfl, by k_mem, .nil⟩
      k_extra "c62"
  k_extra "c61"
in #guard_msgs (drop info, drop warning) in open Nat
theorem zRdPlaces6 : True := trivial
end Z
theorem eRdPlaces3 : True := trivial
end Mine
-- RdPaper
namespace Mine
example : True := by
  k_with "fk" => first | ((fail_if_success have hzz := eRdPaper1); (with_reducible (first | exact fk149 (by assumption) | exact fk168 (by assumption) | exact fk169 (by assumption) (by assumption) (by assumption) | exact fk170 (by assumption) | exact fk171 (by assumption)))) | fail
  trivial
example : True := by
  k_with "k_all" => first | ((fail_if_success have hzz := eRdPaper1); (first | with_reducible assumption | with_reducible exact List.forall_mem_nil _ | ((with_reducible refine List.forall_mem_cons.mpr ⟨?_, ?_⟩) <;> first | k_ne | k_all) | ((with_reducible refine List.forall_mem_append.mpr ⟨?_, ?_⟩) <;> k_all) | assumption)) | fail
  k_with "k_mem" => first | ((fail_if_success have hzz := eRdPaper1); ((repeat (first | exact List.Mem.head _ | apply List.Mem.tail | apply mem_inr | with_reducible assumption | assumption)); done)) | fail
  k_with "k_room" => first | ((fail_if_success have hzz := eRdPaper1); (ktr_room)) | fail
  k_with "ktr_room" => first | ((fail_if_success have hzz := eRdPaper1); ((try dsimp only [ktrTop]); omega)) | fail
  k_with "ktr_units" => first | ((fail_if_success have hzz := eRdPaper1); ((try dsimp only [ktrTop]); omega)) | fail
  k_with "call ref" => first | ((fail_if_success have hzz := eRdPaper1); (k_here; refine stuck_of ?_)) | fail
  k_with "call ref" => first | ((fail_if_success have hzz := eRdPaper1); (k_here; (with_reducible show wpAny _ _ (call (Value.ref 95) _) _ _ _); first | (k_dflt (refine isop_use (by k_asm) (by k_asm) (by k_asm) (by k_asm) (by k_asm) (by k_extra "c9") (by k_extra "c20") (by k_extra "c32") (by ktr_room) (by ktr_units) ?_); intro qh9 qtk9' qF9 qN9; (try k_sweep); (try k_fold)) | refine stuck_of ?_)) | fail
  k_with "call ref" => first | ((fail_if_success have hzz := eRdPaper1); (k_here; (with_reducible show wpAny _ _ (call (Value.ref 166) _) _ _ _); first | (k_dflt (refine word_use (by k_asm) (by k_asm) (by k_asm) (by k_asm) (by k_asm) (by k_extra "c9") (by k_mem) (by k_mem) (WordsAt.mono (by k_asm) (fun p hp => by k_mem)) (by k_asm) (by omega) (by ktr_room) (by ktr_units) ?_); intro qtk9 qh9 qtk9' qF9 qN9; (try k_sweep); (try k_fold)) | (k_dflt (refine word_any (by k_asm) (by k_asm) (by k_asm) (by k_asm) (by k_asm) (by k_asm) (by k_asm) (by k_extra "c9") (by k_mem) (by k_mem) (WordsAt.mono (by k_asm) (fun p hp => by k_mem)) (by ktr_room) (by ktr_units) ?_ ?_); rotate_left; intro qy9 qtk9 qh9 qtk9' qe9 ql9 qz9 qF9 qN9; (try k_sweep); (try k_fold)) | refine stuck_of ?_)) | fail
  k_with "call ref" => first | ((fail_if_success have hzz := eRdPaper1); (k_here; (with_reducible show wpAny _ _ (call (Value.ref 173) _) _ _ _); first | (k_dflt (refine spot_use (by k_asm) (by k_asm) (by k_asm) (by k_asm) (by k_asm) (by k_extra "c9") (by k_mem) (by k_mem) (WordsAt.mono (by k_asm) (fun p hp => by k_mem)) (by k_asm) (by omega) (by ktr_room) (by ktr_units) ?_); intro qtk9 qh9 qtk9' qF9 qN9; (try k_sweep); (try k_fold)) | (k_dflt (refine spot_any (by k_asm) (by k_asm) (by k_asm) (by k_asm) (by k_asm) (by k_asm) (by k_extra "c9") (by k_mem) (by k_mem) (WordsAt.mono (by k_asm) (fun p hp => by k_mem)) (by ktr_room) (by ktr_units) ?_ ?_); rotate_left; intro qy9 qtk9 qh9 qtk9' qe9 ql9 qF9 qN9; (try k_sweep); (try k_fold)) | refine stuck_of ?_)) | fail
  k_with "call ref" => first | ((fail_if_success have hzz := eRdPaper1); (k_here; (with_reducible show wpAny _ _ (call (Value.ref 180) _) _ _ _); first | (k_dflt (refine take_use (by k_asm) (by k_asm) (by k_asm) (by k_asm) (by k_asm) (by k_extra "c9") (by k_extra "c3") (by k_mem) (by k_all) (WordsAt.mono (by k_asm) (fun p hp => by k_mem)) (by k_asm) (by omega) (by ktr_room) (by ktr_units) ?_); intro qtk9 qu9 qh9 qtk9' qF9 qN9; (try k_sweep); (try k_fold)) | refine stuck_of ?_)) | fail
  k_with "call ref" => first | ((fail_if_success have hzz := eRdPaper1); (k_here; (with_reducible show wpAny _ _ (call (Value.ref 76) _) _ _ _); first | (k_dflt (refine fault_make (by k_asm) (by k_asm) (by k_asm) (by k_asm) (by k_asm) (by k_extra "c9") (by ktr_room) ?_); intro qe9 qd9 qT9 qtk9 qtk8 qtl9 qh9 qtk7 qF9 qN9 ql9 q9) | refine stuck_of ?_)) | fail
  k_with "exec Raise some none" => first | ((fail_if_success have hzz := eRdPaper1); (k_here; k_dflt (refine x_Raise (by first | rfl | assumption) ?_))) | fail
  k_with "RaisableF" => first | ((fail_if_success have hzz := eRdPaper1); (k_dflt (refine raisF (by k_asm) (by k_asm) (by k_asm) (by k_mem) ?_))) | fail
  k_with "leaving ref" => first | ((fail_if_success have hzz := eRdPaper1); (k_here; k_dflt (refine leave_faultR (by k_asm) (by k_asm) (by k_asm) (by k_asm) (by k_mem) (by k_extra "c3") (by k_asm) (fun p hp => by k_mem) (fun p hp => Nat.ne_of_lt (l9_of (by k_asm) p (by k_mem))) rfl rfl ?_); intro qh9 qR9 qU9; refine stuck_of ?_)) | fail
  k_with "callWith ref cons nil" => first | ((fail_if_success have hzz := eRdPaper1); (k_here; k_dflt (first | (refine callWith_K0 (by k_in) (by k_is) ?_; k_whole) | (refine callWith_K (by k_asm) (by k_is) ?_; k_whole)))) | fail
  k_with "k_in" => first | ((fail_if_success have hzz := eRdPaper1); (first | with_reducible assumption | with_reducible exact Frag.In.keeps (by with_reducible assumption) (Fr.keep (by with_reducible assumption)) | exact Frag.In.keeps (by k_asm) (Fr.keep (by k_asm)))) | fail
  k_with "call ref" => first | ((fail_if_success have hzz := eRdPaper1); (k_here; (with_reducible show wpAny _ _ (call (Value.ref 194) _) _ _ _); first | (k_dflt (refine rdc_useS (by k_asm) (by k_asm) (by k_asm) (by k_asm) (by k_asm) (by k_extra "c9") (by k_extra "c3") (by k_mem) (WordsAt.mono (by k_asm) (fun p hp => by k_mem)) (by k_all) (op_tri _ _ _ _ _ _ _ _ _ _ _ _ _ _ (by k_asm) (by k_asm) (by k_asm) _ _) (by ktr_room) (by ktr_units) ?_ ?_ ?_; intro qv9 qp9 qtk9 qtl9 qu9 qu8 qh9 qtk8 qe9 qF9 qN9 qA9 qne9; (have qz9 := pOp_len (by k_asm) qe9); (try k_sweep); (try k_fold); rotate_left 1; (intro qe9 qh9 qtk9 qsp9 qg9 q9 qR9 qF9 qU9); rotate_right 1)) | refine stuck_of ?_)) | fail
  k_with "call ref" => first | ((fail_if_success have hzz := eRdPaper1); (k_here; (with_reducible show wpAny _ _ (call (Value.ref 201) _) _ _ _); first | (k_dflt (refine rdc_useN (by k_asm) (by k_asm) (by k_asm) (by k_asm) (by k_asm) (by k_extra "c9") (by k_extra "c3") (by k_mem) (WordsAt.mono (by k_asm) (fun p hp => by k_mem)) (by k_all) (begin_tri _ _ _ _ _ _ _ _ _ _ _ _ _ _ (by k_asm) (by k_asm) (by k_asm) _ _ (by omega) (by omega)) (by ktr_room) (by ktr_units) ?_ ?_ ?_; intro qtl9 qu9 qu8 qh9 qtk8 qe9 qF9 qN9 qA9 qne9;  (try k_sweep); (try k_fold); rotate_left 1; (intro qe9 qh9 qtk9 qsp9 qg9 q9 qR9 qF9 qU9); rotate_right 1)) | refine stuck_of ?_)) | fail
  k_with "call ref" => first | ((fail_if_success have hzz := eRdPaper1); (k_here; (with_reducible show wpAny _ _ (call (Value.ref 208) _) _ _ _); first | (k_dflt (refine rdc_useN (by k_asm) (by k_asm) (by k_asm) (by k_asm) (by k_asm) (by k_extra "c9") (by k_extra "c3") (by k_mem) (WordsAt.mono (by k_asm) (fun p hp => by k_mem)) (by k_all) (close_tri _ _ _ _ _ _ _ _ _ _ _ _ _ _ (by k_asm) (by k_asm) (by k_asm) _ _ (by omega) (by omega)) (by ktr_room) (by ktr_units) ?_ ?_ ?_; intro qtl9 qu9 qu8 qh9 qtk8 qe9 qF9 qN9 qA9 qne9;  (try k_sweep); (try k_fold); rotate_left 1; (intro qe9 qh9 qtk9 qsp9 qg9 q9 qR9 qF9 qU9); rotate_right 1)) | refine stuck_of ?_)) | fail
  k_with "call ref" => first | ((fail_if_success have hzz := eRdPaper1); (k_here; (with_reducible show wpAny _ _ (call (Value.ref 255) _) _ _ _); first | (k_dflt (refine rdc_use (by k_asm) (by k_asm) (by k_asm) (by k_asm) (by k_asm) (by k_extra "c9") (by k_extra "c3") (by k_mem) (WordsAt.mono (by k_asm) (fun p hp => by k_mem)) (by k_all) (paper_use9 (by assumption) (by omega)) (by ktr_room) (by ktr_units) ?_ ?_ ?_; intro qv9 qp9 qr9 qtl9 qu9 qu8 qh9 qtk8 qe9 qF9 qN9 qA9 qne9 qR9; (try dsimp only at qR9);  (try k_sweep); (try k_fold); rotate_left 1; (intro qe9 qh9 qtk9 qsp9 qg9 q9 qR9 qF9 qU9); rotate_right 1)) | refine stuck_of ?_)) | fail
  k_with "call ref" => first | ((fail_if_success have hzz := eRdPaper1); (k_here; (with_reducible show wpAny _ _ (call (Value.ref 248) _) _ _ _); first | (k_dflt (refine rdc_use (by k_asm) (by k_asm) (by k_asm) (by k_asm) (by k_asm) (by k_extra "c9") (by k_extra "c3") (by k_mem) (WordsAt.mono (by k_asm) (fun p hp => by k_mem)) (by k_all) (papers_tri _ _ _ _ _ _ _ _ _ _ _ _ _ _ (by k_asm) (by k_asm) (by k_asm) (by omega) _ (by assumption) _ _ (by omega)) (by ktr_room) (by ktr_units) ?_ ?_ ?_; intro qv9 qp9 qr9 qtl9 qu9 qu8 qh9 qtk8 qe9 qF9 qN9 qA9 qne9 qR9; (try dsimp only at qR9);  (try k_sweep); (try k_fold); rotate_left 1; (intro qe9 qh9 qtk9 qsp9 qg9 q9 qR9 qF9 qU9); rotate_right 1)) | refine stuck_of ?_)) | fail
  k_with "call ref" => first | ((fail_if_success have hzz := eRdPaper1); (k_here; (with_reducible show wpAny _ _ (call (Value.ref 241) _) _ _ _); first | (k_dflt (refine rdc_use (by k_asm) (by k_asm) (by k_asm) (by k_asm) (by k_asm) (by k_extra "c9") (by k_extra "c3") (by k_mem) (WordsAt.mono (by k_asm) (fun p hp => by k_mem)) (by k_all) (places_use9 (by assumption) (by omega)) (by ktr_room) (by ktr_units) ?_ ?_ ?_; intro qv9 qp9 qr9 qtl9 qu9 qu8 qh9 qtk8 qe9 qF9 qN9 qA9 qne9 qR9; (try dsimp only at qR9);  (try k_sweep); (try k_fold); rotate_left 1; (intro qe9 qh9 qtk9 qsp9 qg9 q9 qR9 qF9 qU9); rotate_right 1)) | refine stuck_of ?_)) | fail
  k_with "call ref" => first | ((fail_if_success have hzz := eRdPaper1); (k_here; (with_reducible show wpAny _ _ (call (Value.ref 222) _) _ _ _); first | (k_dflt (refine rdc_use (by k_asm) (by k_asm) (by k_asm) (by k_asm) (by k_asm) (by k_extra "c9") (by k_extra "c3") (by k_mem) (WordsAt.mono (by k_asm) (fun p hp => by k_mem)) (by k_all) (rterm_tri _ _ _ _ _ _ _ _ _ _ _ _ _ _ (by k_asm) (by k_asm) (by k_asm) (by omega) 4 _ _ (by omega)) (by ktr_room) (by ktr_units) ?_ ?_ ?_; intro qv9 qp9 qr9 qtl9 qu9 qu8 qh9 qtk8 qe9 qF9 qN9 qA9 qne9 qR9; (try dsimp only at qR9);  (try k_sweep); (try k_fold); rotate_left 1; (intro qe9 qh9 qtk9 qsp9 qg9 q9 qR9 qF9 qU9); rotate_right 1)) | refine stuck_of ?_)) | fail
  k_with "exec While" => first | ((fail_if_success have hzz := eRdPaper1); (k_here; k_dflt (refine whl_start 100 ?_))) | fail
  k_with "exec While Compare" => first | ((fail_if_success have hzz := eRdPaper1); (k_here; k_dflt (refine whl_start 100 ?_))) | fail
  k_with "exec While Compare cons nil" => first | ((fail_if_success have hzz := eRdPaper1); (k_here; k_dflt (refine whl_start 100 ?_))) | fail
  k_with "k_all" => first | ((fail_if_success have hzz := eRdPaper1); (first | with_reducible assumption | with_reducible exact List.forall_mem_nil _ | ((with_reducible refine List.forall_mem_cons.mpr ⟨?_, ?_⟩) <;> first | k_ne | k_all) | ((with_reducible refine List.forall_mem_append.mpr ⟨?_, ?_⟩) <;> k_all) | exact fun p hp => Above.at (by assumption) (by k_mem) hp | assumption)) | fail
  k_with "call builtin:list.append" => first | ((fail_if_success have hzz := eRdPaper1); (k_here; k_dflt (refine m_append (by k_asm) (by k_asm) (by k_extra "c3") (by k_all) (by simp; try omega) ?_; intro qh' qF' qN'))) | fail
  k_with "call type:tuple cons nil" => first | ((fail_if_success have hzz := eRdPaper1); (k_here; k_dflt (refine m_tupleOf (by k_asm) (by k_asm) (by k_mem) (by k_extra "c58") ?_); intro qD' qh' qF' qN' ql1; (try k_lt ql1); (try k_sweep))) | fail
  k_with "leaving ref" => first | ((fail_if_success have hzz := eRdPaper1); (k_here; k_dflt (refine leave_faultM (by k_asm) (by k_asm) (by k_asm) (by k_asm) (by k_asm) (fun p hp => by k_mem) rfl ?_); intro qh9 qR9 qU9; refine stuck_of ?_)) | fail
  k_with "exec While" => first | ((fail_if_success have hzz := eRdPaper1); (k_here; refine stuck_of ?_)) | fail
  k_with "exec While Compare" => first | ((fail_if_success have hzz := eRdPaper1); (k_here; refine stuck_of ?_)) | fail
  k_with "exec While Compare cons nil" => first | ((fail_if_success have hzz := eRdPaper1); (k_here; refine stuck_of ?_)) | fail
  k_with "joinParts" => first | ((fail_if_success have hzz := eRdPaper1); (k_here; (with_reducible show wpAny _ _ (joinParts _ (evalEach [] _)) _ _ _); k_dflt (refine m_joinEnd ?_ ?_; refine fit_cat ?_ ?_; with_reducible assumption; decide))) | fail
  trivial
noncomputable def JRow (w : World) (x dx W : Addr) (t1 t2 t3 t4 u4 : Tok) (mst : Nat) (ws : Toks) (rec : Nat → Res Pp) (dep : Nat) (news : Led) (o : Obj) (Rr : Res Pp) (n : Nat) (m : Str → Option Value) (nw : Led) : Prop :=
  ∃ (q : Nat) (acc : Pp) (D : Addr) (u2 u3 kt : Tok) (k : Str) (tl : Led), m (Str.ofString "self") = some (.ref x) ∧ m (Str.ofString "kind") = some (.str k kt) ∧ k = kJoin ∧ m (Str.ofString "found") = some (.ref D) ∧ (dx, rdObj w W t1 t2 t3 t4 u2 u3 u4 q dep mst) :: (tl ++ news) = nw ∧
    Above ((dx, o) :: news) tl ∧ IsPp tl (.ref D) acc ∧ pRow rec ws n q acc = Rr
theorem row_gen {rec : Nat → Res Pp} {ws : Toks} {q1 q2 q3 : Nat} {a b : Pp} (_h : rec q1 = .ok a q2) (_k : rec q2 = .ok b q3) : ∃ Rr, pRow rec ws 6 q3 (.join a b) = Rr := ⟨_, rfl⟩
example : True := by
  k_with "eval Name" => first | ((fail_if_success have hzz := eRdPaper1); (k_here; k_dflt (refine ld (by k_asm) (by with_reducible assumption) ?_))) | fail
  trivial
namespace Z
example : True := by
  k_with "eps" => first | ((fail_if_success have hzz := zRdPaper5); skip) | fail
  trivial
set_option Elab.async true in
set_option maxHeartbeats 2000000 in
theorem rpaper_tri : ∀ (w : World) (mean : ExcName → Option Value) (mg : Str → Option Value) (mb : Str → Option Value) (x dx W : Addr) (t1 t2 t3 t4 u4 : Tok) (mst : Nat) (ws : Toks) (hwl : ws.length ≤ 20000) (hwz : ∀ y ∈ ws, y.1.cps.size ≤ 10000) (hwo : ∀ y ∈ ws, PyData.strOk y.1 = true) (hm : mst ≤ 1000) (hPl : PlacesC w mean mg mb x dx W t1 t2 t3 t4 u4 mst ws), ∀ f, PaperC w mean mg mb x dx W t1 t2 t3 t4 u4 mst ws f := by
  intro w mean mg mb x dx W t1 t2 t3 t4 u4 mst ws hwl hwz hwo hm hPl
  k_extra "c11"
  clear hK
  w_top off
  refine nat_ind ?_ ?_
  · intro p dep hdep
    k_extra "c18"
    exact absurd rfl hns
  · intro f ih
    intro p dep hdep
    unfold RdC
    k_extra "c18"
    refine wpAny_call ?_
    k_dflt ktr_enter
    k_steps
    all_goals try (first | exact ⟨hns (by k_extra "c5")⟩ | exact ⟨herr _ _ _ _ _ (by k_extra "c5") (by assumption) (by assumption) (by assumption)⟩ | exact (want_noerr (by assumption) (by assumption) (by assumption)).elim | exact ⟨(want_noerr (by assumption) (by assumption) (by assumption)).elim⟩ | exact (want_nostuck (by assumption) (by assumption)).elim | exact ⟨want_nostuck (by assumption) (by assumption)⟩)
    · ((with_reducible rename Fr h₀ L _ _ => kF); (with_reducible rename News h₀ L _ _ => kN); (repeat (with_reducible rename _ ∧ _ => hc; obtain ⟨_, _⟩ := hc)); exact hok _ _ _ _ _ _ _ _ (by k_extra "c5") kF (rd_end kN (by k_extra "c3") (by k_extra "c8")) (by k_extra "c1") (by exact .same (by k_mem) (eq_of_beq (by assumption)) (IsTm.mono (by assumption) (fun p hp => by simp only [List.mem_cons, List.mem_append, hp, true_or, or_true]))))
    · ((with_reducible rename Fr h₀ L _ _ => kF); (with_reducible rename News h₀ L _ _ => kN); (repeat (with_reducible rename _ ∧ _ => hc; obtain ⟨_, _⟩ := hc)); exact hok _ _ _ _ _ _ _ _ (by k_extra "c5") kF (rd_end kN (by k_extra "c3") (by k_extra "c8")) (by k_extra "c1") (by exact .told (by k_mem) (eq_of_beq (by assumption))))
    · (rename ∃ D vs n, _ => RP); (obtain ⟨D9, vs9, n9, rfl, m9, R9⟩ := RP)
      ((with_reducible rename Fr h₀ L _ _ => kF); (with_reducible rename News h₀ L _ _ => kN); (repeat (with_reducible rename _ ∧ _ => hc; obtain ⟨_, _⟩ := hc)); exact hok _ _ _ _ _ _ _ _ (by k_extra "c5") kF (rd_end kN (by k_extra "c3") (by k_extra "c8")) (by k_extra "c1") (by exact .rule (by k_mem) (eq_of_beq (by assumption)) (mem_up m9 (fun p hp => by simp only [List.mem_cons, List.mem_append, hp, true_or, or_true])) (IsRow.mono R9 (fun p hp => by simp only [List.mem_cons, List.mem_append, hp, true_or, or_true]))))
    · ((with_reducible rename Fr h₀ L _ _ => kF); (with_reducible rename News h₀ L _ _ => kN); (repeat (with_reducible rename _ ∧ _ => hc; obtain ⟨_, _⟩ := hc)); exact hok _ _ _ _ _ _ _ _ (by k_extra "c5") kF (rd_end kN (by k_extra "c3") (by k_extra "c8")) (by k_extra "c1") (by exact .turn (by k_mem) (eq_of_beq (by assumption)) (IsPp.mono (by assumption) (fun p hp => by simp only [List.mem_cons, List.mem_append, hp, true_or, or_true]))))
    rotate_left 1
    · (rename IsTupPps _ _ _ => RU); (obtain ⟨D9, vs9, n9, rfl, m9, R9⟩ := RU)
      cases R9 with
      | nil => ((with_reducible rename Fr h₀ L _ _ => kF); (with_reducible rename News h₀ L _ _ => kN); (repeat (with_reducible rename _ ∧ _ => hc; obtain ⟨_, _⟩ := hc)); exact hok _ _ _ _ _ _ _ _ (by k_extra "c5") kF (rd_end kN (by k_extra "c3") (by k_extra "c8")) (by k_extra "c1") (by exact .under0 (by k_mem) (eq_of_beq (by assumption)) (mem_up m9 (fun p hp => by simp only [List.mem_cons, List.mem_append, hp, true_or, or_true]))))
      | cons h1 R9 => cases R9 with
        | nil => ((with_reducible rename Fr h₀ L _ _ => kF); (with_reducible rename News h₀ L _ _ => kN); (repeat (with_reducible rename _ ∧ _ => hc; obtain ⟨_, _⟩ := hc)); exact hok _ _ _ _ _ _ _ _ (by k_extra "c5") kF (rd_end kN (by k_extra "c3") (by k_extra "c8")) (by k_extra "c1") (by exact .under1 (by k_mem) (eq_of_beq (by assumption)) (mem_up m9 (fun p hp => by simp only [List.mem_cons, List.mem_append, hp, true_or, or_true])) (IsPp.mono h1 (fun p hp => by simp only [List.mem_cons, List.mem_append, hp, true_or, or_true]))))
        | cons h2 R9 => cases R9 with
          | nil => ((with_reducible rename Fr h₀ L _ _ => kF); (with_reducible rename News h₀ L _ _ => kN); (repeat (with_reducible rename _ ∧ _ => hc; obtain ⟨_, _⟩ := hc)); exact hok _ _ _ _ _ _ _ _ (by k_extra "c5") kF (rd_end kN (by k_extra "c3") (by k_extra "c8")) (by k_extra "c1") (by exact .under2 (by k_mem) (eq_of_beq (by assumption)) (mem_up m9 (fun p hp => by simp only [List.mem_cons, List.mem_append, hp, true_or, or_true])) (IsPp.mono h1 (fun p hp => by simp only [List.mem_cons, List.mem_append, hp, true_or, or_true])) (IsPp.mono h2 (fun p hp => by simp only [List.mem_cons, List.mem_append, hp, true_or, or_true]))))
          | cons h3 R9 => exact absurd (by k_extra "c5") hns
    · (rename IsTupPps _ _ _ => RU); (obtain ⟨D9, vs9, n9, rfl, m9, R9⟩ := RU)
      cases R9 with
      | nil => (first | exact ⟨hns (by k_extra "c5")⟩ | exact ⟨herr _ _ _ _ _ (by k_extra "c5") (by assumption) (by assumption) (by assumption)⟩ | exact (want_noerr (by assumption) (by assumption) (by assumption)).elim | exact ⟨(want_noerr (by assumption) (by assumption) (by assumption)).elim⟩ | exact (want_nostuck (by assumption) (by assumption)).elim | exact ⟨want_nostuck (by assumption) (by assumption)⟩)
      | cons h1 R9 => cases R9 with
        | nil => (first | exact ⟨hns (by k_extra "c5")⟩ | exact ⟨herr _ _ _ _ _ (by k_extra "c5") (by assumption) (by assumption) (by assumption)⟩ | exact (want_noerr (by assumption) (by assumption) (by assumption)).elim | exact ⟨(want_noerr (by assumption) (by assumption) (by assumption)).elim⟩ | exact (want_nostuck (by assumption) (by assumption)).elim | exact ⟨want_nostuck (by assumption) (by assumption)⟩)
        | cons h2 R9 => cases R9 with
          | nil => (first | exact ⟨hns (by k_extra "c5")⟩ | exact ⟨herr _ _ _ _ _ (by k_extra "c5") (by assumption) (by assumption) (by assumption)⟩ | exact (want_noerr (by assumption) (by assumption) (by assumption)).elim | exact ⟨(want_noerr (by assumption) (by assumption) (by assumption)).elim⟩ | exact (want_nostuck (by assumption) (by assumption)).elim | exact ⟨want_nostuck (by assumption) (by assumption)⟩)
          | cons h3 R9 => exact absurd (by k_extra "c5") hns
    · (rename IsTupPps _ _ _ => RU); (obtain ⟨D9, vs9, n9, rfl, m9, R9⟩ := RU)
      cases R9 with
      | nil => (first | exact ⟨hns (by k_extra "c5")⟩ | exact ⟨herr _ _ _ _ _ (by k_extra "c5") (by assumption) (by assumption) (by assumption)⟩ | exact (want_noerr (by assumption) (by assumption) (by assumption)).elim | exact ⟨(want_noerr (by assumption) (by assumption) (by assumption)).elim⟩ | exact (want_nostuck (by assumption) (by assumption)).elim | exact ⟨want_nostuck (by assumption) (by assumption)⟩)
      | cons h1 R9 => cases R9 with
        | nil => (first | exact ⟨hns (by k_extra "c5")⟩ | exact ⟨herr _ _ _ _ _ (by k_extra "c5") (by assumption) (by assumption) (by assumption)⟩ | exact (want_noerr (by assumption) (by assumption) (by assumption)).elim | exact ⟨(want_noerr (by assumption) (by assumption) (by assumption)).elim⟩ | exact (want_nostuck (by assumption) (by assumption)).elim | exact ⟨want_nostuck (by assumption) (by assumption)⟩)
        | cons h2 R9 => cases R9 with
          | nil => (first | exact ⟨hns (by k_extra "c5")⟩ | exact ⟨herr _ _ _ _ _ (by k_extra "c5") (by assumption) (by assumption) (by assumption)⟩ | exact (want_noerr (by assumption) (by assumption) (by assumption)).elim | exact ⟨(want_noerr (by assumption) (by assumption) (by assumption)).elim⟩ | exact (want_nostuck (by assumption) (by assumption)).elim | exact ⟨want_nostuck (by assumption) (by assumption)⟩)
          | cons h3 R9 => exact absurd (by k_extra "c5") hns
    · exact ⟨hns (by simp only [pPaper, pOp, lpar, rpar, nils, pWord, Res.bind, Bool.false_eq_true, if_false, if_true, *])⟩
    · refine ⟨?_⟩
      (rename pPaper f ws _ = Res.ok _ _ => eB); revert eB
      (rename pPaper f ws _ = Res.ok _ _ => eA); intro eB
      obtain ⟨Rr, hRr⟩ := row_gen (ws := ws) eA eB
      have hWp : pPaper (f + 1) ws p = Rr.bind (fun a p3 => (pWant rpar ws p3).bind fun _ p4 => .ok a p4) := by
        simp only [pPaper, pBody, kSame, kTold, kRule, kTurn, kJoin, kUnder, lpar, rpar, nils, pWord, Res.bind, Bool.false_eq_true, if_false, if_true, *]
      rw [hWp] at hok herr hns
      refine While_inv (n₀ := 6) (JRow w x dx W t1 t2 t3 t4 u4 mst ws (pPaper f ws) (dep + 1) news (rdObj w W t1 t2 t3 t4 u2 u3 u4 p dep mst) Rr) (by k_asm) (rd_end (news := news) (by k_asm) (by k_extra "c3") (by k_extra "c8")) ?_ ?_
      · (repeat (with_reducible rename _ ∧ _ => hc; obtain ⟨_, _⟩ := hc))
        exact ⟨_, _, _, _, _, _, _, _, by rfl, by rfl, (eq_of_beq (by assumption)), by rfl, rfl, (by k_extra "c1"), .join (by k_mem) (eq_of_beq (by assumption)) (IsPp.mono (by assumption) (fun p hp => by simp only [List.mem_cons, List.mem_append, hp, true_or, or_true])) (IsPp.mono (by assumption) (fun p hp => by simp only [List.mem_cons, List.mem_append, hp, true_or, or_true])), hRr⟩
      · intro n m₁ nw h₁ tk₁ F₁ N₁ hh9
        obtain ⟨q, acc, D, u2', u3', kt, k, tl, hm1, hm2, rfl, hm3, rfl, hab, hP, hR⟩ := hh9
        rcases nat_or n with hh9 | hh9
        · subst hh9; exact absurd (by rw [← hR]; rfl) hns
        · obtain ⟨n8, rfl⟩ := hh9
          subst hR
          k_steps
          · (repeat (with_reducible rename _ ∧ _ => hc; obtain ⟨_, _⟩ := hc))
            exact WhileStep.intro (by k_asm) (rd_end (news := news) (by k_asm) (by k_extra "c3") (by k_extra "c8")) (Nat.lt_succ_self _) ⟨_, _, _, _, _, _, _, _, by exact hm1, by exact hm2, rfl, by rfl, rfl, (by k_extra "c1"), .join (by k_mem) rfl (IsPp.mono hP (fun p hp => by simp only [List.mem_cons, List.mem_append, hp, true_or, or_true])) (IsPp.mono (by assumption) (fun p hp => by simp only [List.mem_cons, List.mem_append, hp, true_or, or_true])), (by k_extra "c25")⟩
          rotate_left 2
          · ((with_reducible rename Fr h₀ L _ _ => kF); (with_reducible rename News h₀ L _ _ => kN); (repeat (with_reducible rename _ ∧ _ => hc; obtain ⟨_, _⟩ := hc)); exact hok _ _ _ _ _ _ _ _ (by k_extra "c25") kF (rd_end kN (by k_extra "c3") (by k_extra "c8")) (by k_extra "c1") (by exact (IsPp.mono hP (fun p hp => by simp only [List.mem_cons, List.mem_append, hp, true_or, or_true]))))
          all_goals (first | exact ⟨hns (by k_extra "c25")⟩ | exact ⟨herr _ _ _ _ _ (by k_extra "c25") (by assumption) (by assumption) (by assumption)⟩ | exact (want_noerr (by assumption) (by assumption) (by assumption)).elim | exact ⟨(want_noerr (by assumption) (by assumption) (by assumption)).elim⟩ | exact (want_nostuck (by assumption) (by assumption)).elim | exact ⟨want_nostuck (by assumption) (by assumption)⟩)
in #guard_msgs (drop info, drop warning) in open Nat
theorem zRdPaper5 : True := trivial
end Z
theorem eRdPaper1 : True := trivial
end Mine
-- Rd7
namespace Mine
theorem ne_all {l : Led} {d : Addr} (h : ∀ p ∈ l, p.1 < d) : ∀ p ∈ l, p.1 ≠ d := fun p hp => Nat.ne_of_lt (h p hp)
section
variable {w : World} {A : Around} {E : Value → Shared → Prop} {s : Shared} {h₀ : Heap} {L : Addr} {m : Str → Option Value} {all rest : Led}
theorem m_setR {x dx : Addr} {es es' : List DictEntry} {n n' : Nat} {name : Str} {v : Value} {Q : Unit → Shared → Prop} (F : Fr h₀ L s.heap m) (X₀ : (hd.heap_39 w.params).In h₀) (N : News h₀ L s.heap all) (pk : Pick dx (dictOf es n) all rest) (hx : (x, instObj 258 dx) ∈ rest) (hne : ∀ p ∈ rest, p.1 ≠ dx)
    (ht : takerIn (hd.heap_39 w.params) 258 name = some none) (hl : (getL name es).isSome = true) (e : (putL name (PyData.keyHash w.params name) (.str name (s.toks + 1)) v es, putN name es n) = (es', n')) (hz : es'.length ≤ 1000)
    (h : ∀ h', Fr h₀ L h' m → News h₀ L h' ((dx, dictOf es' n') :: rest) → Q () { s with heap := h', toks := s.toks + 2 }) :
    wpAny (model LAW.row.prog w) A (setAttr (.ref x) name v) Q E s :=
  set_dict (C := 258) F X₀ (News.sub N pk.sub) (InstAt.of_news (News.sub N pk.sub) (.tail _ hx) (.head _)) rfl (by rfl) (by rfl) ht (by rfl) hl e (Upd.head hne) hz h
end
end Mine
-- Read
namespace Mine
set_option Elab.async true in
theorem words_use {w : World} {mean : ExcName → Option Value} {mg mb : Str → Option Value} {dp un : Nat} {gd : Option (List Code)} {cn : Str} {cs : Scope} {a : Addr} {ccd : Value} {cl : List (Str × Addr)} {outer : List Env} {A₀ : Around} {base h₀ : Heap} {L : Addr} {m : Str → Option Value} {s : Shared} {Q E : Value → Shared → Prop}
    {t : Str} {tk : Tok} {all : Led} {ws : Toks} (B : Below A₀ base outer h₀) (F : Fr h₀ L s.heap m) (X : (hd.heap_39 w.params).In h₀) (N : News h₀ L s.heap all) (T : Top view (looseW view []) mean mg mb h₀) (hk : cs.kind = .function)
    (hlen : t.cps.size ≤ 10000) (hok : PyData.strOk t = true) (hL : Laid t 0 ws) (hd : dp + 12 < recursionLimit) (hu : un + 120 < cLine)
    (h : ∀ W tl h' tk', Fr h₀ L h' m → News h₀ L h' (tl ++ all) → Above all tl → WordsAt tl W (ws ++ [(Str.ofString "", t.cps.size)]) → Q (.ref W) { s with heap := h', toks := tk' }) :
    wpAny (model PySem.Challenge.rw_pq0122_01.row.prog w) (ktrTop dp un gd cn cs L a ccd cl outer) (call (.ref 145) [.str t tk]) Q E s := by
  refine words_tri w mean mg mb t tk all hlen hok ws hL dp un gd cn cs a ccd cl outer A₀ base h₀ L m s Q E B F X N T hk hd hu ?_
  rintro r news' h' tk' F' N' ⟨W, tl, rfl, rfl, A, hW⟩
  exact h W tl h' tk' F' N' A hW
in #guard_msgs (drop info, drop warning) in open Nat
theorem Above.mono9 {old old' tl : Led} (h : Above old' tl) (k : ∀ q ∈ old, q ∈ old') : Above old tl := fun q hq p hp => h q (k q hq) p hp
theorem lt_two {l : Led} {d x : Addr} (h : ∀ p ∈ l, p.1 < d) (k : @LT.lt Nat _ d x) : ∀ p ∈ l, p.1 < x := fun p hp => Nat.lt_trans (h p hp) k
theorem tail_news {h₀ h : Heap} {L : Addr} {news all tl : Led} (N : News h₀ L h all) (t : Tail news all tl) : News h₀ L h (tl ++ news) := by rw [← t.eq]; exact N
end Mine
namespace Mine
example : True := by
  k_with "k_all" => first | ((fail_if_success have hzz := eRead1); (first | with_reducible assumption | with_reducible exact List.forall_mem_nil _ | ((with_reducible refine List.forall_mem_cons.mpr ⟨?_, ?_⟩) <;> first | k_ne | k_all) | ((with_reducible refine List.forall_mem_append.mpr ⟨?_, ?_⟩) <;> k_all) | assumption)) | fail
  k_with "k_mem" => first | ((fail_if_success have hzz := eRead1); ((repeat (first | exact List.Mem.head _ | apply List.Mem.tail | apply mem_inr | with_reducible assumption | assumption)); done)) | fail
  k_with "k_room" => first | ((fail_if_success have hzz := eRead1); (ktr_room)) | fail
  k_with "ktr_room" => first | ((fail_if_success have hzz := eRead1); ((try dsimp only [ktrTop]); omega)) | fail
  k_with "ktr_units" => first | ((fail_if_success have hzz := eRead1); ((try dsimp only [ktrTop]); omega)) | fail
  k_with "call ref" => first | ((fail_if_success have hzz := eRead1); (k_here; (with_reducible show wpAny _ _ (call (Value.ref 95) _) _ _ _); first | (k_dflt (refine isop_use (by k_asm) (by k_asm) (by k_asm) (by k_asm) (by k_asm) (by k_extra "c9") (by k_extra "c20") (by k_extra "c32") (by ktr_room) (by ktr_units) ?_); intro qh9 qtk9' qF9 qN9; (try k_sweep); (try k_fold)) | refine stuck_of ?_)) | fail
  k_with "call ref" => first | ((fail_if_success have hzz := eRead1); (k_here; (with_reducible show wpAny _ _ (call (Value.ref 166) _) _ _ _); first | (k_dflt (refine word_use (by k_asm) (by k_asm) (by k_asm) (by k_asm) (by k_asm) (by k_extra "c9") (by k_mem) (by k_mem) (WordsAt.mono (by k_asm) (fun p hp => by k_mem)) (by k_asm) (by omega) (by ktr_room) (by ktr_units) ?_); intro qtk9 qh9 qtk9' qF9 qN9; (try k_sweep); (try k_fold)) | (k_dflt (refine word_any (by k_asm) (by k_asm) (by k_asm) (by k_asm) (by k_asm) (by k_asm) (by k_asm) (by k_extra "c9") (by k_mem) (by k_mem) (WordsAt.mono (by k_asm) (fun p hp => by k_mem)) (by ktr_room) (by ktr_units) ?_ ?_); rotate_left; intro qy9 qtk9 qh9 qtk9' qe9 ql9 qz9 qF9 qN9; (try k_sweep); (try k_fold)) | refine stuck_of ?_)) | fail
  k_with "call ref" => first | ((fail_if_success have hzz := eRead1); (k_here; (with_reducible show wpAny _ _ (call (Value.ref 173) _) _ _ _); first | (k_dflt (refine spot_use (by k_asm) (by k_asm) (by k_asm) (by k_asm) (by k_asm) (by k_extra "c9") (by k_mem) (by k_mem) (WordsAt.mono (by k_asm) (fun p hp => by k_mem)) (by k_asm) (by omega) (by ktr_room) (by ktr_units) ?_); intro qtk9 qh9 qtk9' qF9 qN9; (try k_sweep); (try k_fold)) | (k_dflt (refine spot_any (by k_asm) (by k_asm) (by k_asm) (by k_asm) (by k_asm) (by k_asm) (by k_extra "c9") (by k_mem) (by k_mem) (WordsAt.mono (by k_asm) (fun p hp => by k_mem)) (by ktr_room) (by ktr_units) ?_ ?_); rotate_left; intro qy9 qtk9 qh9 qtk9' qe9 ql9 qF9 qN9; (try k_sweep); (try k_fold)) | refine stuck_of ?_)) | fail
  k_with "call ref" => first | ((fail_if_success have hzz := eRead1); (k_here; (with_reducible show wpAny _ _ (call (Value.ref 180) _) _ _ _); first | (k_dflt (refine take_use (by k_asm) (by k_asm) (by k_asm) (by k_asm) (by k_asm) (by k_extra "c9") (by k_extra "c3") (by k_mem) (by k_all) (WordsAt.mono (by k_asm) (fun p hp => by k_mem)) (by k_asm) (by omega) (by ktr_room) (by ktr_units) ?_); intro qtk9 qu9 qh9 qtk9' qF9 qN9; (try k_sweep); (try k_fold)) | refine stuck_of ?_)) | fail
  k_with "call ref" => first | ((fail_if_success have hzz := eRead1); (k_here; (with_reducible show wpAny _ _ (call (Value.ref 76) _) _ _ _); first | (k_dflt (refine fault_make (by k_asm) (by k_asm) (by k_asm) (by k_asm) (by k_asm) (by k_extra "c9") (by ktr_room) ?_); intro qe9 qd9 qT9 qtk9 qtk8 qtl9 qh9 qtk7 qF9 qN9 ql9 q9) | refine stuck_of ?_)) | fail
  k_with "exec Raise some none" => first | ((fail_if_success have hzz := eRead1); (k_here; k_dflt (refine x_Raise (by first | rfl | assumption) ?_))) | fail
  k_with "RaisableF" => first | ((fail_if_success have hzz := eRead1); (k_dflt (refine raisF (by k_asm) (by k_asm) (by k_asm) (by k_mem) ?_))) | fail
  k_with "leaving ref" => first | ((fail_if_success have hzz := eRead1); (k_here; k_dflt (refine leave_faultR (by k_asm) (by k_asm) (by k_asm) (by k_asm) (by k_mem) (by k_extra "c3") (by k_asm) (fun p hp => by k_mem) (fun p hp => Nat.ne_of_lt (l9_of (by k_asm) p (by k_mem))) rfl rfl ?_); intro qh9 qR9 qU9; refine stuck_of ?_)) | fail
  k_with "callWith ref cons nil" => first | ((fail_if_success have hzz := eRead1); (k_here; k_dflt (first | (refine callWith_K0 (by k_in) (by k_is) ?_; k_whole) | (refine callWith_K (by k_asm) (by k_is) ?_; k_whole)))) | fail
  k_with "k_in" => first | ((fail_if_success have hzz := eRead1); (first | with_reducible assumption | with_reducible exact Frag.In.keeps (by with_reducible assumption) (Fr.keep (by with_reducible assumption)) | exact Frag.In.keeps (by k_asm) (Fr.keep (by k_asm)))) | fail
  k_with "k_all" => first | ((fail_if_success have hzz := eRead1); (first | with_reducible assumption | with_reducible exact List.forall_mem_nil _ | ((with_reducible refine List.forall_mem_cons.mpr ⟨?_, ?_⟩) <;> first | k_ne | k_all) | ((with_reducible refine List.forall_mem_append.mpr ⟨?_, ?_⟩) <;> k_all) | exact ne_all (by with_reducible assumption) | exact fun p hp => Above.at (by assumption) (by k_mem) hp | exact fun q hq => Nat.ne_of_lt (ktn_ltOf (by assumption) q hq) | assumption)) | fail
  k_with "call ref" => first | ((fail_if_success have hzz := eRead1); (k_here; (with_reducible show wpAny _ _ (call (Value.ref 145) _) _ _ _); first | (k_dflt (refine words_use (by k_asm) (by k_asm) (by k_asm) (by k_asm) (by k_asm) (by k_extra "c9") (by k_asm) (by k_asm) (by k_asm) (by ktr_room) (by ktr_units) ?_; intro qW9 qtl9 qh9 qtk9 qF9 qN9 qA9 qW9'; (try k_sweep); (try k_fold))) | refine stuck_of ?_)) | fail
  k_with "setAttr ref" => first | ((fail_if_success have hzz := eRead1); (k_here; k_dflt (refine m_setR (by k_asm) (by k_in) (by k_asm) (by k_extra "c3") (by k_mem) (by k_all) (by rfl) (by k_get) (by k_put) (by exact Nat.le_of_ble_eq_true rfl) ?_); intro qh9 qF9 qN9)) | fail
  k_with "call ref" => first | ((fail_if_success have hzz := eRead1); (k_here; (with_reducible show wpAny _ _ (call (Value.ref 255) _) _ _ _); first | (k_dflt (refine rdc_use (by k_asm) (by k_asm) (by k_asm) (by k_asm) (by k_asm) (by k_extra "c9") (by k_extra "c3") (by k_mem) (WordsAt.mono (by k_asm) (fun p hp => by k_mem)) (by k_all) (rpaper_tri _ _ _ _ _ _ _ _ _ _ _ _ 120 _ (by k_asm) (by k_asm) (by k_asm) (by decide) (places_tri _ _ _ _ _ _ _ _ _ _ _ _ _ _ (by k_asm) (by k_asm) (by k_asm) (by decide)) 6 0 0 (by decide)) (by ktr_room) (by ktr_units) ?_ ?_ ?_; intro qv9 qp9 qr9 qtl9 qu9 qu8 qh9 qtk8 qe9 qF9 qN9 qA9 qne9 qR9; (try dsimp only at qR9);  (try k_sweep); (try k_fold); rotate_left 1; (intro qe9 qh9 qtk9 qsp9 qg9 q9 qR9 qF9 qU9); rotate_right 1)) | refine stuck_of ?_)) | fail
  k_with "call ref" => first | ((fail_if_success have hzz := eRead1); (k_here; (with_reducible show wpAny _ _ (call (Value.ref 187) _) _ _ _); first | (k_dflt (refine rdc_use (by k_asm) (by k_asm) (by k_asm) (by k_asm) (by k_asm) (by k_extra "c9") (by k_extra "c3") (by k_mem) (WordsAt.mono (by k_asm) (fun p hp => by k_mem)) (by k_all) (end_tri _ _ _ _ _ _ _ _ _ _ _ _ 120 _ (by k_asm) (by k_asm) (by k_asm) _ 0 _) (by ktr_room) (by ktr_units) ?_ ?_ ?_; intro qv9 qp9 qr9 qtl9 qu9 qu8 qh9 qtk8 qe9 qF9 qN9 qA9 qne9 qR9; (try dsimp only at qR9);  (try k_sweep); (try k_fold); rotate_left 1; (intro qe9 qh9 qtk9 qsp9 qg9 q9 qR9 qF9 qU9); rotate_right 1)) | refine stuck_of ?_)) | fail
  k_with "leaving ref" => first | ((fail_if_success have hzz := eRead1); (k_here; k_dflt (refine leave_fault2 (by k_asm) (by k_asm) (by k_asm) (by k_asm) rfl ?_); intro qh9 qR9 qU9; refine stuck_of ?_)) | fail
  k_with "ktr_room" => first | ((fail_if_success have hzz := eRead1); (first | ((try dsimp only [ktrTop]); omega) | ((simp only [depth_under_make, depth_deeper, ktrTop]); omega))) | fail
  k_with "ktr_units" => first | ((fail_if_success have hzz := eRead1); (first | ((try dsimp only [ktrTop]); omega) | ((simp only [units_under_make, units_deeper, ktrTop]); omega))) | fail
  trivial
noncomputable def ReadC (w : World) (mean : ExcName → Option Value) (mg mb : Str → Option Value) (t : Str) (tk : Tok) (ws : Toks) : Prop :=
  ∀ (dp un : Nat) (gd : Option (List Code)) (cn : Str) (cs : Scope) (a : Addr) (ccd : Value) (cl : List (Str × Addr)) (outer : List Env) (A₀ : Around) (base h₀ : Heap) (L : Addr) (m : Str → Option Value) (s : Shared) (Q E : Value → Shared → Prop) (news : Led),
    Below A₀ base outer h₀ → Fr h₀ L s.heap m → (hd.heap_39 w.params).In h₀ → News h₀ L s.heap news → Top view (looseW view []) mean mg mb h₀ → cs.kind = .function → dp + 60 < recursionLimit → un + 1400 < cLine →
    (∀ r tl h' tk' v p', pRead ws = .ok v p' → Fr h₀ L h' m → News h₀ L h' (tl ++ news) → Above news tl → IsPp tl r v → Q r { s with heap := h', toks := tk' }) →
    (∀ e h' tk' sp g, pRead ws = .err sp → FaultAt w base (envX cn cs L a ccd cl :: outer) e sp news h' → Fr h₀ L g m → g.UpToSlots h' → E (.ref e) { s with heap := h', toks := tk' }) →
    pRead ws ≠ .stuck →
    wpAny (model PySem.Challenge.rw_pq0122_01.row.prog w) (ktrTop dp un gd cn cs L a ccd cl outer) (call (.ref 269) [.str t tk]) Q E s
namespace Z
example : True := by
  k_with "eps" => first | ((fail_if_success have hzz := zRead3); skip) | fail
  trivial
set_option Elab.async true in
set_option maxHeartbeats 1000000 in
theorem read_tri : ∀ (w : World) (mean : ExcName → Option Value) (mg : Str → Option Value) (mb : Str → Option Value) (t : Str) (tk : Tok) (ws0 : Toks) (hlen : t.cps.size ≤ 10000) (hok : PyData.strOk t = true) (hL : Laid t 0 ws0) (hwl : (ws0 ++ [(Str.ofString "", t.cps.size)]).length ≤ 20000) (hwz : ∀ y ∈ (ws0 ++ [(Str.ofString "", t.cps.size)]), y.1.cps.size ≤ 10000) (hwo : ∀ y ∈ (ws0 ++ [(Str.ofString "", t.cps.size)]), PyData.strOk y.1 = true), ReadC w mean mg mb t tk (ws0 ++ [(Str.ofString "", t.cps.size)]) := by
  intro w mean mg mb t tk ws0 hlen hok hL hwl hwz hwo
  k_extra "c11"
  clear hK
  w_top off
  unfold ReadC
  intro dp un gd cn cs a ccd cl outer A₀ base h₀ L m s Q E news B F X N T hk hd hu hok herr hns
  refine wpAny_call ?_
  k_dflt ktr_enter
  k_steps
  · (with_reducible rename Fr h₀ L _ _ => kF); (with_reducible rename News h₀ L _ _ => kN); (repeat (with_reducible rename _ ∧ _ => hc; obtain ⟨_, _⟩ := hc))
    exact hok _ _ _ _ _ _ (by k_extra "c24") kF (tail_news kN (by k_extra "c8")) (by repeat' (first | exact Above.nil | (refine Above.cons (fun q hq => by first | exact Nat.ne_of_lt (ktn_ltOf (by assumption) q hq) | exact off1_mem (by assumption) q hq | exact Nat.ne_of_lt (ktn_ltOf (l := _ ++ _) (by assumption) q (by k_mem)) | exact off1_mem (l := _ ++ _) (by assumption) q (by k_mem) | exact ne_all (by assumption) q (by k_mem) | exact Nat.ne_of_lt (lt_two (by assumption) (by assumption) q hq)) ?_) | (refine Above.app (Above.mono9 (by assumption) (fun q hq => by k_mem)) ?_))) (IsPp.mono (by assumption) (fun p hp => by simp only [List.mem_cons, List.mem_append, hp, true_or, or_true]))
  all_goals first | (first | exact ⟨hns (by k_extra "c24")⟩ | exact ⟨herr _ _ _ _ _ (by k_extra "c24") (by assumption) (by assumption) (by assumption)⟩ | exact (want_noerr (by assumption) (by assumption) (by assumption)).elim | exact ⟨(want_noerr (by assumption) (by assumption) (by assumption)).elim⟩ | exact (want_nostuck (by assumption) (by assumption)).elim | exact ⟨want_nostuck (by assumption) (by assumption)⟩) | exact ⟨herr _ _ _ _ _ (by k_extra "c24") (FaultAt.sub (by assumption) (fun p hp => by k_mem)) (by assumption) (by assumption)⟩
in #guard_msgs (drop info, drop warning) in open Nat
theorem zRead3 : True := trivial
end Z
theorem eRead1 : True := trivial
end Mine
-- PL6
namespace Mine
example : True := by
  k_with "omega" => first | ((fail_if_success have hzz := ePL61); (first | k_extra "ub" | (simp +arith only; done) | k_extra "fk" | lia | omega (config := {}))) | fail
  trivial
example : True := by
  k_with "fk" => first | ((fail_if_success have hzz := ePL61); (with_reducible (first | exact fk172 (by assumption) | exact fk173 (by assumption) (by assumption) (by assumption) | exact fk174 (by assumption) | exact fk175 (by assumption) | exact fk176 (by assumption) (by assumption)))) | fail
  trivial
noncomputable def toksOf (T : Str) (ps : List Pc) : Toks := posn 0 ps ++ [(nils, T.cps.size)]
theorem toks_fst (T : Str) (ps : List Pc) : (toksOf T ps).map Prod.fst = wds ps ++ [nils] := by unfold toksOf; rw [List.map_append, posn_wds]; rfl
theorem atw {T : Str} {ps : List Pc} (a l b : List Str) (h : wds ps ++ [nils] = a ++ (l ++ b)) : AtW (toksOf T ps) a.length l := atW_of (by rw [toks_fst, h])
theorem tok_at (T : Str) (a : List Pc) (x : Str) (b : List Pc) : (toksOf T (a ++ Pc.wd x :: b))[(wds a).length]? = some (x, (rnd a).length) := by
  unfold toksOf
  rw [posn_app, List.append_assoc, ← posn_len a 0, List.getElem?_append_right (Nat.le_refl _), Nat.sub_self, Nat.zero_add]
  rfl
theorem tok_end (T : Str) (ps : List Pc) : (toksOf T ps)[(wds ps).length]? = some (nils, T.cps.size) := by
  unfold toksOf
  rw [← posn_len ps 0, List.getElem?_append_right (Nat.le_refl _), Nat.sub_self]; rfl
theorem tok_is {T : Str} {ps : List Pc} (a : List Str) (x : Str) (b : List Str) (h : wds ps ++ [nils] = a ++ x :: b) : ∃ s, (toksOf T ps)[a.length]? = some (x, s) := (atw (T := T) (ps := ps) a [x] b h).1
theorem first_pos : ∀ {ps : List Pc} {b : Bool} {x : Str} {r : List Str} {c : Nat} {l : List Nat} (k : Nat), Sq b ps → wds ps = x :: r → rnd ps = c :: l → gapC c = false → ∃ r', posn k ps = (x, k) :: r'
  | [], _, _, _, _, _, _, _, h, _, _ => nomatch h
  | Pc.gap s :: ps, b, x, r, c, l, k, sq, h, e, g => by
    cases hs : cl s with
    | cons c' l' =>
      simp only [rnd, hs, List.cons_append, List.cons.injEq] at e
      have := sq.1 c' (by rw [hs]; exact .head _)
      rw [e.1, g] at this; cases this
    | nil =>
      simp only [rnd, hs, List.nil_append] at e
      have hz : s.cps.size = 0 := by rw [← cl_len, hs]; rfl
      obtain ⟨r', h'⟩ := first_pos k sq.2 h e g
      exact ⟨r', by simp only [posn, hz, Nat.add_zero]; exact h'⟩
  | Pc.wd s :: ps, b, x, r, c, l, k, sq, h, e, g => by
    simp only [wds, List.cons.injEq] at h
    exact ⟨posn (k + s.cps.size) ps, by simp only [posn, h.1]⟩
theorem op_ne {x : Str} (h : isOpS x = true) : ∃ c l, cl x = c :: l ∧ okC c = true := by
  cases e : cl x with
  | nil => rw [cl_eq_nil.mp e] at h; exact absurd h (by decide +kernel)
  | cons c l =>
    unfold isOpS at h
    simp only [Bool.and_eq_true, Array.all_eq_true'] at h
    exact ⟨c, l, rfl, h.2 c (by
      have : c ∈ cl x := by rw [e]; exact .head _
      simpa [cl] using this)⟩
theorem wds_len : ∀ {ps : List Pc} {b : Bool}, Sq b ps → (wds ps).length ≤ (rnd ps).length
  | [], _, _ => Nat.le_refl _
  | Pc.gap s :: ps, b, h => by have := wds_len h.2; simp only [wds, rnd, List.length_append]; omega
  | Pc.wd s :: ps, b, h => by
    have hs : 1 ≤ (cl s).length := by
      rcases h with h | ⟨rfl | rfl, _⟩
      · obtain ⟨c, l, e, _⟩ := op_ne h.1; rw [e]; simp
      · rw [cl_lpar]; simp
      · rw [cl_rpar]; simp
    have : (wds ps).length ≤ (rnd ps).length := by
      rcases h with h | h
      · exact wds_len h.2.2
      · exact wds_len h.2
    simp only [wds, rnd, List.length_append, List.length_cons]; omega
theorem wds_in : ∀ {ps : List Pc} {x : Str}, x ∈ wds ps → (∀ c ∈ cl x, c ∈ rnd ps) ∧ (cl x).length ≤ (rnd ps).length
  | [], _, h => nomatch h
  | Pc.gap s :: ps, x, h => by
    have := wds_in (ps := ps) h
    simp only [rnd, List.length_append]
    exact ⟨fun c hc => List.mem_append_right _ (this.1 c hc), by omega⟩
  | Pc.wd s :: ps, x, h => by
    simp only [rnd, List.length_append]
    k_extra "c131"
    · exact ⟨fun c hc => List.mem_append_left _ hc, by omega⟩
    · have := wds_in (ps := ps) h
      exact ⟨fun c hc => List.mem_append_right _ (this.1 c hc), by omega⟩
theorem strOk_asc {x : Str} (h : ∀ c ∈ cl x, c < 128) : PyData.strOk x = true := by
  unfold PyData.strOk
  rw [Array.all_eq_true']
  intro c hc
  have := h c (by simpa [cl] using hc)
  exact decide_eq_true (by omega)
set_option Elab.async true in
theorem readC_of (w : World) (mean : ExcName → Option Value) (mg mb : Str → Option Value) {T : Str} {ps : List Pc} (e : cl T = rnd ps) (sq : Sq false ps) (hz : T.cps.size ≤ 10000) (ha : ∀ c ∈ cl T, c < 128) (tk : Tok) : ReadC w mean mg mb T tk (toksOf T ps) := by
  have hr : (rnd ps).length = T.cps.size := by rw [← e, cl_len]
  have hw : ∀ y ∈ toksOf T ps, (∀ c ∈ cl y.1, c < 128) ∧ y.1.cps.size ≤ 10000 := by
    intro y hy
    have hm : y.1 ∈ wds ps ++ [nils] := by rw [← toks_fst T]; exact List.mem_map_of_mem hy
    rcases List.mem_append.mp hm with h | h
    · have := wds_in h
      exact ⟨fun c hc => ha c (by rw [e]; exact this.1 c hc), by rw [← cl_len]; omega⟩
    · rw [List.mem_singleton.mp h, cl_nils]
      exact ⟨fun c hc => (nomatch hc), by decide +kernel⟩
  refine read_tri w mean mg mb T tk (posn 0 ps) hz (strOk_asc ha) (laid_text sq e) ?_ (fun y hy => (hw y hy).2) (fun y hy => strOk_asc (hw y hy).1)
  have := wds_len sq
  rw [List.length_append, posn_len]; simp only [List.length_cons, List.length_nil]; omega
in #guard_msgs (drop info, drop warning) in open Nat
structure Txt0 (T : Str) (ps : List Pc) : Prop where
  e : cl T = rnd ps
  sq : Sq false ps
  a : ∀ c ∈ cl T, c < 128
set_option Elab.async true in
theorem plain_pcs {ws : List Str} (hw : ∀ x ∈ ws, OkWd x) : ∃ ps, Txt0 (plainS nils ws) ps ∧ wds ps = ws := by
  have H : ∀ i, i ≤ ws.length → ∃ ps, cl (plainS nils (ws.take i)) = rnd ps ∧ Sq false ps ∧ wds ps = ws.take i ∧ (endB false ps = true → i ≠ 0 ∧ ∀ x, ws[i - 1]? = some x → isOpS x = true) ∧ (plainS nils (ws.take i)).cps.size ≤ 20 * i + 5 ∧ ∀ c ∈ cl (plainS nils (ws.take i)), c < 128 := by
    intro i
    induction i with
    | zero => intro _; exact ⟨[], cl_nils, trivial, rfl, fun h => Bool.noConfusion (show false = true from h), by simp only [List.take_zero, plainS]; decide +kernel, fun c hc => by simp only [List.take_zero, plainS, cl_nils] at hc; cases hc⟩
    | succ i ih =>
      intro hi
      obtain ⟨ps, h1, h2, h3, h4, h5, h6⟩ := ih (by omega)
      have hlt : i < ws.length := hi
      have hw9 : ws[i]? = some ws[i] := by simp [hlt]
      have hwz := hw _ (List.getElem_mem hlt)
      have hg : GapOk (plainA (plainS nils (ws.take i)) ws[i]) := by rw [plainA_eq]; split; exact gap_nil; exact gap_sp
      have hs := loose_step h1 h2 h3 hw9 hwz hg (fun hb ho => ?_) h6 h5
      · rw [take_snoc hw9, plainS_snoc, ← take_snoc hw9]
        exact ⟨_, hs.1, hs.2.1, hs.2.2.1, hs.2.2.2.1, hs.2.2.2.2.1, hs.2.2.2.2.2⟩
      · have h0 := h4 hb
        obtain ⟨j, rfl⟩ : ∃ j, i = j + 1 := ⟨i - 1, by omega⟩
        have hj : ws[j]? = some ws[j] := by simp [show j < ws.length by omega]
        have hop := h0.2 ws[j] hj
        have ho2 : openB (plainS nils (ws.take (j + 1))) = false := by rw [take_snoc hj, plainS_snoc]; exact openB_app (op_last hop)
        rw [plainA_eq, ho2, op_rpar ho]; decide +kernel
  obtain ⟨ps, h1, h2, h3, _, _, h6⟩ := H ws.length (Nat.le_refl _)
  rw [List.take_length] at h1 h3 h6
  exact ⟨ps, ⟨h1, h2, h6⟩, h3⟩
in #guard_msgs (drop info, drop warning) in open Nat
noncomputable def Bad (T : Str) (sp : Nat) : Prop := ∃ ps, Txt0 T ps ∧ T.cps.size ≤ 10000 ∧ pRead (toksOf T ps) = .err sp
theorem sq_sp {b : Bool} {r : List Pc} (h : Sq false r) : Sq b (Pc.gap spS :: r) := by
  have e : (b && (cl spS).isEmpty) = false := by rw [cl_spS]; simp
  exact ⟨fun c hc => by rw [cl_spS] at hc; rw [List.mem_singleton.mp hc]; decide +kernel, by rw [e]; exact h⟩
theorem sq_par {b : Bool} {s : Str} {r : List Pc} (h : s = lpar ∨ s = rpar) (k : Sq false r) : Sq b (Pc.wd s :: r) := .inr ⟨h, k⟩
theorem sq_op {s : Str} {r : List Pc} (h : isOpS s = true) (k : Sq true r) : Sq false (Pc.wd s :: r) := .inl ⟨h, rfl, k⟩
theorem Txt0.len {T : Str} {ps : List Pc} (h : Txt0 T ps) : (rnd ps).length = T.cps.size := by rw [← h.e, cl_len]
theorem Txt0.app {T U : Str} {ps qs : List Pc} (h : Txt0 T ps) (e : cl U = rnd qs) (k : Sq true qs) (a : ∀ c ∈ cl U, c < 128) : Txt0 (T ++ U) (ps ++ qs) :=
  ⟨by rw [cl_app, rnd_app, h.e, e], h.sq.app k, fun c hc => by rw [cl_app] at hc; exact (List.mem_append.mp hc).elim (h.a c) (a c)⟩
theorem asc_of {x : Str} (h : (cl x).all (fun c => decide (c < 128)) = true) : ∀ c ∈ cl x, c < 128 := fun c hc => by
  rw [List.all_eq_true] at h; simpa using h c hc
theorem Txt0.pre {T U : Str} {ps qs : List Pc} (h : Txt0 U qs) (e : cl T = rnd ps) (k : ∀ r, Sq false r → Sq false (ps ++ r)) (a : ∀ c ∈ cl T, c < 128) : Txt0 (T ++ U) (ps ++ qs) :=
  ⟨by rw [cl_app, rnd_app, h.e, e], k _ h.sq, fun c hc => by rw [cl_app] at hc; exact (List.mem_append.mp hc).elim (a c) (h.a c)⟩
theorem cl_turn : cl (Str.ofString "(turn ") = rnd [Pc.wd lpar, Pc.wd kTurn, Pc.gap spS] := by decide +kernel
theorem cl_was : cl (Str.ofString "(was ") = rnd [Pc.wd lpar, Pc.wd (Str.ofString "was"), Pc.gap spS] := by decide +kernel
theorem cl_tw : cl (Str.ofString "(turn (was ") = rnd [Pc.wd lpar, Pc.wd kTurn, Pc.gap spS, Pc.wd lpar, Pc.wd (Str.ofString "was"), Pc.gap spS] := by decide +kernel
theorem cl_join : cl (Str.ofString "(join ") = rnd [Pc.wd lpar, Pc.wd kJoin, Pc.gap spS] := by decide +kernel
theorem cl_rule : cl (Str.ofString " (rule r ?x ") = rnd [Pc.gap spS, Pc.wd lpar, Pc.wd kRule, Pc.gap spS, Pc.wd (Str.ofString "r"), Pc.gap spS, Pc.wd xName, Pc.gap spS] := by decide +kernel
theorem cl_xa : cl (Str.ofString "?x a))") = rnd [Pc.wd xName, Pc.gap spS, Pc.wd (Str.ofString "a"), Pc.wd rpar, Pc.wd rpar] := by decide +kernel
theorem cl_und : cl (Str.ofString "(under ") = rnd [Pc.wd lpar, Pc.wd kUnder, Pc.gap spS] := by decide +kernel
theorem cl_told : cl (Str.ofString "(told (a))") = rnd [Pc.wd lpar, Pc.wd kTold, Pc.gap spS, Pc.wd lpar, Pc.wd (Str.ofString "a"), Pc.wd rpar, Pc.wd rpar] := by decide +kernel
theorem cl_x : cl (Str.ofString " x") = rnd [Pc.gap spS, Pc.wd (Str.ofString "x")] := by decide +kernel
theorem cl_pp : cl (Str.ofString "))") = rnd [Pc.wd rpar, Pc.wd rpar] := by decide +kernel
theorem ops : isOpS (Str.ofString "was") = true ∧ isOpS (Str.ofString "r") = true ∧ isOpS (Str.ofString "a") = true ∧ isOpS (Str.ofString "x") = true := by decide +kernel
theorem pre_turn {r : List Pc} (h : Sq false r) : Sq false ([Pc.wd lpar, Pc.wd kTurn, Pc.gap spS] ++ r) := sq_par (.inl rfl) (sq_op op_kind.2.2.2.1 (sq_sp h))
theorem pre_was {r : List Pc} (h : Sq false r) : Sq false ([Pc.wd lpar, Pc.wd (Str.ofString "was"), Pc.gap spS] ++ r) := sq_par (.inl rfl) (sq_op ops.1 (sq_sp h))
theorem pre_tw {r : List Pc} (h : Sq false r) : Sq false ([Pc.wd lpar, Pc.wd kTurn, Pc.gap spS, Pc.wd lpar, Pc.wd (Str.ofString "was"), Pc.gap spS] ++ r) := sq_par (.inl rfl) (sq_op op_kind.2.2.2.1 (sq_sp (pre_was h)))
theorem pre_join {r : List Pc} (h : Sq false r) : Sq false ([Pc.wd lpar, Pc.wd kJoin, Pc.gap spS] ++ r) := sq_par (.inl rfl) (sq_op op_kind.2.2.2.2.1 (sq_sp h))
theorem pre_und {r : List Pc} (h : Sq false r) : Sq false ([Pc.wd lpar, Pc.wd kUnder, Pc.gap spS] ++ r) := sq_par (.inl rfl) (sq_op op_kind.2.2.2.2.2 (sq_sp h))
theorem suf_rule {r : List Pc} (h : Sq false r) : Sq true ([Pc.gap spS, Pc.wd lpar, Pc.wd kRule, Pc.gap spS, Pc.wd (Str.ofString "r"), Pc.gap spS, Pc.wd xName, Pc.gap spS] ++ r) :=
  sq_sp (sq_par (.inl rfl) (sq_op op_kind.2.2.1 (sq_sp (sq_op ops.2.1 (sq_sp (sq_op xy_op.1 (sq_sp h)))))))
theorem suf_xa : Sq false [Pc.wd xName, Pc.gap spS, Pc.wd (Str.ofString "a"), Pc.wd rpar, Pc.wd rpar] := sq_op xy_op.1 (sq_sp (sq_op ops.2.2.1 (sq_par (.inr rfl) (sq_par (.inr rfl) trivial))))
theorem sq_told : Sq false [Pc.wd lpar, Pc.wd kTold, Pc.gap spS, Pc.wd lpar, Pc.wd (Str.ofString "a"), Pc.wd rpar, Pc.wd rpar] := sq_par (.inl rfl) (sq_op op_kind.2.1 (sq_sp (sq_par (.inl rfl) (sq_op ops.2.2.1 (sq_par (.inr rfl) (sq_par (.inr rfl) trivial))))))
section
variable {T U : Str} {ps qs : List Pc} {P : Pp} {w : List Str} {t : Tm}
theorem bad_cut (h : Txt0 T ps) (hz : T.cps.size ≤ 4000) (hw : wds ps ++ [rpar] = w) (sp : Spell false P w) (g : GoodPp P) (hd : ppDepth P ≤ 4) : Bad T T.cps.size :=
  ⟨ps, h, by omega, read_cut sp hw.symm g hd (atw [] (wds ps) [nils] rfl) (tok_end T ps)⟩
theorem bad_x (h : Txt0 T ps) (hz : T.cps.size ≤ 4000) (hw : wds ps = w) (sp : Spell false P w) (g : GoodPp P) (hd : ppDepth P ≤ 4) : Bad (T ++ Str.ofString " x") (T.cps.size + 1) := by
  refine ⟨_, h.app cl_x (sq_sp (sq_op ops.2.2.2 trivial)) (asc_of (by decide +kernel)), by rw [size_app, show (Str.ofString " x").cps.size = 2 by decide +kernel]; omega, ?_⟩
  have k := tok_at (T ++ Str.ofString " x") (ps ++ [Pc.gap spS]) (Str.ofString "x") []
  rw [wds_app, rnd_app, List.length_append, List.length_append, h.len, hw] at k
  simp only [List.append_assoc, List.singleton_append] at k
  exact read_on sp g hd (atw [] w (Str.ofString "x" :: [nils]) (by rw [wds_app, hw]; simp [wds])) k (by decide +kernel)
theorem bad_par (h : Txt0 T ps) (hz : T.cps.size ≤ 4000) (hw : wds ps = w) (sp : Spell false P w) (g : GoodPp P) (hd : ppDepth P ≤ 4) : Bad (T ++ Str.ofString ")") T.cps.size := by
  refine ⟨_, h.app (qs := [Pc.wd rpar]) (by decide +kernel) (sq_par (.inr rfl) trivial) (asc_of (by decide +kernel)), by rw [size_app, sz_rp]; omega, ?_⟩
  have k := tok_at (T ++ Str.ofString ")") ps rpar []
  rw [h.len, hw] at k
  exact read_on sp g hd (atw [] w (rpar :: [nils]) (by rw [wds_app, hw]; simp [wds])) k (by decide +kernel)
set_option Elab.async true in
theorem bad_turn (h : Txt0 T ps) (hz : T.cps.size ≤ 4000) (hw : wds ps = w) (sp : Spell false P w) (g : GoodPp P) (hd : ppDepth P ≤ 4) : Bad (Str.ofString "(turn " ++ T) (T.cps.size + 6) := by
  refine ⟨_, h.pre cl_turn (fun _ => pre_turn) (asc_of (by decide +kernel)), by rw [size_app, show (Str.ofString "(turn ").cps.size = 6 by decide +kernel]; omega, ?_⟩
  have e : wds ([Pc.wd lpar, Pc.wd kTurn, Pc.gap spS] ++ ps) = [lpar, kTurn] ++ w := by rw [wds_app, hw]; rfl
  have k := tok_end (Str.ofString "(turn " ++ T) ([Pc.wd lpar, Pc.wd kTurn, Pc.gap spS] ++ ps)
  rw [e, size_app, show (Str.ofString "(turn ").cps.size = 6 by decide +kernel, Nat.add_comm 6, List.length_append] at k
  obtain ⟨s0, h0⟩ := tok_is (T := Str.ofString "(turn " ++ T) (ps := [Pc.wd lpar, Pc.wd kTurn, Pc.gap spS] ++ ps) [] lpar (kTurn :: (w ++ [nils])) (by rw [e]; simp)
  obtain ⟨s1, h1⟩ := tok_is (T := Str.ofString "(turn " ++ T) (ps := [Pc.wd lpar, Pc.wd kTurn, Pc.gap spS] ++ ps) [lpar] kTurn (w ++ [nils]) (by rw [e]; simp)
  exact read_turn h0 h1 sp g hd (atw [lpar, kTurn] w [nils] (by rw [e]; simp)) k (by decide +kernel)
in #guard_msgs (drop info, drop warning) in open Nat
theorem bad_was (h : Txt0 U qs) (hz : U.cps.size ≤ 4000) : Bad ((Str.ofString "(was " ++ U) ++ Str.ofString ")") 1 := by
  refine ⟨_, (h.pre cl_was (fun _ => pre_was) (asc_of (by decide +kernel))).app (qs := [Pc.wd rpar]) (by decide +kernel) (sq_par (.inr rfl) trivial) (asc_of (by decide +kernel)), by rw [size_app, size_app, sz_rp, show (Str.ofString "(was ").cps.size = 5 by decide +kernel]; omega, ?_⟩
  have h0 := tok_at ((Str.ofString "(was " ++ U) ++ Str.ofString ")") [] lpar ([Pc.wd (Str.ofString "was"), Pc.gap spS] ++ qs ++ [Pc.wd rpar])
  have h1 := tok_at ((Str.ofString "(was " ++ U) ++ Str.ofString ")") [Pc.wd lpar] (Str.ofString "was") ([Pc.gap spS] ++ qs ++ [Pc.wd rpar])
  exact read_was h0 h1
set_option Elab.async true in
theorem bad_tw (h : Txt0 T ps) (hz : T.cps.size ≤ 4000) : Bad ((Str.ofString "(turn (was " ++ T) ++ Str.ofString "))") 7 := by
  refine ⟨_, (h.pre cl_tw (fun _ => pre_tw) (asc_of (by decide +kernel))).app cl_pp (sq_par (.inr rfl) (sq_par (.inr rfl) trivial)) (asc_of (by decide +kernel)), by rw [size_app, size_app, show (Str.ofString "))").cps.size = 2 by decide +kernel, show (Str.ofString "(turn (was ").cps.size = 11 by decide +kernel]; omega, ?_⟩
  have h0 := tok_at ((Str.ofString "(turn (was " ++ T) ++ Str.ofString "))") [] lpar ([Pc.wd kTurn, Pc.gap spS, Pc.wd lpar, Pc.wd (Str.ofString "was"), Pc.gap spS] ++ ps ++ [Pc.wd rpar, Pc.wd rpar])
  have h1 := tok_at ((Str.ofString "(turn (was " ++ T) ++ Str.ofString "))") [Pc.wd lpar] kTurn ([Pc.gap spS, Pc.wd lpar, Pc.wd (Str.ofString "was"), Pc.gap spS] ++ ps ++ [Pc.wd rpar, Pc.wd rpar])
  have h2 := tok_at ((Str.ofString "(turn (was " ++ T) ++ Str.ofString "))") [Pc.wd lpar, Pc.wd kTurn, Pc.gap spS] lpar ([Pc.wd (Str.ofString "was"), Pc.gap spS] ++ ps ++ [Pc.wd rpar, Pc.wd rpar])
  have h3 := tok_at ((Str.ofString "(turn (was " ++ T) ++ Str.ofString "))") [Pc.wd lpar, Pc.wd kTurn, Pc.gap spS, Pc.wd lpar] (Str.ofString "was") ([Pc.gap spS] ++ ps ++ [Pc.wd rpar, Pc.wd rpar])
  rw [show (rnd [Pc.wd lpar, Pc.wd kTurn, Pc.gap spS, Pc.wd lpar]).length = 7 by decide +kernel] at h3
  exact read_turn_was h0 h1 h2 h3
in #guard_msgs (drop info, drop warning) in open Nat
theorem bad_told : Bad (Str.ofString "(told (a))") 6 := by
  refine ⟨_, ⟨cl_told, sq_told, asc_of (by decide +kernel)⟩, by decide +kernel, ?_⟩
  have h0 := tok_at (Str.ofString "(told (a))") [] lpar [Pc.wd kTold, Pc.gap spS, Pc.wd lpar, Pc.wd (Str.ofString "a"), Pc.wd rpar, Pc.wd rpar]
  have h1 := tok_at (Str.ofString "(told (a))") [Pc.wd lpar] kTold [Pc.gap spS, Pc.wd lpar, Pc.wd (Str.ofString "a"), Pc.wd rpar, Pc.wd rpar]
  have h2 := tok_at (Str.ofString "(told (a))") [Pc.wd lpar, Pc.wd kTold, Pc.gap spS] lpar [Pc.wd (Str.ofString "a"), Pc.wd rpar, Pc.wd rpar]
  rw [show (rnd [Pc.wd lpar, Pc.wd kTold, Pc.gap spS]).length = 6 by decide +kernel] at h2
  exact read_told h0 h1 h2
theorem par_first (h : Txt0 T ps) {l : List Nat} (hc : cl T = 40 :: l) {r : List Str} (hw : wds ps = lpar :: r) (k : Nat) : ∃ r', posn k ps = (lpar, k) :: r' :=
  first_pos k h.sq hw (by rw [← h.e, hc]) (by decide +kernel)
set_option Elab.async true in
theorem bad_two (h : Txt0 T ps) (hz : T.cps.size ≤ 4000) (hw : wds ps = w) (sp : Spell false P w) (g : GoodPp P) (hd : ppDepth P ≤ 4) {l : List Nat} (hc : cl T = 40 :: l) : Bad ((((Str.ofString "(turn " ++ T) ++ Str.ofString " ") ++ T) ++ Str.ofString ")") (T.cps.size + 7) := by
  have z6 : (Str.ofString "(turn ").cps.size = 6 := by decide +kernel
  have q1 := (h.pre cl_turn (fun _ => pre_turn) (asc_of (by decide +kernel))).app (qs := [Pc.gap spS] ++ ps ++ [Pc.wd rpar]) (U := (Str.ofString " " ++ T) ++ Str.ofString ")")
    (by rw [cl_app, cl_app, rnd_app, rnd_app, h.e, show cl (Str.ofString " ") = rnd [Pc.gap spS] by decide +kernel, show cl (Str.ofString ")") = rnd [Pc.wd rpar] by decide +kernel]) (show Sq true (Pc.gap spS :: (ps ++ [Pc.wd rpar])) from sq_sp (h.sq.app (sq_par (.inr rfl) (show Sq false [] from trivial))))
    (fun c hc => by
      rw [cl_app, cl_app] at hc
      rcases List.mem_append.mp hc with hc | hc
      · rcases List.mem_append.mp hc with hc | hc
        · k_extra "c112"
        · exact h.a c hc
      · exact asc_of (by decide +kernel) c hc)
  have ea : (Str.ofString "(turn " ++ T) ++ ((Str.ofString " " ++ T) ++ Str.ofString ")") = (((Str.ofString "(turn " ++ T) ++ Str.ofString " ") ++ T) ++ Str.ofString ")" := by simp only [app_as]
  rw [ea] at q1
  refine ⟨_, q1, by rw [size_app, size_app, size_app, size_app, z6, sz_sp, sz_rp]; omega, ?_⟩
  obtain ⟨r, rfl⟩ := sp.head
  have e : wds ([Pc.wd lpar, Pc.wd kTurn, Pc.gap spS] ++ ps ++ ([Pc.gap spS] ++ ps ++ [Pc.wd rpar])) = [lpar, kTurn] ++ ((lpar :: r) ++ ((lpar :: r) ++ [rpar])) := by simp only [wds_app, hw, wds, List.append_assoc, List.nil_append, List.cons_append]
  generalize hX : (((Str.ofString "(turn " ++ T) ++ Str.ofString " ") ++ T) ++ Str.ofString ")" = X
  obtain ⟨s0, h0⟩ := tok_is (T := X) (ps := [Pc.wd lpar, Pc.wd kTurn, Pc.gap spS] ++ ps ++ ([Pc.gap spS] ++ ps ++ [Pc.wd rpar])) [] lpar _ (by rw [e]; rfl)
  obtain ⟨s1, h1⟩ := tok_is (T := X) (ps := [Pc.wd lpar, Pc.wd kTurn, Pc.gap spS] ++ ps ++ ([Pc.gap spS] ++ ps ++ [Pc.wd rpar])) [lpar] kTurn _ (by rw [e]; rfl)
  refine read_turn (x := lpar) h0 h1 sp g hd (atw [lpar, kTurn] (lpar :: r) _ (by rw [e, List.append_assoc, List.append_assoc])) ?_ (by decide +kernel)
  obtain ⟨r', hr'⟩ := par_first h hc hw (rnd ([Pc.wd lpar, Pc.wd kTurn, Pc.gap spS] ++ ps ++ [Pc.gap spS])).length
  have hl : (rnd ([Pc.wd lpar, Pc.wd kTurn, Pc.gap spS] ++ ps ++ [Pc.gap spS])).length = T.cps.size + 7 := by
    rw [rnd_app, rnd_app, List.length_append, List.length_append, h.len, show (rnd [Pc.wd lpar, Pc.wd kTurn, Pc.gap spS]).length = 6 by decide +kernel, show (rnd [Pc.gap spS]).length = 1 by decide +kernel]; omega
  rw [hl] at hr'
  unfold toksOf
  rw [show [Pc.wd lpar, Pc.wd kTurn, Pc.gap spS] ++ ps ++ ([Pc.gap spS] ++ ps ++ [Pc.wd rpar]) = ([Pc.wd lpar, Pc.wd kTurn, Pc.gap spS] ++ ps ++ [Pc.gap spS]) ++ (ps ++ [Pc.wd rpar]) by simp, posn_app, Nat.zero_add, hl, posn_app ps [Pc.wd rpar], hr', List.append_assoc]
  have hp : (posn 0 ([Pc.wd lpar, Pc.wd kTurn, Pc.gap spS] ++ ps ++ [Pc.gap spS])).length = 2 + (lpar :: r).length := by
    rw [posn_len, wds_app, wds_app, hw]; simp only [wds, List.length_append, List.length_cons, List.length_nil]
    omega
  rw [← hp, List.getElem?_append_right (Nat.le_refl _), Nat.sub_self]
  rfl
in #guard_msgs (drop info, drop warning) in open Nat
set_option Elab.async true in
theorem bad_under (h : Txt0 T ps) (hz : T.cps.size ≤ 4000) {r : List Str} (hw : wds ps = lpar :: r) {l : List Nat} (hc : cl T = 40 :: l) : Bad ((Str.ofString "(under " ++ T) ++ Str.ofString ")") 7 := by
  have q1 := (h.pre cl_und (fun _ => pre_und) (asc_of (by decide +kernel))).app (qs := [Pc.wd rpar]) (U := Str.ofString ")") (by decide +kernel) (sq_par (.inr rfl) trivial) (asc_of (by decide +kernel))
  refine ⟨_, q1, by rw [size_app, size_app, sz_rp, show (Str.ofString "(under ").cps.size = 7 by decide +kernel]; omega, ?_⟩
  have h0 := tok_at ((Str.ofString "(under " ++ T) ++ Str.ofString ")") [] lpar ([Pc.wd kUnder, Pc.gap spS] ++ ps ++ [Pc.wd rpar])
  have h1 := tok_at ((Str.ofString "(under " ++ T) ++ Str.ofString ")") [Pc.wd lpar] kUnder ([Pc.gap spS] ++ ps ++ [Pc.wd rpar])
  refine read_under h0 h1 (s := 7) ?_
  obtain ⟨r', hr'⟩ := par_first h hc hw 7
  unfold toksOf
  rw [List.append_assoc, posn_app, Nat.zero_add, show (rnd [Pc.wd lpar, Pc.wd kUnder, Pc.gap spS]).length = 7 by decide +kernel, posn_app, hr']
  rfl
in #guard_msgs (drop info, drop warning) in open Nat
theorem bad_leaf (h : Txt0 T ps) (hz : T.cps.size ≤ 4000) {x : Str} (hx : isOpS x = true) (hw : wds ps = [x]) (hT : T = x) : Bad T 0 := by
  refine ⟨_, h, by omega, ?_⟩
  obtain ⟨c, l, e, hc⟩ := op_ne hx
  obtain ⟨r', hr'⟩ := first_pos 0 h.sq hw (by rw [← h.e, hT, e]) (by unfold gapC; rw [hc]; rfl)
  exact read_leaf (x := x) (by unfold toksOf; rw [hr']; rfl) (ne_lpar hx)
set_option Elab.async true in
theorem bad_twice (h : Txt0 T ps) (hz : T.cps.size ≤ 4000) (hw : wds ps = w) (sp : Spell false P w) (g : GoodPp P) (hd : ppDepth P ≤ 4) (h' : Txt0 U qs) (hz' : U.cps.size ≤ 4000) (hw' : wds qs = tmWords t) (gt : GoodTm t) (dt : tmDepth t < 3) :
    Bad (((((Str.ofString "(join " ++ T) ++ Str.ofString " (rule r ?x ") ++ U) ++ Str.ofString " ") ++ Str.ofString "?x a))") ((((Str.ofString "(join " ++ T) ++ Str.ofString " (rule r ?x ") ++ U) ++ Str.ofString " ").cps.size := by
  have zr : (Str.ofString " (rule r ?x ").cps.size = 12 := by decide +kernel
  have zj : (Str.ofString "(join ").cps.size = 6 := by decide +kernel
  have zx : (Str.ofString "?x a))").cps.size = 6 := by decide +kernel
  generalize hX : ((((Str.ofString "(join " ++ T) ++ Str.ofString " (rule r ?x ") ++ U) ++ Str.ofString " ") ++ Str.ofString "?x a))" = X
  have hAz : ((((Str.ofString "(join " ++ T) ++ Str.ofString " (rule r ?x ") ++ U) ++ Str.ofString " ").cps.size = 19 + T.cps.size + U.cps.size := by
    simp only [size_app, zr, zj, sz_sp]; omega
  let A : List Pc := [Pc.wd lpar, Pc.wd kJoin, Pc.gap spS] ++ ps ++ [Pc.gap spS, Pc.wd lpar, Pc.wd kRule, Pc.gap spS, Pc.wd (Str.ofString "r"), Pc.gap spS, Pc.wd xName, Pc.gap spS] ++ qs ++ [Pc.gap spS]
  let B : List Pc := [Pc.gap spS, Pc.wd (Str.ofString "a"), Pc.wd rpar, Pc.wd rpar]
  have eA : rnd A = cl (Str.ofString "(join ") ++ cl T ++ cl (Str.ofString " (rule r ?x ") ++ cl U ++ cl (Str.ofString " ") := by
    simp only [A, rnd_app, ← cl_join, ← cl_rule, h.e, h'.e, show cl (Str.ofString " ") = rnd [Pc.gap spS] by decide +kernel]
  have q : Txt0 X (A ++ Pc.wd xName :: B) := by
    refine ⟨?_, ?_, ?_⟩
    · rw [← hX, rnd_app, eA]
      simp only [cl_app]
      rw [show rnd (Pc.wd xName :: B) = cl (Str.ofString "?x a))") by decide +kernel]
    · have := pre_join (h.sq.app (suf_rule (h'.sq.app (sq_sp (b := true) suf_xa))))
      simpa only [A, B, List.append_assoc, List.cons_append, List.nil_append] using this
    · intro c hc
      rw [← hX] at hc
      simp only [cl_app, List.mem_append] at hc
      rcases hc with ((((hc | hc) | hc) | hc) | hc) | hc
      · k_extra "c112"
      · exact h.a c hc
      · k_extra "c112"
      · exact h'.a c hc
      · k_extra "c112"
      · k_extra "c112"
  refine ⟨_, q, by rw [← hX, size_app, hAz, zx]; omega, ?_⟩
  have k := tok_at X A xName B
  have eW : wds A = [lpar, kJoin] ++ (w ++ (lpar :: kRule :: Str.ofString "r" :: xName :: tmWords t)) := by
    simp only [A, wds_app, hw, hw', wds, List.append_assoc, List.nil_append, List.cons_append, List.append_nil]
  have eL : (rnd A).length = ((((Str.ofString "(join " ++ T) ++ Str.ofString " (rule r ?x ") ++ U) ++ Str.ofString " ").cps.size := by
    rw [eA, ← cl_len]; simp only [cl_app]
  rw [eL, eW] at k
  have eF : wds (A ++ Pc.wd xName :: B) ++ [nils] = [lpar, kJoin] ++ ((w ++ (lpar :: kRule :: Str.ofString "r" :: xName :: tmWords t)) ++ (xName :: (wds B ++ [nils]))) := by
    rw [wds_app, eW]; simp only [wds, List.append_assoc, List.nil_append, List.cons_append]
  obtain ⟨s0, h0⟩ := tok_is (T := X) (ps := A ++ Pc.wd xName :: B) [] lpar _ (by rw [eF]; rfl)
  obtain ⟨s1, h1⟩ := tok_is (T := X) (ps := A ++ Pc.wd xName :: B) [lpar] kJoin _ (by rw [eF]; rfl)
  refine read_twice ops.2.1 sp g hd gt dt h0 h1 (atw [lpar, kJoin] _ _ eF) ?_
  rw [← k]
  congr 1
  simp only [List.length_append, List.length_cons, List.length_nil]; omega
in #guard_msgs (drop info, drop warning) in open Nat
end
theorem ePL61 : True := trivial
end Mine
-- PL9
namespace Mine
example : True := by
  k_with "fk" => first | ((fail_if_success have hzz := ePL91); (with_reducible (first | exact fk177 (by assumption) | exact fk178 (by assumption)))) | fail
  trivial
set_option Elab.async true in
theorem slice_cut {T T' : Str} {c : Nat} (h : cl T = cl T' ++ [c]) : Txt.slice T none (some (-1)) = T' := by
  have hn : T.cps.size = T'.cps.size + 1 := by rw [← cl_len, h, List.length_append, cl_len]; rfl
  have e : Builtin.Str.strSliceIndices none (some (-1)) 1 T.cps.size = Builtin.Str.strSliceIndices (some ((0 : Nat) : Int)) (some ((T'.cps.size : Nat) : Int)) 1 T.cps.size := by
    unfold Builtin.Str.strSliceIndices
    simp only [show (1 : Int) > 0 by decide, if_true, show ((-1 : Int) < 0) by decide]
    have h2 : ¬ ((T'.cps.size : Int) < 0) := by omega
    rw [if_neg h2, hn]
    congr 1
    all_goals (push_cast; omega)
  have k := slice_rng T 0 T'.cps.size (Nat.zero_le _) (by omega)
  have g : Txt.slice T none (some (-1)) = Txt.slice T (some ((0 : Nat) : Int)) (some ((T'.cps.size : Nat) : Int)) := by
    unfold Txt.slice
    rw [show T.length = T.cps.size from rfl, e]
  rw [g]
  refine cl_inj ?_
  rw [k, h, List.extract_eq_take_drop, List.drop_zero, Nat.sub_zero, ← cl_len, List.take_left]
in #guard_msgs (drop info, drop warning) in open Nat
theorem ePL91 : True := trivial
end Mine
-- PaperT0
namespace Mine
example : True := by
  k_with "omega" => first | ((fail_if_success have hzz := ePaperT01); (first | k_extra "ub" | (simp +arith only; done) | k_extra "fk" | lia | omega (config := {}))) | fail
  trivial
example : True := by
  k_with "fk" => first | ((fail_if_success have hzz := ePaperT01); (with_reducible (first | exact fk179 (by assumption) (by assumption) (by assumption) (by assumption) | exact fk180 (by assumption) | exact fk181 (by assumption) (by assumption) (by assumption) (by assumption) | exact fk182 (by assumption) (by assumption) (by assumption) | exact fk183 (by assumption) | exact fk184 (by assumption) (by assumption) (by assumption) | exact fk185 (by assumption) (by assumption) (by assumption) | exact fk186 (by assumption) | exact fk187 (by assumption) (by assumption) | exact fk188 (by assumption) (by assumption) (by assumption) | exact fk189 (by assumption) (by assumption) (by assumption) | exact fk190 (by assumption) (by assumption) | exact fk191 (by assumption) (by assumption)))) | fail
  trivial
open LCg
noncomputable def rowZ : List (Str × Tm) → Nat
  | [] => 0
  | (x, t) :: ps => x.cps.size + tmZ t + 2 + rowZ ps
noncomputable def ppZ : Pp → Nat
  | .told l => l.cps.size + 10
  | .same t => tmZ t + 10
  | .rule l ps => l.cps.size + rowZ ps + 11
  | .turn p => ppZ p + 10
  | .join p q => ppZ p + ppZ q + 10
  | .under0 l => l.cps.size + 11
  | .under1 l p => l.cps.size + ppZ p + 12
  | .under2 l p q => l.cps.size + ppZ p + ppZ q + 12
theorem kind_sz : kSame.cps.size = 4 ∧ kTold.cps.size = 4 ∧ kRule.cps.size = 4 ∧ kTurn.cps.size = 4 ∧ kJoin.cps.size = 4 ∧ kUnder.cps.size = 5 := by decide +kernel
theorem joinZ_app (a b : List Str) : joinZ (a ++ b) = joinZ a + joinZ b := by simp only [joinZ, List.map_append, List.sum_append, List.length_append]; omega
theorem joinZ_cons (a : Str) (b : List Str) : joinZ (a :: b) = a.cps.size + 1 + joinZ b := by simp only [joinZ, List.map_cons, List.sum_cons, List.length_cons, lenS]; omega
theorem joinZ_nil : joinZ [] = 0 := rfl
theorem wrap_len (ys : List Str) : (wrapS ys).cps.size ≤ joinZ ys + 2 := by
  have := join_len ys
  unfold wrapS
  rw [size_app, size_app, sz_lp, sz_rp]; omega
theorem row_len : ∀ ps : List (Str × Tm), joinZ (ps.map pairS) ≤ rowZ ps
  | [] => Nat.le_refl _
  | (x, t) :: ps => by
    have h1 := row_len ps
    have h2 := tmText_le t
    simp only [List.map_cons, joinZ_cons, rowZ, pairS, size_app]
    have h3 : spS.cps.size = 1 := sz_sp
    omega
theorem ppTx_len : ∀ (p : Pp) (b : Bool), joinZ (ppTx b p) ≤ ppZ p
  | .told l, b => by
    k_extra "c26"
    have := wrap_len [kTold, l]
    k_extra "c38"
  | .same t, b => by
    k_extra "c26"
    have := wrap_len [kSame, tmText t]
    have h := tmText_le t
    k_extra "c38"
  | .rule l ps, b => by
    k_extra "c26"
    have := wrap_len (kRule :: l :: ps.map pairS)
    have h := row_len ps
    k_extra "c38"
  | .turn p, b => by
    k_extra "c26"
    have := wrap_len (kTurn :: ppTx false p)
    have h := ppTx_len p false
    k_extra "c38"
  | .join p q, true => by
    have h := ppTx_len p true
    have h' := ppTx_len q false
    simp only [ppTx, joinZ_app, ppZ]; omega
  | .join p q, false => by
    k_extra "c26"
    have := wrap_len (kJoin :: (ppTx true p ++ ppTx false q))
    have h := ppTx_len p true
    have h' := ppTx_len q false
    simp only [ppTx, joinZ_cons, joinZ_nil, joinZ_app, ppZ] at this ⊢; omega
  | .under0 l, b => by
    k_extra "c26"
    have := wrap_len [kUnder, l]
    k_extra "c38"
  | .under1 l p, b => by
    k_extra "c26"
    have := wrap_len (kUnder :: l :: ppTx false p)
    have h := ppTx_len p false
    k_extra "c38"
  | .under2 l p q, b => by
    k_extra "c26"
    have := wrap_len (kUnder :: l :: (ppTx false p ++ ppTx false q))
    have h := ppTx_len p false
    have h' := ppTx_len q false
    cases b <;> (simp only [ppTx, joinZ_cons, joinZ_nil, joinZ_app, ppZ] at this ⊢; omega)
theorem ppText_len (p : Pp) : (ppText p).cps.size ≤ ppZ p := by
  have := ppTx_len p false
  rw [ppTx_text, joinZ_cons] at this; omega
noncomputable def OutT (news : Led) (x : Str) (r : Value) (nw : Led) : Prop := ∃ tk, r = .str x tk ∧ nw = news
noncomputable def PTC (w : World) (mean : ExcName → Option Value) (mg mb : Str → Option Value) (p : Pp) : Prop := ∀ (v : Value) (news : Led), IsPp news v p → ppZ p ≤ 100000 → Tri LAW hd.heap_39 w mean mg mb 279 [v] (ppDepth p + 12) (80 * (ppDepth p + 12)) news (OutT news (ppText p))
set_option Elab.async true in
theorem pt_use {w : World} {mean : ExcName → Option Value} {mg mb : Str → Option Value} {dp un : Nat} {gd : Option (List Code)} {cn : Str} {cs : Scope} {a : Addr} {ccd : Value} {cl : List (Str × Addr)} {outer : List Env} {A₀ : Around} {base h₀ : Heap} {L : Addr} {m : Str → Option Value} {s : Shared} {Q E : Value → Shared → Prop} {p : Pp} {v : Value} {all : Led} (B : Below A₀ base outer h₀) (F : Fr h₀ L s.heap m) (X : (hd.heap_39 w.params).In h₀) (N : News h₀ L s.heap all) (T : Top view (looseW view []) mean mg mb h₀) (hk : cs.kind = .function) (hv : IsPp all v p) (C : PTC w mean mg mb p)
    (hl : ppZ p ≤ 100000) (hd : dp + (ppDepth p + 12) < recursionLimit) (hu : un + 80 * (ppDepth p + 12) < cLine)
    (h : ∀ tk h' tk', Fr h₀ L h' m → News h₀ L h' all → Q (.str (ppText p) tk) { s with heap := h', toks := tk' }) :
    wpAny (model PySem.Challenge.rw_pq0122_01.row.prog w) (ktrTop dp un gd cn cs L a ccd cl outer) (call (.ref 279) [v]) Q E s := by
  k_extra "c75"
  rintro r news' h' tk' F' N' ⟨tk, rfl, rfl⟩
  exact h tk h' tk' F' N'
in #guard_msgs (drop info, drop warning) in open Nat
set_option Elab.async true in
theorem src_txt {prog : Program} {w : World} {A : Around} {h₀ : Heap} {L : Addr} {m : Str → Option Value} {env : Env} {elt : Expr} {x : Str} {px : Pos} {scope : Scope} {cl : List (Str × Addr)} {Fin : Shared → List Value → Led → Prop} {s₁ : Shared}
    {ax : Addr} {oS : Obj} {us : List Value} {ps : List Pp} {rest : Led} (hh : A.handled = none) (F : Fr h₀ L s₁.heap m) (N : News h₀ L s₁.heap rest)
    (hax : (ax, oS) ∈ rest) (hO : SrcO oS us.toArray) (hU : PpsAre rest us ps) (hx : scope.names.lookup x = some .local)
    (hend : ∀ (g : Heap) ys, StrsAre ys (ps.map ppText) → Fin { s₁ with heap := g } ys rest)
    (step : ∀ ys (Next : Value → Led → Prop) v p, p ∈ ps → IsPp rest v p → ys.length ≤ ps.length → (∀ tk, Next (.str (ppText p) tk) rest) →
      ∀ I oI C oC D m₂ h tk (E' : Value → Shared → Prop), NsObj oC m₂ → m₂ x = some v → Fr h₀ L h m → News h₀ L h ((I, oI) :: (C, oC) :: (D, lst ys) :: rest) → Off3 I C D rest → ((@Ne Nat I C) ∧ (@Ne Nat I D) ∧ (@Ne Nat C D)) →
      wpAny (model prog w) A (eval elt (compEnvC scope cl C env)) (CompEnd1 h₀ L m { s₁ with heap := h, toks := tk } I oI C oC D ys (fun nw => (ax, oS) ∈ nw ∧ True) Next) E' { s₁ with heap := h, toks := tk }) :
    Src1 prog w A h₀ L m env (.Name x px) elt scope cl Fin (.ref ax) s₁ := by
  refine ⟨ax, us.toArray, oS, rest, _, _, rfl, hh, F, N, hax, hO, .name hx, trivial, fun g => ?_⟩
  k_extra "c44"
  rw [hlen]
  refine rest1_ind (fun i ys nw => nw = rest ∧ StrsAre ys ((ps.take i).map ppText)) ⟨rfl, .nil⟩ ?_ ?_
  · rintro ys nw ⟨rfl, hS⟩
    rw [List.take_length] at hS
    exact hend g ys hS
  · rintro i ys nw Next hi ⟨rfl, hS⟩ hn I oI C oC D m₂ h tk E' hC ⟨v, hv, hxv⟩ F9 N9 off ne
    obtain ⟨p, hp, hI⟩ := hU.get (i := i) (v := v) (by simpa using hv)
    k_extra "c116"
    exact step ys Next v p (List.mem_of_getElem? hp) hI hyl (fun tk => hn _ _ ⟨rfl, by rw [take_snoc hp, List.map_append]; exact StrsAre.append hS (.cons _ _ .nil)⟩) I oI C oC D m₂ h tk E' hC hxv F9 N9 off ne
in #guard_msgs (drop info, drop warning) in open Nat
set_option Elab.async true in
theorem src_prs {prog : Program} {w : World} {A : Around} {h₀ : Heap} {L : Addr} {m : Str → Option Value} {env : Env} {elt : Expr} {x x₂ : Str} {px px₂ tp : Pos} {tk} {scope : Scope} {cl : List (Str × Addr)} {Fin : Shared → List Value → Led → Prop} {s₁ : Shared}
    {ax : Addr} {oS : Obj} {us : List Value} {ps : List (Str × Tm)} {rest : Led} (hh : A.handled = none) (F : Fr h₀ L s₁.heap m) (N : News h₀ L s₁.heap rest)
    (hax : (ax, oS) ∈ rest) (hO : SrcO oS us.toArray) (hU : IsRow rest us ps) (hx : scope.names.lookup x = some .local) (hx₂ : scope.names.lookup x₂ = some .local) (hxx : x ≠ x₂)
    (hend : ∀ (g : Heap) ys, StrsAre ys (ps.map pairS) → Fin { s₁ with heap := g } ys rest)
    (step : ∀ ys (Next : Value → Led → Prop) (S : Led → Prop) y t yt tv, (y, t) ∈ ps → IsTm rest tv t → ys.length ≤ ps.length → (∀ nw, (∀ p ∈ rest, p ∈ nw) → S nw) → (∀ tk, Next (.str (pairS (y, t)) tk) rest) →
      ∀ I oI C oC D m₂ h tk (E' : Value → Shared → Prop), NsObj oC m₂ → m₂ x = some (.str y yt) → m₂ x₂ = some tv → Fr h₀ L h m → News h₀ L h ((I, oI) :: (C, oC) :: (D, lst ys) :: rest) → Off3 I C D rest → ((@Ne Nat I C) ∧ (@Ne Nat I D) ∧ (@Ne Nat C D)) →
      wpAny (model prog w) A (eval elt (compEnvC scope cl C env)) (CompEnd1 h₀ L m { s₁ with heap := h, toks := tk } I oI C oC D ys S Next) E' { s₁ with heap := h, toks := tk }) :
    Src1 prog w A h₀ L m env (.Tuple [.Name x px, .Name x₂ px₂] tk tp) elt scope cl Fin (.ref ax) s₁ := by
  obtain ⟨pv, hpv⟩ := hU.pairs
  k_extra "c46"
  · obtain ⟨t, n, _, _, _, rfl, hm, _⟩ := hpv i v (by simpa using e)
    exact ⟨t, n, rfl, hm⟩
  k_extra "c44"
  rw [hlen]
  refine rest1_ind (fun i ys nw => nw = rest ∧ StrsAre ys ((ps.take i).map pairS)) ⟨rfl, .nil⟩ ?_ ?_
  · rintro ys nw ⟨rfl, hS⟩
    rw [List.take_length] at hS
    exact hend g ys hS
  · rintro i ys nw Next hi ⟨rfl, hS⟩ hn I oI C oC D m₂ h tk9 E' hC ⟨hx1, hx2⟩ F9 N9 off ne
    k_extra "c117"
    k_extra "c148"
    k_extra "c116"
    rw [e2] at hx1
    refine step ys Next _ y tm yt _ (List.mem_of_getElem? hp) hT hyl (fun nw hk => ⟨hk _ hax, fun i v e => ?_⟩) (fun tk => hn _ _ ⟨rfl, by rw [take_snoc hp, List.map_append]; exact StrsAre.append hS (.cons _ _ .nil)⟩) I oI C oC D m₂ h tk9 E' hC hx1 hx2 F9 N9 off ne
    obtain ⟨t, n, _, _, _, rfl, hm, _⟩ := hpv i v (by simpa using e)
    exact ⟨t, n, rfl, hk _ hm⟩
in #guard_msgs (drop info, drop warning) in open Nat
theorem ePaperT01 : True := trivial
end Mine
-- PaperT1
namespace Mine
open LCg
example : True := by
  k_with "k_all" => first | ((fail_if_success have hzz := ePaperT11); (first | with_reducible assumption | with_reducible exact List.forall_mem_nil _ | ((with_reducible refine List.forall_mem_cons.mpr ⟨?_, ?_⟩) <;> first | exact ne_ltR (by with_reducible assumption) | exact ne_ofR (by with_reducible assumption) (by k_mem) | exact ne_ofA (by with_reducible assumption) (by k_mem) | exact off3_I (by with_reducible assumption) (by k_mem) | exact off3_C (by with_reducible assumption) (by k_mem) | exact off3_D (by with_reducible assumption) (by k_mem) | exact Nat.ne_of_lt (by with_reducible assumption) | exact ne_ofL (by with_reducible assumption) (by k_mem) | exact ne_S (by with_reducible assumption) | exact ne_SS (by with_reducible assumption) | k_ne | k_all) | exact fun q hq => Nat.ne_of_lt (ktn_ltOf (by with_reducible assumption) q hq) | exact fun q hq => ne_allW (by with_reducible assumption) q (by k_mem) | ((with_reducible refine List.forall_mem_append.mpr ⟨?_, ?_⟩) <;> k_all) | exact fun p hp => Above.atW (by with_reducible assumption) (by k_mem) hp | exact fun q hq => Nat.ne_of_lt (ktn_ltOf (by assumption) q hq) | assumption)) | fail
  k_with "k_mem" => first | ((fail_if_success have hzz := ePaperT11); (first | ((repeat (first | exact List.Mem.head _ | apply List.Mem.tail | apply mem_inr | with_reducible assumption | assumption)); done) | exact mem_upW (by with_reducible assumption) (fun p hp => by (simp only [List.mem_cons, List.mem_append, hp, true_or, or_true]; done)))) | fail
  k_with "k_room" => first | ((fail_if_success have hzz := ePaperT11); (ktr_room)) | fail
  k_with "ktr_room" => first | ((fail_if_success have hzz := ePaperT11); (first | ((try dsimp only [ktrTop]); omega) | ((try dsimp only [ktrTop]); (simp only [tmDepth] at *); omega))) | fail
  k_with "ktr_units" => first | ((fail_if_success have hzz := ePaperT11); (first | ((try dsimp only [ktrTop]); omega) | ((try dsimp only [ktrTop]); (simp only [tmDepth] at *); omega))) | fail
  k_with "call ref" => first | ((fail_if_success have hzz := ePaperT11); (k_here; refine stuck_of ?_)) | fail
  k_with "callWith ref cons nil" => first | ((fail_if_success have hzz := ePaperT11); (k_here; k_dflt (first | (refine callWith_K0 (by k_in) (by k_is) ?_; k_whole) | (refine callWith_K (by k_asm) (by k_is) ?_; k_whole)))) | fail
  k_with "k_in" => first | ((fail_if_success have hzz := ePaperT11); (first | with_reducible assumption | with_reducible exact Frag.In.keeps (by with_reducible assumption) (Fr.keep (by with_reducible assumption)) | exact Frag.In.keeps (by k_asm) (Fr.keep (by k_asm)))) | fail
  k_with "Src2" => first | ((fail_if_success have hzz := ePaperT11); (k_here; refine stuck_of ?_)) | fail
  k_with "Src1" => first | ((fail_if_success have hzz := ePaperT11); (k_here; refine stuck_of ?_)) | fail
  k_with "eval ListComp" => first | ((fail_if_success have hzz := ePaperT11); (k_here; k_dflt (first | refine ListComp_2 (by k_asm) (by with_unfolding_all rfl) (by decide) (by rfl) (by decide) (by rfl) ?_ (by decide) (by intro _; rfl) (by intro _ _; rfl) | refine ListComp_1 (by k_asm) (by with_unfolding_all rfl) (by decide) (by rfl) (by decide) ?_ (by intro _; rfl)))) | fail
  k_with "CompRest2" => first | ((fail_if_success have hzz := ePaperT11); (k_dflt (refine comp2_succ ?_); intro qI9 qoI9 qC9 qoC9 qD9 qm9 qh9 qtk9 qE9 qhC9 qhG9 qF9 qN9 qoff9 qne9; obtain ⟨qv9, qhv9, qhx9⟩ := qhG9; (simp only [List.getElem?_toArray, List.getElem?_cons_zero, List.getElem?_cons_succ, Nat.zero_add, Option.some.injEq] at qhv9); subst qhv9)) | fail
  k_with "CompEnd2" => first | ((fail_if_success have hzz := ePaperT11); ((repeat (with_reducible rename _ ∧ _ => qhc9; obtain ⟨_, _⟩ := qhc9)); k_dflt (refine comp2_end (by k_asm) (by k_asm) (by k_extra "c3") (by k_extra "c3") (by k_extra "c3") (by k_extra "c6") (by k_extra "c13") (by k_mem) (by k_extra "c16") ?_); (try dsimp only); (try with_reducible_and_instances (refine comp2_zero ?_)); (try simp only [List.nil_append]))) | fail
  k_with "CompEnd1" => first | ((fail_if_success have hzz := ePaperT11); (refine stuck_of ?_)) | fail
  k_with "CompRest1" => first | ((fail_if_success have hzz := ePaperT11); (k_dflt (refine comp1_succ ?_); intro qI9 qoI9 qC9 qoC9 qD9 qm9 qh9 qtk9 qE9 qhC9 qhG9 qF9 qN9 qoff9 qne9; obtain ⟨qv9, qhv9, qhx9⟩ := qhG9; (simp only [List.getElem?_toArray, List.getElem?_cons_zero, List.getElem?_cons_succ, Nat.zero_add, Option.some.injEq] at qhv9); subst qhv9)) | fail
  k_with "CompEnd1" => first | ((fail_if_success have hzz := ePaperT11); ((repeat (with_reducible rename _ ∧ _ => qhc9; obtain ⟨_, _⟩ := qhc9)); k_dflt (refine comp1_end (by k_asm) (by k_asm) (by k_extra "c3") (by k_extra "c3") (by k_extra "c3") (by k_extra "c6") (by k_extra "c13") (by k_extra "c16") ?_); (try dsimp only); (try with_reducible_and_instances (refine comp1_zero ?_)); (try simp only [List.nil_append]))) | fail
  k_with "call ref" => first | ((fail_if_success have hzz := ePaperT11); (k_here; (with_reducible show wpAny _ _ (call (Value.ref 274) _) _ _ _); first | (k_dflt (refine tt_use (by k_asm) (by k_asm) (by k_asm) (by k_asm) (by k_asm) (by k_extra "c9") (IsTm.mono (by assumption) (fun p hp => by simp only [List.mem_cons, List.mem_append, hp, true_or, or_true])) (tt_tri _ _ _ _ _) (by omega) (by ktr_room) (by ktr_units) ?_); intro qtk9 qh9 qtk9' qF9 qN9; (try k_sweep); (try k_fold)) | refine stuck_of ?_)) | fail
  k_with "call ref" => first | ((fail_if_success have hzz := ePaperT11); (k_here; (with_reducible show wpAny _ _ (call (Value.ref 279) _) _ _ _); first | (k_dflt (refine pt_use (by k_asm) (by k_asm) (by k_asm) (by k_asm) (by k_asm) (by k_extra "c9") (IsPp.mono (by assumption) (fun p hp => by simp only [List.mem_cons, List.mem_append, hp, true_or, or_true])) (by assumption) (by omega) (by ktr_room) (by ktr_units) ?_); intro qtk9 qh9 qtk9' qF9 qN9; (try k_sweep); (try k_fold)) | refine stuck_of ?_)) | fail
  k_with "call builtin:str.join" => first | ((fail_if_success have hzz := ePaperT11); (k_here; k_dflt (refine m_join (by k_asm) (by k_mem) (by k_extra "c45") (by k_extra "c27") ?_); intro qt9 qtk9)) | fail
  k_with "binaryOp Add str str" => first | ((fail_if_success have hzz := ePaperT11); (k_here; with_reducible (refine m_addS (by k_extra "c57") ?_); intro qt9 qtk9)) | fail
  k_with "binaryOp Add ref ref" => first | ((fail_if_success have hzz := ePaperT11); (k_here; k_dflt (refine m_addL (by k_asm) (by k_asm) (by k_mem) (by k_mem) (by k_extra "c16") ?_); intro qD' qh' qF' qN' ql1; (try k_lt ql1); (try k_sweep))) | fail
  k_with "eval ListComp Call cons" => first | ((fail_if_success have hzz := ePaperT11); (k_here; k_dflt (refine ListComp_1 (by k_asm) (by with_unfolding_all rfl) (by decide) (by rfl) (by decide) ?_ (by intro _; rfl)))) | fail
  k_with "eval ListComp BinOp cons" => first | ((fail_if_success have hzz := ePaperT11); (k_here; k_dflt (refine ListComp_1 (by k_asm) (by with_unfolding_all rfl) (by decide) (by rfl) (by decide) ?_ (by intro _; rfl)))) | fail
  k_with "ite" => first | ((fail_if_success have hzz := ePaperT11); (k_here; first | (with_reducible refine ite_pos (by assumption) ?_) | (with_reducible refine ite_neg (by assumption) ?_) | (with_reducible refine ite_pos (by k_dflt rfl) ?_) | (with_reducible refine ite_isFalse (by k_dflt rfl) ?_))) | fail
  k_with "call builtin:list.append" => first | ((fail_if_success have hzz := ePaperT11); (k_here; k_dflt (refine m_append (by k_asm) (by k_asm) (by k_extra "c3") (by k_all) (by simp; try omega) ?_; intro qh' qF' qN'))) | fail
  trivial
namespace Z
example : True := by
  k_with "eps" => first | ((fail_if_success have hzz := zPaperT13); skip) | fail
  trivial
set_option Elab.async true in
set_option maxHeartbeats 1000000 in
theorem pt_told : ∀ (w : World) (mean : ExcName → Option Value) (mg : Str → Option Value) (mb : Str → Option Value) (l : Str) (b : Addr) (t u : Tok) (n : Nat) (news : Led) (hv : (b, tupO [.str kTold t, .str l u] n) ∈ news) (hz : joinZ ([kTold, l]) ≤ 200000), Tri LAW hd.heap_39 w mean mg mb 279 [.ref b] (0 + 12) (80 * (0 + 12)) news (OutT news (wrapS ([kTold, l]))) := by
  intro w mean mg mb l b t u n news hv hz
  k_extra "c11"
  clear hK
  w_top off
  unfold Tri
  k_extra "c14"
  k_extra "c26"
  have zj := join_len ([kTold, l])
  k_extra "c21"
  refine wpAny_call ?_
  k_dflt ktr_enter
  k_steps
  k_extra "c10"
  k_extra "c68"
in #guard_msgs (drop info, drop warning) in open Nat
set_option Elab.async true in
set_option maxHeartbeats 1000000 in
theorem pt_same : ∀ (w : World) (mean : ExcName → Option Value) (mg : Str → Option Value) (mb : Str → Option Value) (x : Tm) (v : Value) (b : Addr) (t : Tok) (n : Nat) (hx3 : tmDepth x < 4) (hxz : tmZ x ≤ 100000) (news : Led) (hv : (b, tupO [.str kSame t, v] n) ∈ news) (hx : IsTm news v x) (hz : joinZ ([kSame, tmText x]) ≤ 200000), Tri LAW hd.heap_39 w mean mg mb 279 [.ref b] (0 + 12) (80 * (0 + 12)) news (OutT news (wrapS ([kSame, tmText x]))) := by
  intro w mean mg mb x v b t n hx3 hxz news hv hx hz
  k_extra "c11"
  clear hK
  w_top off
  unfold Tri
  k_extra "c14"
  k_extra "c26"
  have zj := join_len ([kSame, tmText x])
  k_extra "c21"
  refine wpAny_call ?_
  k_dflt ktr_enter
  k_steps
  k_extra "c10"
  k_extra "c68"
in #guard_msgs (drop info, drop warning) in open Nat
set_option Elab.async true in
set_option maxHeartbeats 1000000 in
theorem pt_under : ∀ (w : World) (mean : ExcName → Option Value) (mg : Str → Option Value) (mb : Str → Option Value) (l : Str) (us : List Value) (ps : List Pp) (Dm : Nat) (b c : Addr) (t u : Tok) (n n' : Nat) (hC : ∀ q ∈ ps, PTC w mean mg mb q) (hD : ∀ q ∈ ps, ppDepth q + 1 ≤ Dm ∧ ppZ q ≤ 100000) (hl : ps.length ≤ 1000) (news : Led) (hv : (b, tupO [.str kUnder t, .str l u, .ref c] n) ∈ news) (hc : (c, tupO us n') ∈ news) (hU : PpsAre news us ps) (hz : joinZ (kUnder :: l :: ps.map ppText) ≤ 200000), Tri LAW hd.heap_39 w mean mg mb 279 [.ref b] (Dm + 12) (80 * (Dm + 12)) news (OutT news (wrapS (kUnder :: l :: ps.map ppText))) := by
  intro w mean mg mb l us ps Dm b c t u n n' hC hD hl news hv hc hU hz
  k_extra "c11"
  clear hK
  w_top off
  unfold Tri
  k_extra "c14"
  k_extra "c26"
  have zj := join_len (kUnder :: l :: ps.map ppText)
  k_extra "c21"
  refine wpAny_call ?_
  k_dflt ktr_enter
  k_steps
  refine ⟨?_⟩
  refine src_txt (by rfl) (by k_asm) (by k_asm) (by k_mem) (.inr ⟨_, rfl⟩) (PpsAre.mono hU (fun p hp => by simp only [List.mem_cons, List.mem_append, hp, true_or, or_true])) (by rfl) ?_ ?_
  · intro g9 ys9 S9
    have z9 := StrsAre.length S9
    (try simp only [List.length_map] at z9)
    k_steps
    k_extra "c10"
    k_extra "c68"
  · intro ys9 Next9 v9 p9 hp9 hI9 hyl9 hn9 I9 oI9 C9 oC9 D9 m9 h9 tk9 E9 hC9 hx9 F9 N9 off9 ne9
    have C8 := hC p9 hp9
    have d8 := (hD p9 hp9).1
    have l8 := (hD p9 hp9).2
    k_extra "c65"
    k_steps
    exact hn9 _
in #guard_msgs (drop info, drop warning) in open Nat
theorem zPaperT13 : True := trivial
end Z
theorem ePaperT11 : True := trivial
end Mine
-- PaperT2
namespace Mine
open LCg
example : True := by
  k_with "k_all" => first | ((fail_if_success have hzz := ePaperT21); (first | with_reducible assumption | with_reducible exact List.forall_mem_nil _ | ((with_reducible refine List.forall_mem_cons.mpr ⟨?_, ?_⟩) <;> first | exact ne_ltR (by with_reducible assumption) | exact ne_ofR (by with_reducible assumption) (by k_mem) | exact ne_ofA (by with_reducible assumption) (by k_mem) | exact off3_I (by with_reducible assumption) (by k_mem) | exact off3_C (by with_reducible assumption) (by k_mem) | exact off3_D (by with_reducible assumption) (by k_mem) | exact Nat.ne_of_lt (by with_reducible assumption) | exact ne_ofL (by with_reducible assumption) (by k_mem) | exact ne_S (by with_reducible assumption) | exact ne_SS (by with_reducible assumption) | k_ne | k_all) | exact fun q hq => Nat.ne_of_lt (ktn_ltOf (by with_reducible assumption) q hq) | exact fun q hq => ne_allW (by with_reducible assumption) q (by k_mem) | ((with_reducible refine List.forall_mem_append.mpr ⟨?_, ?_⟩) <;> k_all) | exact fun p hp => Above.atW (by with_reducible assumption) (by k_mem) hp | exact fun q hq => Nat.ne_of_lt (ktn_ltOf (by assumption) q hq) | assumption)) | fail
  k_with "k_mem" => first | ((fail_if_success have hzz := ePaperT21); (first | ((repeat (first | exact List.Mem.head _ | apply List.Mem.tail | apply mem_inr | with_reducible assumption | assumption)); done) | exact mem_upW (by with_reducible assumption) (fun p hp => by (simp only [List.mem_cons, List.mem_append, hp, true_or, or_true]; done)))) | fail
  k_with "k_room" => first | ((fail_if_success have hzz := ePaperT21); (ktr_room)) | fail
  k_with "ktr_room" => first | ((fail_if_success have hzz := ePaperT21); (first | ((try dsimp only [ktrTop]); omega) | ((try dsimp only [ktrTop]); (simp only [tmDepth] at *); omega))) | fail
  k_with "ktr_units" => first | ((fail_if_success have hzz := ePaperT21); (first | ((try dsimp only [ktrTop]); omega) | ((try dsimp only [ktrTop]); (simp only [tmDepth] at *); omega))) | fail
  k_with "call ref" => first | ((fail_if_success have hzz := ePaperT21); (k_here; refine stuck_of ?_)) | fail
  k_with "callWith ref cons nil" => first | ((fail_if_success have hzz := ePaperT21); (k_here; k_dflt (first | (refine callWith_K0 (by k_in) (by k_is) ?_; k_whole) | (refine callWith_K (by k_asm) (by k_is) ?_; k_whole)))) | fail
  k_with "k_in" => first | ((fail_if_success have hzz := ePaperT21); (first | with_reducible assumption | with_reducible exact Frag.In.keeps (by with_reducible assumption) (Fr.keep (by with_reducible assumption)) | exact Frag.In.keeps (by k_asm) (Fr.keep (by k_asm)))) | fail
  k_with "Src2" => first | ((fail_if_success have hzz := ePaperT21); (k_here; refine stuck_of ?_)) | fail
  k_with "Src1" => first | ((fail_if_success have hzz := ePaperT21); (k_here; refine stuck_of ?_)) | fail
  k_with "eval ListComp" => first | ((fail_if_success have hzz := ePaperT21); (k_here; k_dflt (first | refine ListComp_2 (by k_asm) (by with_unfolding_all rfl) (by decide) (by rfl) (by decide) (by rfl) ?_ (by decide) (by intro _; rfl) (by intro _ _; rfl) | refine ListComp_1 (by k_asm) (by with_unfolding_all rfl) (by decide) (by rfl) (by decide) ?_ (by intro _; rfl)))) | fail
  k_with "CompRest2" => first | ((fail_if_success have hzz := ePaperT21); (k_dflt (refine comp2_succ ?_); intro qI9 qoI9 qC9 qoC9 qD9 qm9 qh9 qtk9 qE9 qhC9 qhG9 qF9 qN9 qoff9 qne9; obtain ⟨qv9, qhv9, qhx9⟩ := qhG9; (simp only [List.getElem?_toArray, List.getElem?_cons_zero, List.getElem?_cons_succ, Nat.zero_add, Option.some.injEq] at qhv9); subst qhv9)) | fail
  k_with "CompEnd2" => first | ((fail_if_success have hzz := ePaperT21); ((repeat (with_reducible rename _ ∧ _ => qhc9; obtain ⟨_, _⟩ := qhc9)); k_dflt (refine comp2_end (by k_asm) (by k_asm) (by k_extra "c3") (by k_extra "c3") (by k_extra "c3") (by k_extra "c6") (by k_extra "c13") (by k_mem) (by k_extra "c16") ?_); (try dsimp only); (try with_reducible_and_instances (refine comp2_zero ?_)); (try simp only [List.nil_append]))) | fail
  k_with "CompEnd1" => first | ((fail_if_success have hzz := ePaperT21); (refine stuck_of ?_)) | fail
  k_with "CompRest1" => first | ((fail_if_success have hzz := ePaperT21); (k_dflt (refine comp1_succ ?_); intro qI9 qoI9 qC9 qoC9 qD9 qm9 qh9 qtk9 qE9 qhC9 qhG9 qF9 qN9 qoff9 qne9; obtain ⟨qv9, qhv9, qhx9⟩ := qhG9; (simp only [List.getElem?_toArray, List.getElem?_cons_zero, List.getElem?_cons_succ, Nat.zero_add, Option.some.injEq] at qhv9); subst qhv9)) | fail
  k_with "CompEnd1" => first | ((fail_if_success have hzz := ePaperT21); ((repeat (with_reducible rename _ ∧ _ => qhc9; obtain ⟨_, _⟩ := qhc9)); k_dflt (refine comp1_end (by k_asm) (by k_asm) (by k_extra "c3") (by k_extra "c3") (by k_extra "c3") (by k_extra "c6") (by k_extra "c13") (by k_extra "c16") ?_); (try dsimp only); (try with_reducible_and_instances (refine comp1_zero ?_)); (try simp only [List.nil_append]))) | fail
  k_with "call ref" => first | ((fail_if_success have hzz := ePaperT21); (k_here; (with_reducible show wpAny _ _ (call (Value.ref 274) _) _ _ _); first | (k_dflt (refine tt_use (by k_asm) (by k_asm) (by k_asm) (by k_asm) (by k_asm) (by k_extra "c9") (IsTm.mono (by assumption) (fun p hp => by simp only [List.mem_cons, List.mem_append, hp, true_or, or_true])) (tt_tri _ _ _ _ _) (by omega) (by ktr_room) (by ktr_units) ?_); intro qtk9 qh9 qtk9' qF9 qN9; (try k_sweep); (try k_fold)) | refine stuck_of ?_)) | fail
  k_with "call ref" => first | ((fail_if_success have hzz := ePaperT21); (k_here; (with_reducible show wpAny _ _ (call (Value.ref 279) _) _ _ _); first | (k_dflt (refine pt_use (by k_asm) (by k_asm) (by k_asm) (by k_asm) (by k_asm) (by k_extra "c9") (IsPp.mono (by assumption) (fun p hp => by simp only [List.mem_cons, List.mem_append, hp, true_or, or_true])) (by assumption) (by omega) (by ktr_room) (by ktr_units) ?_); intro qtk9 qh9 qtk9' qF9 qN9; (try k_sweep); (try k_fold)) | refine stuck_of ?_)) | fail
  k_with "call builtin:str.join" => first | ((fail_if_success have hzz := ePaperT21); (k_here; k_dflt (refine m_join (by k_asm) (by k_mem) (by k_extra "c45") (by k_extra "c27") ?_); intro qt9 qtk9)) | fail
  k_with "binaryOp Add str str" => first | ((fail_if_success have hzz := ePaperT21); (k_here; with_reducible (refine m_addS (by k_extra "c57") ?_); intro qt9 qtk9)) | fail
  k_with "binaryOp Add ref ref" => first | ((fail_if_success have hzz := ePaperT21); (k_here; k_dflt (refine m_addL (by k_asm) (by k_asm) (by k_mem) (by k_mem) (by k_extra "c16") ?_); intro qD' qh' qF' qN' ql1; (try k_lt ql1); (try k_sweep))) | fail
  k_with "eval ListComp Call cons" => first | ((fail_if_success have hzz := ePaperT21); (k_here; k_dflt (refine ListComp_1 (by k_asm) (by with_unfolding_all rfl) (by decide) (by rfl) (by decide) ?_ (by intro _; rfl)))) | fail
  k_with "eval ListComp BinOp cons" => first | ((fail_if_success have hzz := ePaperT21); (k_here; k_dflt (refine ListComp_1 (by k_asm) (by with_unfolding_all rfl) (by decide) (by rfl) (by decide) ?_ (by intro _; rfl)))) | fail
  k_with "ite" => first | ((fail_if_success have hzz := ePaperT21); (k_here; first | (with_reducible refine ite_pos (by assumption) ?_) | (with_reducible refine ite_neg (by assumption) ?_) | (with_reducible refine ite_pos (by k_dflt rfl) ?_) | (with_reducible refine ite_isFalse (by k_dflt rfl) ?_))) | fail
  k_with "call builtin:list.append" => first | ((fail_if_success have hzz := ePaperT21); (k_here; k_dflt (refine m_append (by k_asm) (by k_asm) (by k_extra "c3") (by k_all) (by simp; try omega) ?_; intro qh' qF' qN'))) | fail
  trivial
namespace Z
example : True := by
  k_with "eps" => first | ((fail_if_success have hzz := zPaperT23); skip) | fail
  trivial
set_option Elab.async true in
set_option maxHeartbeats 1000000 in
theorem pt_rule : ∀ (w : World) (mean : ExcName → Option Value) (mg : Str → Option Value) (mb : Str → Option Value) (l : Str) (us : List Value) (ps : List (Str × Tm)) (b c : Addr) (t u : Tok) (n n' : Nat) (hps : ∀ x ∈ ps, tmZ x.2 ≤ 100000 ∧ tmDepth x.2 < 3 ∧ x.1.cps.size ≤ 1000) (hl : ps.length ≤ 1000) (news : Led) (hv : (b, tupO [.str kRule t, .str l u, .ref c] n) ∈ news) (hc : (c, tupO us n') ∈ news) (hU : IsRow news us ps) (hz : joinZ (kRule :: l :: ps.map pairS) ≤ 200000), Tri LAW hd.heap_39 w mean mg mb 279 [.ref b] (0 + 12) (80 * (0 + 12)) news (OutT news (wrapS (kRule :: l :: ps.map pairS))) := by
  intro w mean mg mb l us ps b c t u n n' hps hl news hv hc hU hz
  k_extra "c11"
  clear hK
  w_top off
  unfold Tri
  k_extra "c14"
  k_extra "c26"
  have zj := join_len (kRule :: l :: ps.map pairS)
  k_extra "c21"
  refine wpAny_call ?_
  k_dflt ktr_enter
  k_steps
  refine ⟨?_⟩
  refine src_prs (by rfl) (by k_asm) (by k_asm) (by k_mem) (.inr ⟨_, rfl⟩) (IsRow.mono hU (fun p hp => by simp only [List.mem_cons, List.mem_append, hp, true_or, or_true])) (by rfl) (by rfl) (by decide) ?_ ?_
  · intro g9 ys9 S9
    have z9 := StrsAre.length S9
    (try simp only [List.length_map] at z9)
    k_steps
    k_extra "c10"
    k_extra "c68"
  · intro ys9 Next9 SS9 y9 t9 yt9 tv9 hp9 hT9 hyl9 hS9 hn9 I9 oI9 C9 oC9 D9 m9 h9 tk9 E9 hC9 hx9 hx8 F9 N9 off9 ne9
    obtain ⟨d8, d7, d6⟩ := hps _ hp9
    dsimp only at d8 d7 d6
    have l8 := tmText_le t9
    k_extra "c65"
    k_steps
    exact hn9 _
in #guard_msgs (drop info, drop warning) in open Nat
set_option Elab.async true in
set_option maxHeartbeats 1000000 in
theorem pt_turn : ∀ (w : World) (mean : ExcName → Option Value) (mg : Str → Option Value) (mb : Str → Option Value) (p : Pp) (v : Value) (b : Addr) (t : Tok) (n : Nat) (Dm : Nat) (hC : PTC w mean mg mb p) (hD : ppDepth p + 1 ≤ Dm) (hpz : ppZ p ≤ 100000) (news : Led) (hv : (b, tupO [.str kTurn t, v] n) ∈ news) (hU : IsPp news v p) (hz : joinZ ([kTurn, ppText p]) ≤ 200000), Tri LAW hd.heap_39 w mean mg mb 279 [.ref b] (Dm + 12) (80 * (Dm + 12)) news (OutT news (wrapS ([kTurn, ppText p]))) := by
  intro w mean mg mb p v b t n Dm hC hD hpz news hv hU hz
  k_extra "c11"
  clear hK
  w_top off
  unfold Tri
  k_extra "c14"
  k_extra "c26"
  have zj := join_len ([kTurn, ppText p])
  k_extra "c21"
  refine wpAny_call ?_
  k_dflt ktr_enter
  k_steps
  k_extra "c10"
  k_extra "c68"
in #guard_msgs (drop info, drop warning) in open Nat
theorem zPaperT23 : True := trivial
end Z
theorem ePaperT21 : True := trivial
end Mine
-- PaperT3
namespace Mine
example : True := by
  k_with "fk" => first | ((fail_if_success have hzz := ePaperT31); (with_reducible (first | exact fk192 (by assumption) | exact fk193 (by assumption) | exact fk194 (by assumption) (by assumption) (by assumption) | exact fk195 (by assumption) (by assumption) (by assumption) | exact fk196 (by assumption) | exact fk197 (by assumption) | exact fk198 (by assumption) | exact fk199 (by assumption) (by assumption) (by assumption)))) | fail
  trivial
noncomputable def JPI (rest : Led) (t : Tok) (orig : Pp) (Dm n : Nat) (m : Str → Option Value) (nw : Led) : Prop :=
  ∃ (l a : Addr) (v u : Value) (vs : List Value) (p q : Pp) (qs : List Pp) (c : Nat) (tt : Tok) (nn : Nat), m (Str.ofString "row") = some (.ref l) ∧ m (Str.ofString "kind") = some (.str kJoin t) ∧ m (Str.ofString "paper") = some (.ref a) ∧ n = spine p ∧ (l, listOf vs.toArray c) :: rest = nw ∧ (∀ p ∈ rest, p.1 ≠ l) ∧ (a, tupO [.str kJoin tt, v, u] nn) ∈ rest ∧
    IsPp rest v p ∧ PpsAre rest vs.reverse (q :: qs) ∧ joinAll (.join p q) qs = orig ∧ vs.length + spine p ≤ 1000 ∧ ∀ x ∈ p :: q :: qs, GoodPp x ∧ ppDepth x + 1 ≤ Dm ∧ ppZ x + 1 ≤ 100000
theorem ppTx_row {p : Pp} (h : isJoin p = false) : ppTx true p = ppTx false p := by cases p <;> first | rfl | cases h
theorem ppTx_joinAll : ∀ (qs : List Pp) (p : Pp), ppTx true (joinAll p qs) = ppTx true p ++ qs.map ppText
  | [], p => by simp [joinAll]
  | q :: qs, p => by
    show ppTx true (joinAll (.join p q) qs) = _
    rw [ppTx_joinAll qs]
    simp only [ppTx, ppTx_text, List.append_assoc, List.map_cons, List.singleton_append]
theorem row_texts {p q orig : Pp} {qs : List Pp} (h : joinAll (.join p q) qs = orig) (hj : isJoin p = false) : ppTx true orig = (p :: q :: qs).map ppText := by
  rw [← h, ppTx_joinAll]
  simp only [ppTx, ppTx_row hj, ppTx_text, List.map_cons, List.singleton_append, List.cons_append, List.nil_append]
set_option Elab.async true in
theorem jpi_next {rest : Led} {t : Tok} {orig p9 q9 q : Pp} {Dm c : Nat} {m : Str → Option Value} {l a9 : Addr} {v9 u9 : Value} {vs : List Value} {qs : List Pp} {tt : Tok} {nn : Nat}
    (h1 : m (Str.ofString "row") = some (.ref l)) (h2 : m (Str.ofString "kind") = some (.str kJoin t)) (h3 : m (Str.ofString "paper") = some (.ref a9)) (hne : ∀ p ∈ rest, p.1 ≠ l) (hm : (a9, tupO [.str kJoin tt, v9, u9] nn) ∈ rest)
    (hI : IsPp rest v9 p9) (hI' : IsPp rest u9 q9) (hU : PpsAre rest vs.reverse (q :: qs)) (hj : joinAll (.join (.join p9 q9) q) qs = orig) (hv : vs.length + spine (.join p9 q9) ≤ 1000)
    (hall : ∀ x ∈ Pp.join p9 q9 :: q :: qs, GoodPp x ∧ ppDepth x + 1 ≤ Dm ∧ ppZ x + 1 ≤ 100000) : JPI rest t orig Dm (spine p9) m ((l, listOf (vs ++ [u9]).toArray c) :: rest) := by
  refine ⟨l, a9, v9, u9, vs ++ [u9], p9, q9, q :: qs, c, tt, nn, h1, h2, h3, rfl, rfl, hne, hm, hI, by rw [List.reverse_append]; exact .cons hI' hU, hj, by simp only [spine, List.length_append, List.length_cons, List.length_nil] at hv ⊢; omega, fun x hx => ?_⟩
  have h0 := hall _ (.head _)
  simp only [GoodPp, ppDepth, ppZ] at h0
  k_extra "c41"
  · exact ⟨h0.1.1, by omega, by omega⟩
  · rcases List.mem_cons.mp hx with rfl | hx
    · exact ⟨h0.1.2, by omega, by omega⟩
    · exact hall x (.tail _ hx)
in #guard_msgs (drop info, drop warning) in open Nat
theorem ppZ_pos : ∀ p : Pp, 10 ≤ ppZ p
  | .told _ | .same _ | .rule _ _ | .turn _ | .join _ _ | .under0 _ | .under1 _ _ | .under2 _ _ _ => by simp only [ppZ]; omega
theorem ePaperT31 : True := trivial
end Mine
namespace Mine
example : True := by
  k_with "fk" => first | ((fail_if_success have hzz := ePaperT33); (with_reducible (first | exact fk192 (by assumption) | exact fk193 (by assumption) | exact fk194 (by assumption) (by assumption) (by assumption) | exact fk195 (by assumption) (by assumption) (by assumption) | exact fk196 (by assumption) | exact fk197 (by assumption) | exact fk198 (by assumption) | exact fk199 (by assumption) (by assumption) (by assumption)))) | fail
  trivial
open LCg
example : True := by
  k_with "k_all" => first | ((fail_if_success have hzz := ePaperT33); (first | with_reducible assumption | with_reducible exact List.forall_mem_nil _ | ((with_reducible refine List.forall_mem_cons.mpr ⟨?_, ?_⟩) <;> first | exact ne_ltR (by with_reducible assumption) | exact ne_ofR (by with_reducible assumption) (by k_mem) | exact ne_ofA (by with_reducible assumption) (by k_mem) | exact off3_I (by with_reducible assumption) (by k_mem) | exact off3_C (by with_reducible assumption) (by k_mem) | exact off3_D (by with_reducible assumption) (by k_mem) | exact Nat.ne_of_lt (by with_reducible assumption) | exact ne_ofL (by with_reducible assumption) (by k_mem) | exact ne_S (by with_reducible assumption) | exact ne_SS (by with_reducible assumption) | k_ne | k_all) | exact fun q hq => Nat.ne_of_lt (ktn_ltOf (by with_reducible assumption) q hq) | exact fun q hq => ne_allW (by with_reducible assumption) q (by k_mem) | ((with_reducible refine List.forall_mem_append.mpr ⟨?_, ?_⟩) <;> k_all) | exact fun p hp => Above.atW (by with_reducible assumption) (by k_mem) hp | exact fun q hq => Nat.ne_of_lt (ktn_ltOf (by assumption) q hq) | assumption)) | fail
  k_with "k_mem" => first | ((fail_if_success have hzz := ePaperT33); (first | ((repeat (first | exact List.Mem.head _ | apply List.Mem.tail | apply mem_inr | with_reducible assumption | assumption)); done) | exact mem_upW (by with_reducible assumption) (fun p hp => by (simp only [List.mem_cons, List.mem_append, hp, true_or, or_true]; done)))) | fail
  k_with "k_room" => first | ((fail_if_success have hzz := ePaperT33); (ktr_room)) | fail
  k_with "ktr_room" => first | ((fail_if_success have hzz := ePaperT33); (first | ((try dsimp only [ktrTop]); omega) | ((try dsimp only [ktrTop]); (simp only [tmDepth] at *); omega))) | fail
  k_with "ktr_units" => first | ((fail_if_success have hzz := ePaperT33); (first | ((try dsimp only [ktrTop]); omega) | ((try dsimp only [ktrTop]); (simp only [tmDepth] at *); omega))) | fail
  k_with "call ref" => first | ((fail_if_success have hzz := ePaperT33); (k_here; refine stuck_of ?_)) | fail
  k_with "callWith ref cons nil" => first | ((fail_if_success have hzz := ePaperT33); (k_here; k_dflt (first | (refine callWith_K0 (by k_in) (by k_is) ?_; k_whole) | (refine callWith_K (by k_asm) (by k_is) ?_; k_whole)))) | fail
  k_with "k_in" => first | ((fail_if_success have hzz := ePaperT33); (first | with_reducible assumption | with_reducible exact Frag.In.keeps (by with_reducible assumption) (Fr.keep (by with_reducible assumption)) | exact Frag.In.keeps (by k_asm) (Fr.keep (by k_asm)))) | fail
  k_with "Src2" => first | ((fail_if_success have hzz := ePaperT33); (k_here; refine stuck_of ?_)) | fail
  k_with "Src1" => first | ((fail_if_success have hzz := ePaperT33); (k_here; refine stuck_of ?_)) | fail
  k_with "eval ListComp" => first | ((fail_if_success have hzz := ePaperT33); (k_here; k_dflt (first | refine ListComp_2 (by k_asm) (by with_unfolding_all rfl) (by decide) (by rfl) (by decide) (by rfl) ?_ (by decide) (by intro _; rfl) (by intro _ _; rfl) | refine ListComp_1 (by k_asm) (by with_unfolding_all rfl) (by decide) (by rfl) (by decide) ?_ (by intro _; rfl)))) | fail
  k_with "CompRest2" => first | ((fail_if_success have hzz := ePaperT33); (k_dflt (refine comp2_succ ?_); intro qI9 qoI9 qC9 qoC9 qD9 qm9 qh9 qtk9 qE9 qhC9 qhG9 qF9 qN9 qoff9 qne9; obtain ⟨qv9, qhv9, qhx9⟩ := qhG9; (simp only [List.getElem?_toArray, List.getElem?_cons_zero, List.getElem?_cons_succ, Nat.zero_add, Option.some.injEq] at qhv9); subst qhv9)) | fail
  k_with "CompEnd2" => first | ((fail_if_success have hzz := ePaperT33); ((repeat (with_reducible rename _ ∧ _ => qhc9; obtain ⟨_, _⟩ := qhc9)); k_dflt (refine comp2_end (by k_asm) (by k_asm) (by k_extra "c3") (by k_extra "c3") (by k_extra "c3") (by k_extra "c6") (by k_extra "c13") (by k_mem) (by k_extra "c16") ?_); (try dsimp only); (try with_reducible_and_instances (refine comp2_zero ?_)); (try simp only [List.nil_append]))) | fail
  k_with "CompEnd1" => first | ((fail_if_success have hzz := ePaperT33); (refine stuck_of ?_)) | fail
  k_with "CompRest1" => first | ((fail_if_success have hzz := ePaperT33); (k_dflt (refine comp1_succ ?_); intro qI9 qoI9 qC9 qoC9 qD9 qm9 qh9 qtk9 qE9 qhC9 qhG9 qF9 qN9 qoff9 qne9; obtain ⟨qv9, qhv9, qhx9⟩ := qhG9; (simp only [List.getElem?_toArray, List.getElem?_cons_zero, List.getElem?_cons_succ, Nat.zero_add, Option.some.injEq] at qhv9); subst qhv9)) | fail
  k_with "CompEnd1" => first | ((fail_if_success have hzz := ePaperT33); ((repeat (with_reducible rename _ ∧ _ => qhc9; obtain ⟨_, _⟩ := qhc9)); k_dflt (refine comp1_end (by k_asm) (by k_asm) (by k_extra "c3") (by k_extra "c3") (by k_extra "c3") (by k_extra "c6") (by k_extra "c13") (by k_extra "c16") ?_); (try dsimp only); (try with_reducible_and_instances (refine comp1_zero ?_)); (try simp only [List.nil_append]))) | fail
  k_with "call ref" => first | ((fail_if_success have hzz := ePaperT33); (k_here; (with_reducible show wpAny _ _ (call (Value.ref 274) _) _ _ _); first | (k_dflt (refine tt_use (by k_asm) (by k_asm) (by k_asm) (by k_asm) (by k_asm) (by k_extra "c9") (IsTm.mono (by assumption) (fun p hp => by simp only [List.mem_cons, List.mem_append, hp, true_or, or_true])) (tt_tri _ _ _ _ _) (by omega) (by ktr_room) (by ktr_units) ?_); intro qtk9 qh9 qtk9' qF9 qN9; (try k_sweep); (try k_fold)) | refine stuck_of ?_)) | fail
  k_with "call ref" => first | ((fail_if_success have hzz := ePaperT33); (k_here; (with_reducible show wpAny _ _ (call (Value.ref 279) _) _ _ _); first | (k_dflt (refine pt_use (by k_asm) (by k_asm) (by k_asm) (by k_asm) (by k_asm) (by k_extra "c9") (IsPp.mono (by assumption) (fun p hp => by simp only [List.mem_cons, List.mem_append, hp, true_or, or_true])) (by assumption) (by omega) (by ktr_room) (by ktr_units) ?_); intro qtk9 qh9 qtk9' qF9 qN9; (try k_sweep); (try k_fold)) | refine stuck_of ?_)) | fail
  k_with "call builtin:str.join" => first | ((fail_if_success have hzz := ePaperT33); (k_here; k_dflt (refine m_join (by k_asm) (by k_mem) (by k_extra "c45") (by k_extra "c27") ?_); intro qt9 qtk9)) | fail
  k_with "binaryOp Add str str" => first | ((fail_if_success have hzz := ePaperT33); (k_here; with_reducible (refine m_addS (by k_extra "c57") ?_); intro qt9 qtk9)) | fail
  k_with "binaryOp Add ref ref" => first | ((fail_if_success have hzz := ePaperT33); (k_here; k_dflt (refine m_addL (by k_asm) (by k_asm) (by k_mem) (by k_mem) (by k_extra "c16") ?_); intro qD' qh' qF' qN' ql1; (try k_lt ql1); (try k_sweep))) | fail
  k_with "eval ListComp Call cons" => first | ((fail_if_success have hzz := ePaperT33); (k_here; k_dflt (refine ListComp_1 (by k_asm) (by with_unfolding_all rfl) (by decide) (by rfl) (by decide) ?_ (by intro _; rfl)))) | fail
  k_with "eval ListComp BinOp cons" => first | ((fail_if_success have hzz := ePaperT33); (k_here; k_dflt (refine ListComp_1 (by k_asm) (by with_unfolding_all rfl) (by decide) (by rfl) (by decide) ?_ (by intro _; rfl)))) | fail
  k_with "ite" => first | ((fail_if_success have hzz := ePaperT33); (k_here; first | (with_reducible refine ite_pos (by assumption) ?_) | (with_reducible refine ite_neg (by assumption) ?_) | (with_reducible refine ite_pos (by k_dflt rfl) ?_) | (with_reducible refine ite_isFalse (by k_dflt rfl) ?_))) | fail
  k_with "call builtin:list.append" => first | ((fail_if_success have hzz := ePaperT33); (k_here; k_dflt (refine m_append (by k_asm) (by k_asm) (by k_extra "c3") (by k_all) (by simp; try omega) ?_; intro qh' qF' qN'))) | fail
  k_with "subscriptTail Name Slice ref ref" => first | ((fail_if_success have hzz := ePaperT33); (k_here; (with_reducible show wpAny _ _ (subscriptTail _ (PySem.Expr.Slice none none (some _) _) (Value.ref _) (Value.ref _)) _ _ _); k_dflt (refine m_rev (by k_asm) (by k_asm) (by k_mem) (by omega) ?_ (by with_unfolding_all rfl) (by k_extra "c23")); intro qD' qh' qF' qN' ql1; (try k_lt ql1); (try k_sweep))) | fail
  k_with "eval Name" => first | ((fail_if_success have hzz := ePaperT33); (k_here; (with_reducible show wpAny _ _ (eval (PySem.Expr.Name _ _) (envOf _ _ _ _ _)) _ _ _); k_dflt (refine ld (by k_asm) (by assumption) ?_))) | fail
  k_with "exec While" => first | ((fail_if_success have hzz := ePaperT33); (k_here; refine stuck_of ?_)) | fail
  k_with "exec While BoolOp" => first | ((fail_if_success have hzz := ePaperT33); (k_here; refine stuck_of ?_)) | fail
  k_with "exec While BoolOp cons" => first | ((fail_if_success have hzz := ePaperT33); (k_here; refine stuck_of ?_)) | fail
  k_with "exec While BoolOp cons nil" => first | ((fail_if_success have hzz := ePaperT33); (k_here; refine stuck_of ?_)) | fail
  k_with "exec While Compare cons cons" => first | ((fail_if_success have hzz := ePaperT33); (k_here; refine stuck_of ?_)) | fail
  k_with "exec Assign cons ListComp" => first | ((fail_if_success have hzz := ePaperT33); (k_here; k_dflt (refine Assign_1 (by k_asm) (by rfl) (by with_unfolding_all rfl) (by with_unfolding_all rfl) (by decide) (by rfl) (by decide) (by rfl) (by rfl) ?_ (by intro _; rfl)))) | fail
  k_with "compareOp Eq str str" => first | ((fail_if_success have hzz := ePaperT33); (k_here; with_reducible (refine eq_strF (by k_dflt assumption) ?_))) | fail
  k_with "subscriptTail Subscript Name Constant Constant ref int" => first | ((fail_if_success have hzz := ePaperT33); (k_here; k_dflt (refine kba_turn (value' := PySem.Expr.Name (PySem.Str.ofString "x") ⟨0, 0, 0, 0⟩) (fun _ => rfl) ?_); k_dflt (refine m_tup0 (by k_asm) (by k_mem) ?_ (by with_unfolding_all rfl) (by k_extra "c23")))) | fail
  k_with "binaryOp Add ref ref" => first | ((fail_if_success have hzz := ePaperT33); (k_here; k_dflt (refine m_addL (by k_asm) (by k_asm) (by k_mem) (by k_mem) (by (try simp only [List.length_append, List.length_cons, List.length_nil, List.length_reverse]); omega) ?_); intro qD' qh' qF' qN' ql1; (try k_lt ql1); (try k_sweep))) | fail
  trivial
namespace Z
example : True := by
  k_with "eps" => first | ((fail_if_success have hzz := zPaperT36); skip) | fail
  trivial
set_option Elab.async true in
set_option maxHeartbeats 1000000 in
theorem pt_join : ∀ (w : World) (mean : ExcName → Option Value) (mg : Str → Option Value) (mb : Str → Option Value) (p q : Pp) (v u : Value) (b : Addr) (t : Tok) (n : Nat) (Dm : Nat) (hC : ∀ x, GoodPp x → ppDepth x + 1 ≤ Dm → PTC w mean mg mb x) (hD : (GoodPp p ∧ ppDepth p + 1 ≤ Dm ∧ ppZ p + 1 ≤ 100000) ∧ GoodPp q ∧ ppDepth q + 1 ≤ Dm ∧ ppZ q + 1 ≤ 100000) (hDm : Dm ≤ 900) (news : Led) (hv : (b, tupO [.str kJoin t, v, u] n) ∈ news) (hp : IsPp news v p) (hq : IsPp news u q) (hz : joinZ (kJoin :: ppTx true (.join p q)) ≤ 200000), Tri LAW hd.heap_39 w mean mg mb 279 [.ref b] (Dm + 12) (80 * (Dm + 12)) news (OutT news (wrapS (kJoin :: ppTx true (.join p q)))) := by
  intro w mean mg mb p q v u b t n Dm hC hD hDm news hv hp hq hz
  k_extra "c11"
  clear hK
  w_top off
  unfold Tri
  k_extra "c14"
  k_extra "c26"
  have zj := join_len (kJoin :: ppTx true (.join p q))
  refine wpAny_call ?_
  k_dflt ktr_enter
  k_steps
  refine ⟨?_⟩
  have hsp := spine_le p
  refine While_inv (n₀ := spine p) (JPI _ t (.join p q) Dm) (by k_asm) (News.sub (by k_asm) (Pick.sub (by k_extra "c3"))) ⟨_, b, v, u, [u], p, q, [], _, t, n, rfl, rfl, rfl, rfl, rfl, by k_all, by k_mem, IsPp.mono hp (fun p hp => by simp only [List.mem_cons, List.mem_append, hp, true_or, or_true]), .cons (IsPp.mono hq (fun p hp => by simp only [List.mem_cons, List.mem_append, hp, true_or, or_true])) .nil, rfl, by simp only [List.length_cons, List.length_nil]; omega, fun x hx => by
    k_extra "c41"
    · exact hD.1
    · obtain rfl := List.mem_singleton.mp hx; exact hD.2⟩ ?_
  intro n2 m₁ nw h₁ tk₁ F₁ N₁ hh9
  obtain ⟨l, a1, v', u', vs, p', q', qs, c, tt, nn, hm1, hm2, hm3, rfl, rfl, hne1, hma, hI1, hU1, hj, hvl, hall⟩ := hh9
  have hlu := hU1.length
  rw [List.length_reverse] at hlu
  simp only [List.length_cons] at hlu
  rcases pp_join hI1 with hh9 | hh9
  obtain ⟨a9, t9, v9, u9, n9, p9, q9, rfl, hm9, rfl, hI9, hI8⟩ := hh9
  rotate_left
  k_extra "c111"
  rotate_left
  · k_steps
    k_extra "c143"
    all_goals ((with_reducible rename News _ _ _ _ => kN); (try rw [List.push_toArray] at kN))
    all_goals exact WhileStep.intro (by k_asm) (News.sub kN (Pick.sub (by k_extra "c3"))) (n' := spine p9) (by simp only [spine]; omega) (jpi_next (by assumption) (by assumption) (by first | rfl | assumption) hne1 hm9 hI9 hI8 hU1 hj hvl hall)
  · have htx := row_texts hj hj9
    rw [htx] at hz zj hret
    replace zj := Nat.le_trans zj hz
    simp only [joinZ, List.map_append, List.map_cons, List.map_nil, List.sum_append, List.sum_cons, List.sum_nil, List.length_append, List.length_cons, List.length_nil, lenS, sz_sp] at hz
    k_steps
    refine ⟨?_⟩
    refine src_txt (by rfl) (by k_asm) (by k_asm) (by k_mem) (by exact .inl ⟨_, rfl⟩) (by exact PpsAre.mono (.cons hI1 hU1) (fun p hp => by simp only [List.mem_cons, List.mem_append, hp, true_or, or_true])) (by rfl) ?_ ?_
    · intros g9 ys9 S9
      have z9 := StrsAre.length S9
      (try simp only [List.length_map, List.length_cons] at z9)
      k_steps
      ((with_reducible rename Fr h₀ L _ _ => kF); (with_reducible rename News h₀ L _ _ => kN))
      k_extra "c68"
    · intros ys9 Next9 v9 p9 hp9 hI9 hyl9 hn9 I9 oI9 C9 oC9 D9 m9 h9 tk9 E9 hC9 hx9 F9 N9 off9 ne9
      have C8 := hC p9 (hall p9 hp9).1 (hall p9 hp9).2.1
      have d8 := (hall p9 hp9).2.1
      have l8 := (hall p9 hp9).2.2
      (try simp only [List.length_cons] at hyl9)
      k_steps
      exact hn9 _
in #guard_msgs (drop info, drop warning) in open Nat
theorem zPaperT36 : True := trivial
end Z
theorem ePaperT33 : True := trivial
end Mine
-- PaperL
namespace Mine
example : True := by
  k_with "fk" => first | ((fail_if_success have hzz := ePaperL1); (with_reducible (first | exact fk200 (by assumption) | exact fk108 (by assumption) | exact fk201 (by assumption) (by assumption) (by assumption) | exact fk202 (by assumption) (by assumption) | exact fk109 (by assumption) (by assumption) | exact fk107 | exact fk203 (by assumption) (by assumption) | exact fk204 (by assumption) | exact fk205 (by assumption) | exact fk206 (by assumption) | exact fk207 (by assumption) | exact fk208 (by assumption) (by assumption) (by assumption) (by assumption) | exact fk105 | exact fk106 (by assumption) | exact fk209 (by assumption) (by assumption) (by assumption) | exact fk210 (by assumption) (by assumption)))) | fail
  trivial
theorem rowZ_mem : ∀ {ps : List (Str × Tm)} {x : Str × Tm}, x ∈ ps → tmZ x.2 + x.1.cps.size + 2 ≤ rowZ ps
  | [], _, h => nomatch h
  | (y, t) :: ps, x, h => by
    simp only [rowZ]
    k_extra "c131"
    · dsimp only; omega
    · have := rowZ_mem h; omega
theorem rowZ_len : ∀ (ps : List (Str × Tm)), ps.length ≤ rowZ ps
  | [] => Nat.zero_le _
  | (y, t) :: ps => by have := rowZ_len ps; simp only [rowZ, List.length_cons]; omega
theorem one_headD (p : Pp) : (ppTx false p).headD nils = ppText p := rfl
theorem PsOk.depth {ps : List (Str × Tm)} (h : PsOk ps) : ps.length ≤ 2 ∧ ∀ x ∈ ps, tmDepth x.2 < 3 ∧ x.1.cps.size ≤ 1000 := by
  have zx : xName.cps.size ≤ 1000 := by decide +kernel
  have zy : yName.cps.size ≤ 1000 := by decide +kernel
  rcases h with rfl | ⟨t, g, rfl⟩ | ⟨t, t', g, g', rfl⟩
  · exact ⟨by simp, fun x hx => nomatch hx⟩
  · refine ⟨by simp, fun x hx => ?_⟩
    obtain rfl := List.mem_singleton.mp hx; exact ⟨g.2, zx⟩
  · refine ⟨by simp, fun x hx => ?_⟩
    k_extra "c41"
    · exact ⟨g.2, zx⟩
    · obtain rfl := List.mem_singleton.mp hx; exact ⟨g'.2, zy⟩
theorem text_of {p : Pp} {x : Str} (h : ppTx false p = [x]) : ppText p = x := by unfold ppText; rw [h]; rfl
theorem outT_of {news : Led} {p : Pp} {x : Str} {r : Value} {nw : Led} (o : OutT news x r nw) (h : ppTx false p = [x]) : OutT news (ppText p) r nw := by rw [text_of h]; exact o
set_option Elab.async true in
theorem pt_all (w : World) (mean mg mb) : ∀ (d : Nat) (p : Pp), ppDepth p ≤ d → d ≤ 900 → GoodPp p → PTC w mean mg mb p := by
  intro d
  induction d with
  | zero =>
    intro p hp _ g v news hv hz
    k_extra "c26"
    cases hv with
    | told hm e =>
      subst e
      exact Tri.mono (pt_told w mean mg mb _ _ _ _ _ news hm (by k_extra "c93")) fun r nw h => outT_of h rfl
    | same hm e hx =>
      subst e
      have := tmText_le ‹Tm›
      exact Tri.mono (pt_same w mean mg mb _ _ _ _ _ g.2 (by simp only [ppZ] at hz; omega) news hm hx (by k_extra "c93")) fun r nw h => outT_of h rfl
    | @rule a b kd l t u n n' vs ps hm e hb hr =>
      subst e
      have hl := row_len ps
      exact Tri.mono (pt_rule w mean mg mb l vs ps _ _ _ _ _ _ (fun x hx => ⟨by have := rowZ_mem hx; simp only [ppZ] at hz; omega, g.2.depth.2 x hx⟩) (by have := g.2.depth.1; omega) news hm hb hr (by k_extra "c93")) fun r nw h => outT_of h rfl
    | turn _ _ _ => simp [ppDepth] at hp
    | join _ _ _ _ => simp [ppDepth] at hp
    | under0 hm e hb =>
      subst e
      exact Tri.mono (pt_under w mean mg mb _ [] [] 0 _ _ _ _ _ _ (fun q hq => nomatch hq) (fun q hq => nomatch hq) (by simp) news hm hb .nil (by simp only [joinZ_cons, joinZ_nil, ppZ, List.map_nil] at hz ⊢; omega)) fun r nw h => outT_of h rfl
    | under1 _ _ _ _ => simp [ppDepth] at hp
    | under2 _ _ _ _ _ => simp [ppDepth] at hp
  | succ d ih =>
    intro p hp hd g v news hv hz
    k_extra "c26"
    by_cases hp' : ppDepth p ≤ d
    · exact ih p hp' (by omega) g v news hv hz
    cases hv with
    | told hm e => simp [ppDepth] at hp'
    | same hm e hx => simp [ppDepth] at hp'
    | rule hm e hb hr => simp [ppDepth] at hp'
    | under0 hm e hb => simp [ppDepth] at hp'
    | @turn a kd t n v p hm e hx =>
      subst e
      simp only [ppDepth] at hp
      have hl := ppText_len p
      exact Tri.mono (pt_turn w mean mg mb p v _ _ _ (ppDepth p + 1) (ih p (by omega) (by omega) g) (Nat.le_refl _) (by simp only [ppZ] at hz; omega) news hm hx (by k_extra "c93")) fun r nw h => outT_of h (by simp only [ppTx, ppTx_text])
    | @join a kd t n v u p q hm e hx hy =>
      subst e
      simp only [ppDepth] at hp
      have hl := ppTx_len (.join p q) true
      exact Tri.mono (pt_join w mean mg mb p q v u _ _ _ (ppDepth (.join p q)) (fun x gx hx => ih x (by simp only [ppDepth] at hx; omega) (by omega) gx) ⟨⟨g.1, by simp only [ppDepth]; omega, by simp only [ppZ] at hz; omega⟩, g.2, by simp only [ppDepth]; omega, by simp only [ppZ] at hz; omega⟩ (by simp only [ppDepth]; omega) news hm hx hy (by simp only [joinZ_cons, joinZ_nil] at hz hl ⊢; omega)) fun r nw h => outT_of h rfl
    | @under1 a b kd l t u n n' v p hm e hb hx =>
      subst e
      simp only [ppDepth] at hp
      have hl := ppText_len p
      exact Tri.mono (pt_under w mean mg mb l [v] [p] (ppDepth (.under1 l p)) _ _ _ _ _ _ (fun q hq => by obtain rfl := List.mem_singleton.mp hq; exact ih _ (by omega) (by omega) g.2) (fun q hq => by obtain rfl := List.mem_singleton.mp hq; exact ⟨Nat.le_refl _, by simp only [ppZ] at hz; omega⟩) (by simp) news hm hb (.cons hx .nil) (by k_extra "c144")) fun r nw h => outT_of h (by simp only [ppTx, ppTx_text, List.map_cons, List.map_nil])
    | @under2 a b kd l t u n n' v z p q hm e hb hx hy =>
      subst e
      simp only [ppDepth] at hp
      have hl := ppText_len p
      have hl' := ppText_len q
      refine Tri.mono (pt_under w mean mg mb l [v, z] [p, q] (ppDepth (.under2 l p q)) _ _ _ _ _ _ (fun x hq => ?_) (fun x hq => ?_) (by simp) news hm hb (.cons hx (.cons hy .nil)) (by k_extra "c144")) fun r nw h => outT_of h (by simp only [ppTx, ppTx_text, List.map_cons, List.map_nil, List.singleton_append])
      · rcases List.mem_cons.mp hq with rfl | hq
        · exact ih _ (by omega) (by omega) g.2.1
        · k_extra "c151"
      · rcases List.mem_cons.mp hq with rfl | hq
        · exact ⟨by simp only [ppDepth]; omega, by simp only [ppZ] at hz; omega⟩
        · obtain rfl := List.mem_singleton.mp hq; exact ⟨by simp only [ppDepth]; omega, by simp only [ppZ] at hz; omega⟩
in #guard_msgs (drop info, drop warning) in open Nat
theorem ePaperL1 : True := trivial
end Mine
-- PL7
namespace Mine
example : True := by
  k_with "omega" => first | ((fail_if_success have hzz := ePL71); (first | k_extra "ub" | (simp +arith only; done) | k_extra "fk" | lia | omega (config := {}))) | fail
  trivial
example : True := by
  k_with "fk" => first | ((fail_if_success have hzz := ePL71); (with_reducible (first | exact fk211 (by assumption) (by assumption) | exact fk212 (by assumption) (by assumption) | exact fk213 (by assumption) (by assumption) | exact fk214 (by assumption) (by assumption) (by assumption) | exact fk215 (by assumption) | exact fk216 (by assumption) | exact fk217 (by assumption) (by assumption) | exact fk218 (by assumption) | exact fk219 (by assumption) (by assumption) | exact fk220 (by assumption) (by assumption) | exact fk221 (by assumption) (by assumption) | exact fk222 (by assumption) (by assumption) (by assumption) | exact fk223 (by assumption) | exact fk224 (by assumption) (by assumption) | exact fk225 (by assumption) (by assumption) (by assumption) (by assumption) (by assumption) | exact fk226 (by assumption) | exact fk227 (by assumption) (by assumption) | exact fk228 (by assumption) (by assumption) (by assumption) | exact fk229 (by assumption) (by assumption) | exact fk230 (by assumption) (by assumption)))) | fail
  trivial
noncomputable def opB (x : Str) : Bool := isOpS x && (cl x).all (fun c => decide (c < 128)) && decide (x.cps.size ≤ 4)
theorem opB_ok {x : Str} (h : opB x = true) : isOpS x = true ∧ OkWd x ∧ x.cps.size ≤ 4 := by
  unfold opB at h
  simp only [Bool.and_eq_true, List.all_eq_true, decide_eq_true_eq] at h
  exact ⟨h.1.1, ⟨.inl h.1.1, h.1.2, by omega⟩, h.2⟩
theorem getD_all {l : List Str} {d : Str} {i : Nat} (h : (d :: l).all opB = true) : opB (l.getD i d) = true := by
  rw [List.all_eq_true] at h
  refine h _ ?_
  rw [List.getD_eq_getElem?_getD]
  cases e : l[i]? with
  | none => exact .head _
  | some x => exact .tail _ (List.mem_of_getElem? e)
theorem ok_lpar : OkWd lpar := ⟨.inr (.inl rfl), by rw [cl_lpar]; intro c hc; rw [List.mem_singleton.mp hc]; decide, by decide +kernel⟩
theorem ok_rpar : OkWd rpar := ⟨.inr (.inr rfl), by rw [cl_rpar]; intro c hc; rw [List.mem_singleton.mp hc]; decide, by decide +kernel⟩
noncomputable def zT : Nat → Nat
  | 0 => 4
  | d + 1 => 2 * zT d + 9
noncomputable def nT : Nat → Nat
  | 0 => 1
  | d + 1 => 2 * nT d + 3
structure TmOk (t : Tm) (d : Nat) : Prop where
  good : GoodTm t
  depth : tmDepth t ≤ d
  wds : ∀ x ∈ tmWords t, OkWd x
  z : tmZ t ≤ zT d
  n : (tmWords t).length ≤ nT d
theorem TmOk.leaf {x : Str} (h : opB x = true) (d : Nat) : TmOk (.leaf x) d := by
  have k := opB_ok h
  have h1 : ∀ d, 4 ≤ zT d := fun d => by induction d with
    | zero => exact Nat.le_refl _
    | succ d ih => simp only [zT]; omega
  have h2 : ∀ d, 1 ≤ nT d := fun d => by induction d with
    | zero => exact Nat.le_refl _
    | succ d ih => simp only [nT]; omega
  exact ⟨k.1, Nat.zero_le _, fun x hx => by obtain rfl := List.mem_singleton.mp hx; exact k.2.1, Nat.le_trans k.2.2 (h1 d), h2 d⟩
theorem TmOk.one {x : Str} {a : Tm} {d : Nat} (h : opB x = true) (ha : TmOk a d) : TmOk (.one x a) (d + 1) := by
  have k := opB_ok h
  refine ⟨⟨k.1, ha.good⟩, Nat.succ_le_succ ha.depth, fun y hy => ?_, by have := ha.z; have := k.2.2; simp only [tmZ, zT]; omega, by have := ha.n; simp only [tmWords, nT, List.length_cons, List.length_append, List.length_nil]; omega⟩
  k_extra "c133"
  rcases hy with rfl | rfl | hy | rfl
  · exact ok_lpar
  · exact k.2.1
  · exact ha.wds y hy
  · exact ok_rpar
theorem TmOk.two {x : Str} {a b : Tm} {d : Nat} (h : opB x = true) (ha : TmOk a d) (hb : TmOk b d) : TmOk (.two x a b) (d + 1) := by
  have k := opB_ok h
  refine ⟨⟨k.1, ha.good, hb.good⟩, Nat.succ_le_succ (Nat.max_le.mpr ⟨ha.depth, hb.depth⟩), fun y hy => ?_, by have := ha.z; have := hb.z; have := k.2.2; simp only [tmZ, zT]; omega, by have := ha.n; have := hb.n; simp only [tmWords, nT, List.length_cons, List.length_append, List.length_nil]; omega⟩
  k_extra "c133"
  rcases hy with rfl | rfl | hy | hy | rfl
  · exact ok_lpar
  · exact k.2.1
  · exact ha.wds y hy
  · exact hb.wds y hy
  · exact ok_rpar
theorem leaf_all : ((Str.ofString "a") :: leafOps).all opB = true := by decide +kernel
theorem fp_ok : opB (Str.ofString "f") = true ∧ opB (Str.ofString "+") = true := by decide +kernel
theorem genT_ok (row : List Int) : ∀ (d k : Nat), TmOk (genT row d k).1 d
  | 0, k => TmOk.leaf (getD_all leaf_all) 0
  | d + 1, k => by
    unfold genT
    split
    · exact TmOk.leaf (getD_all leaf_all) _
    · split
      · exact TmOk.one fp_ok.1 (genT_ok row d _)
      · exact TmOk.two fp_ok.2 (genT_ok row d _) (genT_ok row d _)
noncomputable def PpWds : Pp → Prop
  | .told l => OkWd l
  | .same t => ∀ x ∈ tmWords t, OkWd x
  | .rule l ps => OkWd l ∧ ∀ x ∈ rowWords ps, OkWd x
  | .turn p => PpWds p
  | .join p q => PpWds p ∧ PpWds q
  | .under0 l => OkWd l
  | .under1 l p => OkWd l ∧ PpWds p
  | .under2 l p q => OkWd l ∧ PpWds p ∧ PpWds q
theorem kind_ok : OkWd kSame ∧ OkWd kTold ∧ OkWd kRule ∧ OkWd kTurn ∧ OkWd kJoin ∧ OkWd kUnder := by
  have h : ∀ x : Str, (isOpS x && (cl x).all (fun c => decide (c < 128)) && decide (x.cps.size ≤ 10)) = true → OkWd x := fun x h => by
    simp only [Bool.and_eq_true, List.all_eq_true, decide_eq_true_eq] at h
    exact ⟨.inl h.1.1, h.1.2, h.2⟩
  exact ⟨h _ (by decide +kernel), h _ (by decide +kernel), h _ (by decide +kernel), h _ (by decide +kernel), h _ (by decide +kernel), h _ (by decide +kernel)⟩
theorem all_par {k : Str} {w : List Str} (hk : OkWd k) (hw : ∀ x ∈ w, OkWd x) : ∀ x ∈ lpar :: k :: (w ++ [rpar]), OkWd x := by
  intro y hy
  simp only [List.mem_cons, List.mem_append, List.not_mem_nil, or_false] at hy
  rcases hy with rfl | rfl | hy | rfl
  · exact ok_lpar
  · exact hk
  · exact hw y hy
  · exact ok_rpar
theorem all_par1 {k l : Str} {w : List Str} (hk : OkWd k) (hl : OkWd l) (hw : ∀ x ∈ w, OkWd x) : ∀ x ∈ lpar :: k :: l :: (w ++ [rpar]), OkWd x :=
  all_par (w := l :: w) hk fun x hx => by
    k_extra "c41"
    · exact hl
    · exact hw x hx
theorem rowWords_revm : ∀ (ps : List (Str × Tm)) (x : Str), x ∈ rowWords ps.reverse → x ∈ rowWords ps
  | [], _, h => h
  | (y, t) :: ps, x, h => by
    rw [List.reverse_cons, rowWords_app] at h
    simp only [rowWords, List.append_nil] at h ⊢
    rcases List.mem_append.mp h with h | h
    · exact .tail _ (List.mem_append_right _ (rowWords_revm ps x h))
    · rcases List.mem_cons.mp h with rfl | h
      · exact .head _
      · exact .tail _ (List.mem_append_left _ h)
set_option Elab.async true in
theorem spell_wds {b : Bool} {p : Pp} {w : List Str} (h : Spell b p w) : PpWds p → ∀ x ∈ w, OkWd x := by
  have ap : ∀ {w w' : List Str}, (∀ x ∈ w, OkWd x) → (∀ x ∈ w', OkWd x) → ∀ x ∈ w ++ w', OkWd x := fun h h' x hx => (List.mem_append.mp hx).elim (h x) (h' x)
  have nl : ∀ x ∈ ([] : List Str), OkWd x := fun x hx => nomatch hx
  induction h with
  | told => intro k; exact all_par1 (w := []) kind_ok.2.1 k nl
  | same => intro k; exact all_par kind_ok.1 k
  | rule => intro k; exact all_par1 kind_ok.2.2.1 k.1 k.2
  | ruleR => intro k; exact all_par1 kind_ok.2.2.1 k.1 fun x hx => k.2 x (rowWords_revm _ x hx)
  | turn _ ih => intro k; exact all_par kind_ok.2.2.2.1 (ih k)
  | join _ ih => intro k; exact all_par kind_ok.2.2.2.2.1 (ih k)
  | row0 _ _ ih1 ih2 => intro k; exact ap (ih1 k.1) (ih2 k.2)
  | row1 _ _ ih1 ih2 => intro k; exact ap (ih1 k.1) (ih2 k.2)
  | under0 => intro k; exact all_par1 (w := []) kind_ok.2.2.2.2.2 k nl
  | under1 _ ih => intro k; exact all_par1 kind_ok.2.2.2.2.2 k.1 (ih k.2)
  | under2 _ _ ih1 ih2 =>
    intro k
    have := all_par1 kind_ok.2.2.2.2.2 k.1 (ap (ih1 k.2.1) (ih2 k.2.2))
    simpa only [List.append_assoc] using this
in #guard_msgs (drop info, drop warning) in open Nat
noncomputable def nP : Nat → Nat
  | 0 => 16
  | d + 1 => 2 * nP d + 4
noncomputable def cP : Nat → Nat
  | 0 => 1
  | d + 1 => 2 * cP d + 1
noncomputable def zP : Nat → Nat
  | 0 => 57
  | d + 1 => 2 * zP d + 16
structure PpOk (p : Pp) (d n c z : Nat) : Prop where
  good : GoodPp p
  depth : ppDepth p ≤ d
  wds : PpWds p
  n : plen p ≤ n
  c : cost p ≤ c
  z : ppZ p ≤ z
theorem PpOk.mono {p : Pp} {d n c z d' n' c' z' : Nat} (h : PpOk p d n c z) (hd : d ≤ d') (hn : n ≤ n') (hc : c ≤ c') (hz : z ≤ z') : PpOk p d' n' c' z' :=
  ⟨h.good, Nat.le_trans h.depth hd, h.wds, Nat.le_trans h.n hn, Nat.le_trans h.c hc, Nat.le_trans h.z hz⟩
theorem told_all : ((Str.ofString "a") :: toldOps).all opB = true := by decide +kernel
theorem rule_all : ((Str.ofString "a") :: ruleOps).all opB = true := by decide +kernel
theorem under_all : ((Str.ofString "a") :: underOps).all opB = true := by decide +kernel
theorem xy_ok : OkWd xName ∧ OkWd yName ∧ xName.cps.size = 2 ∧ yName.cps.size = 2 := by
  have h : opB xName = true ∧ opB yName = true := by decide +kernel
  exact ⟨(opB_ok h.1).2.1, (opB_ok h.2).2.1, by decide +kernel, by decide +kernel⟩
theorem told_ok {l : Str} (h : opB l = true) : PpOk (.told l) 0 16 1 57 := by
  have k := opB_ok h
  exact ⟨k.1, Nat.le_refl _, k.2.1, by simp only [plen]; omega, by simp only [cost]; omega, by have := k.2.2; simp only [ppZ]; omega⟩
theorem same_ok {t : Tm} (h : TmOk t 2) : PpOk (.same t) 0 16 1 57 := by
  have h1 : tmDepth t ≤ 2 := h.depth
  have h2 : tmZ t ≤ 43 := h.z
  have h3 : (tmWords t).length ≤ 13 := h.n
  exact ⟨⟨h.good, by omega⟩, Nat.le_refl _, h.wds, by simp only [plen]; omega, by simp only [cost]; omega, by simp only [ppZ]; omega⟩
set_option Elab.async true in
theorem rule_ok {l : Str} {t t' : Tm} (n : Nat) (h : opB l = true) (ht : TmOk t 1) (ht' : TmOk t' 1) : PpOk (.rule l (List.take n [(xName, t), (yName, t')])) 0 16 1 57 := by
  have k := opB_ok h
  have h1 : tmDepth t ≤ 1 := ht.depth
  have h2 : tmZ t ≤ 17 := ht.z
  have h3 : (tmWords t).length ≤ 5 := ht.n
  have h1' : tmDepth t' ≤ 1 := ht'.depth
  have h2' : tmZ t' ≤ 17 := ht'.z
  have h3' : (tmWords t').length ≤ 5 := ht'.n
  have kz := k.2.2
  obtain ⟨ox, oy, zx, zy⟩ := xy_ok
  match n with
  | 0 =>
    exact ⟨⟨k.1, .inl rfl⟩, Nat.le_refl _, ⟨k.2.1, fun x hx => nomatch hx⟩, by simp only [List.take_zero, plen, rowWords, List.length_nil]; omega, by simp only [cost]; omega, by simp only [List.take_zero, ppZ, rowZ]; omega⟩
  | 1 =>
    refine ⟨⟨k.1, .inr (.inl ⟨t, ⟨ht.good, by omega⟩, rfl⟩)⟩, Nat.le_refl _, ⟨k.2.1, fun x hx => ?_⟩, by simp only [List.take_succ_cons, List.take_zero, plen, rowWords, List.length_cons, List.length_append, List.length_nil]; omega, by simp only [cost]; omega, by simp only [List.take_succ_cons, List.take_zero, ppZ, rowZ]; omega⟩
    simp only [List.take_succ_cons, List.take_zero, rowWords, List.append_nil] at hx
    k_extra "c41"
    · exact ox
    · exact ht.wds x hx
  | n + 2 =>
    have e : List.take (n + 2) [(xName, t), (yName, t')] = [(xName, t), (yName, t')] := List.take_of_length_le (by simp)
    rw [e]
    refine ⟨⟨k.1, .inr (.inr ⟨t, t', ⟨ht.good, by omega⟩, ⟨ht'.good, by omega⟩, rfl⟩)⟩, Nat.le_refl _, ⟨k.2.1, fun x hx => ?_⟩, by simp only [plen, rowWords, List.length_cons, List.length_append, List.length_nil]; omega, by simp only [cost]; omega, by simp only [ppZ, rowZ]; omega⟩
    simp only [rowWords, List.append_nil, List.mem_cons, List.mem_append] at hx
    rcases hx with rfl | hx | rfl | hx
    · exact ox
    · exact ht.wds x hx
    · exact oy
    · exact ht'.wds x hx
in #guard_msgs (drop info, drop warning) in open Nat
theorem genW_low {row : List Int} {rec : Nat → Pp × Nat} {way : Int} {k : Nat} (hl : 0 ≤ way) (h : way < 3) : PpOk (genW row rec way k).1 0 16 1 57 := by
  unfold genW
  split
  · exact told_ok (getD_all told_all)
  · split
    · exact same_ok (genT_ok row 2 k)
    · split
      · exact rule_ok _ (getD_all rule_all) (genT_ok row 1 k) (genT_ok row 1 (genT row 1 k).2)
      · rename_i h1 h2 h3; omega
set_option Elab.async true in
theorem genW_ok {row : List Int} {rec : Nat → Pp × Nat} {way : Int} {k d n c z : Nat} (h0 : 16 ≤ n ∧ 1 ≤ c ∧ 57 ≤ z) (hl : 0 ≤ way) (R : ∀ k, PpOk (rec k).1 d n c z) : PpOk (genW row rec way k).1 (d + 1) (2 * n + 4) (2 * c + 1) (2 * z + 16) := by
  by_cases h : way < 3
  · exact (genW_low hl h).mono (by omega) (by omega) (by omega) (by omega)
  unfold genW
  rw [if_neg (by omega), if_neg (by omega), if_neg (by omega)]
  split
  · have r := R k
    exact ⟨r.good, Nat.succ_le_succ r.depth, r.wds, by have := r.n; simp only [plen]; omega, by have := r.c; simp only [cost]; omega, by have := r.z; simp only [ppZ]; omega⟩
  · split
    · have r := R k
      have r' := R (rec k).2
      exact ⟨⟨r.good, r'.good⟩, Nat.succ_le_succ (Nat.max_le.mpr ⟨r.depth, r'.depth⟩), ⟨r.wds, r'.wds⟩, by have := r.n; have := r'.n; simp only [plen]; omega, by have := r.c; have := r'.c; simp only [cost]; omega, by have := r.z; have := r'.z; simp only [ppZ]; omega⟩
    · have o := opB_ok (getD_all (i := (drawAt row k 2).toNat) under_all)
      have oz := o.2.2
      dsimp only
      split
      · exact ⟨o.1, Nat.zero_le _, o.2.1, by simp only [plen]; omega, by simp only [cost]; omega, by simp only [ppZ]; omega⟩
      · split
        · have r := R (k + 2)
          exact ⟨⟨o.1, r.good⟩, Nat.succ_le_succ r.depth, ⟨o.2.1, r.wds⟩, by have := r.n; simp only [plen]; omega, by have := r.c; simp only [cost]; omega, by have := r.z; simp only [ppZ]; omega⟩
        · have r := R (k + 2)
          have r' := R (rec (k + 2)).2
          exact ⟨⟨o.1, r.good, r'.good⟩, Nat.succ_le_succ (Nat.max_le.mpr ⟨r.depth, r'.depth⟩), ⟨o.2.1, r.wds, r'.wds⟩, by have := r.n; have := r'.n; simp only [plen]; omega, by have := r.c; have := r'.c; simp only [cost]; omega, by have := r.z; have := r'.z; simp only [ppZ]; omega⟩
in #guard_msgs (drop info, drop warning) in open Nat
theorem lo_P : ∀ d, 16 ≤ nP d ∧ 1 ≤ cP d ∧ 57 ≤ zP d
  | 0 => ⟨Nat.le_refl _, Nat.le_refl _, Nat.le_refl _⟩
  | d + 1 => by have := lo_P d; simp only [nP, cP, zP]; omega
theorem genP_ok (row : List Int) : ∀ (d k : Nat), PpOk (genP row d k).1 d (nP d) (cP d) (zP d)
  | 0, k => genW_low (drawAt_lo (by decide)) (drawAt_hi (by decide))
  | d + 1, k => genW_ok (lo_P d) (drawAt_lo (by decide)) (genP_ok row d)
structure Nice (p : Pp) : Prop where
  good : GoodPp p
  depth : ppDepth p ≤ 3
  wds : PpWds p
  n : plen p ≤ 156
  c : cost p ≤ 15
  z : ppZ p ≤ 568
theorem genP_nice (row : List Int) (k : Nat) : Nice (genP row 3 k).1 := by
  have h := genP_ok row 3 k
  exact ⟨h.good, h.depth, h.wds, h.n, h.c, h.z⟩
theorem ppW_end (p : Pp) : ∃ w, ppW false p = w ++ [rpar] := by
  cases p with
  | told l => exact ⟨[lpar, kTold, l], rfl⟩
  | same t => exact ⟨lpar :: kSame :: tmWords t, rfl⟩
  | rule l ps => exact ⟨lpar :: kRule :: l :: rowWords ps, rfl⟩
  | turn p => exact ⟨lpar :: kTurn :: ppW false p, rfl⟩
  | join p q => exact ⟨lpar :: kJoin :: (ppW true p ++ ppW false q), rfl⟩
  | under0 l => exact ⟨[lpar, kUnder, l], rfl⟩
  | under1 l p => exact ⟨lpar :: kUnder :: l :: ppW false p, rfl⟩
  | under2 l p q => exact ⟨lpar :: kUnder :: l :: (ppW false p ++ ppW false q), by simp [ppW]⟩
structure Told (p : Pp) (T : Str) : Prop where
  len : T.cps.size ≤ 568
  head : ∃ l, cl T = 40 :: l
  asc : ∀ c ∈ cl T, c < 128
  read : ∃ ps, Txt0 T ps ∧ wds ps = ppW false p
  cut : ∃ T' ps, T = T' ++ rpar ∧ Txt0 T' ps ∧ wds ps ++ [rpar] = ppW false p
theorem told_of {p : Pp} (h : Nice p) : Told p (plainS nils (ppW false p)) := by
  have hw := spell_wds (spell_ppW p).1 h.wds
  obtain ⟨ps, q, e⟩ := plain_pcs hw
  obtain ⟨w, ew⟩ := ppW_end p
  have hz : (plainS nils (ppW false p)).cps.size ≤ 568 := by rw [pp_plain h.good]; exact Nat.le_trans (ppText_len p) h.z
  refine ⟨hz, ?_, q.a, ⟨ps, q, e⟩, ?_⟩
  · have : ∃ xs, plainS nils (ppW false p) = wrapS xs := by
      rw [pp_plain h.good]
      cases p <;> exact ⟨_, rfl⟩
    obtain ⟨xs, ex⟩ := this
    exact ⟨cl (Txt.join spS xs) ++ cl rpar, by rw [ex]; unfold wrapS; rw [cl_app, cl_app, cl_lpar]; rfl⟩
  · obtain ⟨ps', q', e'⟩ := plain_pcs (ws := w) (fun x hx => hw x (by rw [ew]; exact List.mem_append_left _ hx))
    refine ⟨_, ps', ?_, q', by rw [e', ew]⟩
    rw [ew, plainS_snoc, plainA_eq, show (rpar == rpar) = true by decide +kernel, Bool.or_true, if_pos rfl, app_nils]
theorem read_told_text {p : Pp} {T : Str} (h : Nice p) (k : Told p T) : ∃ ps, Txt0 T ps ∧ pRead (toksOf T ps) = .ok p (ppW false p).length := by
  obtain ⟨ps, q, e⟩ := k.read
  refine ⟨ps, q, read_ok (spell_ppW p).1 h.good (by have := h.depth; omega) (atw [] _ [nils] (by rw [e]; rfl)) (s := T.cps.size) ?_⟩
  have := tok_end T ps
  rw [e] at this; exact this
theorem read_loose {p : Pp} {T : Str} {ps : List Pc} {ws : List Str} (h : Nice p) (s : Spell false p ws) (_q : Txt0 T ps) (e : wds ps = ws) : pRead (toksOf T ps) = .ok p ws.length := by
  refine read_ok s h.good (by have := h.depth; omega) (atw [] _ [nils] (by rw [e]; rfl)) (s := T.cps.size) ?_
  have := tok_end T ps
  rw [e] at this; exact this
theorem tm_text {t : Tm} (h : TmOk t 2) : (plainS nils (tmWords t)).cps.size ≤ 43 ∧ ∃ ps, Txt0 (plainS nils (tmWords t)) ps ∧ wds ps = tmWords t := by
  obtain ⟨ps, q, e⟩ := plain_pcs h.wds
  exact ⟨by rw [tm_plain h.good]; exact Nat.le_trans (tmText_le t) h.z, ps, q, e⟩
theorem ePL71 : True := trivial
end Mine
-- Ref0
namespace Mine
section
variable {A₀ : Around} {h₀ g G h : Heap} {cn : Str} {cs : Scope} {L L' a : Addr} {ccd : Value} {m m' : Str → Option Value}
set_option Elab.async true in
theorem ground (FL : Fr h₀ L g m) (F : Fr g L' G m') (hs : h₀.StaysIn h) (sm : G.UpToSlots h) (K : Below A₀ h₀ [envOf cn cs L a ccd] g) (hk : cs.kind = .function) :
    ∃ g', Fr h₀ L g' m ∧ Fr g' L' h m' ∧ Below A₀ h₀ [envOf cn cs L a ccd] g' ∧ ∀ b, h₀.get? b = none → b ≠ L → g'.get? b = none := by
  have hLn : h₀.get? L = none := kts_self FL
  let hid := (List.range g.objs.size).filter fun b => (h₀.get? b).isNone && !(b == L)
  have inhid : ∀ b, b ∈ hid ↔ b < g.objs.size ∧ h₀.get? b = none ∧ b ≠ L := fun b => by simp [hid]
  let g1 := hideAll g hid
  have stay1 : ∀ b o, h₀.get? b = some o → g1.get? b = some o := fun b o e => hideAll_get _ (FL.keep b o e) fun hm => by
    have := ((inhid b).mp hm).2.1; rw [e] at this; cases this
  obtain ⟨oL, es, ep, hL, hLd, hLk, hLf⟩ := FL.ns
  have hL1 : g1.get? L = some oL := hideAll_get _ hL fun hm => ((inhid L).mp hm).2.2 rfl
  obtain ⟨slL, hLh⟩ := sm _ _ (F.keep _ _ hL) (fun vs q => by rw [hLd] at q; cases q)
  obtain ⟨T, S⟩ := kts_turn_at (h := h) (fs := [L]) (g := g1)
    (fun b hb => by rw [List.mem_singleton.mp hb]; exact ⟨oL, hL1⟩)
    (fun b o e nm => by
      have hb : h₀.get? b = some o := by
        cases q : h₀.get? b with
        | some o' => have := stay1 b o' q; rw [e] at this; exact this.symm
        | none =>
          have hb := of_hideAll _ e
          have := hideAll_none hid (h := g) ((inhid b).mpr ⟨Heap.lt_size hb, q, fun z => nm (by rw [z]; exact List.mem_singleton.mpr rfl)⟩)
          rw [this] at e; cases e
      exact hs b o hb)
    (fun b o e hm => by
      rw [List.mem_singleton.mp hm] at e ⊢
      rw [hL1] at e; cases e
      exact ⟨slL, hLh⟩)
  obtain ⟨sl, hL'⟩ := T.up hL1
  have FL' : Fr h₀ L (ktsHeap h [L] g1) m := ⟨⟨_, es, ep, hL', hLd, hLk, hLf⟩, fun b o e => T.other b o (stay1 b o e) (fun hm => by rw [List.mem_singleton.mp hm, hLn] at e; cases e), FL.above⟩
  refine ⟨_, FL', ⟨sm.ns F.ns, S, by rw [T.size]; exact Nat.le_trans (Nat.le_of_eq (hideAll_size _ _)) F.above⟩, ⟨K.stack, FL'.keep, ?_⟩, fun b e n => T.none_ _ ?_⟩
  · exact Heap.FunFrames.cons (by show cs.kind ≠ _; rw [hk]; decide) rfl FL'.ns hLn trivial
  · cases q : g1.get? b with
    | none => rfl
    | some o =>
      have hb := of_hideAll _ q
      have := hideAll_none hid (h := g) ((inhid b).mpr ⟨Heap.lt_size hb, e, n⟩)
      rw [this] at q; cases q
in #guard_msgs (drop info, drop warning) in open Nat
end
section
variable {w : World} {A₀ : Around} {E : Value → Shared → Prop} {s' : Shared} {h₀ g G : Heap} {L L' a a' e : Addr} {m mL : Str → Option Value} {name cn : Str} {scope cs : Scope} {cd ccd : Value}
  {n : Str} {b₀ : Stmt} {suite : List Stmt} {pos np : Pos} {rest : List ExceptHandler} {Q : Flow → Shared → Prop} {news : Led}
  {mean : ExcName → Option Value} {mg mb : Str → Option Value} {x : Str} {sp : Int}
namespace Z
example : True := by
  k_with "eps" => first | ((fail_if_success have hzz := zRef01); skip) | fail
  trivial
set_option Elab.async true in
theorem caught_F : ∀ {w : World} {A₀ : Around} {E : Value → Shared → Prop} {s' : Shared} {h₀ : Heap} {g : Heap} {G : Heap} {L : Addr} {L' : Addr} {a : Addr} {a' : Addr} {e : Addr} {m : Str → Option Value} {mL : Str → Option Value} {name : Str} {cn : Str} {scope : Scope} {cs : Scope} {cd : Value} {ccd : Value} {n : Str} {b₀ : Stmt} {suite : List Stmt} {pos : Pos} {np : Pos} {rest : List ExceptHandler} {Q : Flow → Shared → Prop} {news : Led} {mean : ExcName → Option Value} {mg : Str → Option Value} {mb : Str → Option Value} {x : Str} {sp : Int} (R : FaultAt w h₀ (envOf name scope L' a' cd :: [envOf cn cs L a ccd]) e sp news s'.heap) (F : Fr g L' G m) (hsm : G.UpToSlots s'.heap) (FL : Fr h₀ L g mL) (K : Below A₀ h₀ [envOf cn cs L a ccd] g) (X₀ : (hd.heap_39 w.params).In h₀) (T₀ : Top view (looseW view []) mean mg mb h₀) (hck : cs.kind = .function) (ex : nsIn (hd.heap_39 w.params) mainGlobals x = some (some (.ref 76))) (k : ∀ h' g' oe d what t tk u tk2 tk', Fr h₀ L g' mL → Fr g' L' h' (fun y => if y = n then some (.ref e) else m y) → News g' L' h' ((e, oe) :: (d, spotD w what t tk sp u tk2) :: news) → oe.cls = .ref 76 → oe.dict = some d → (∃ vs, oe.data = .fields vs) → Below A₀ h₀ [envOf cn cs L a ccd] g' → (hd.heap_39 w.params).In g' → Top view (looseW view []) mean mg mb g' →
      wpAny (model PySem.Challenge.rw_pq0122_01.row.prog w) ((A₀.deeper (envOf name scope L' a' cd)).mark (some (.ref e))) (execs (b₀ :: suite) (envOf name scope L' a' cd))
        (fun f s₄ => wpAny (model PySem.Challenge.rw_pq0122_01.row.prog w) (A₀.deeper (envOf name scope L' a' cd)) (do bindName (envOf name scope L' a' cd) n .none; unbindBehindTheSuite (envOf name scope L' a' cd) n pos) (fun _ s₅ => Q f s₅) E s₄)
        (AsSuiteRaised (model PySem.Challenge.rw_pq0122_01.row.prog w) ((A₀.deeper (envOf name scope L' a' cd)).mark (some (.ref e))) (envOf name scope L' a' cd) n pos (notedBy (model PySem.Challenge.rw_pq0122_01.row.prog w) ((A₀.deeper (envOf name scope L' a' cd)).mark (some (.ref e))) (envOf name scope L' a' cd) (cameBackBy (model PySem.Challenge.rw_pq0122_01.row.prog w) (A₀.deeper (envOf name scope L' a' cd)) (envOf name scope L' a' cd) E)))
        { s' with heap := h', toks := tk' }) (hk : scope.kind = .function) (hlo : (envOf name scope L' a' cd).kindOf n = some .local) (hx : (envOf name scope L' a' cd).kindOf x = some .globalImplicit) (hdbg : (x == ("__debug__" : Str)) = false), wpAny (model PySem.Challenge.rw_pq0122_01.row.prog w) (A₀.deeper (envOf name scope L' a' cd)) (noteFrame (.ref e) (envOf name scope L' a' cd))
      (fun _ s₂ => wpAny (model PySem.Challenge.rw_pq0122_01.row.prog w) (A₀.deeper (envOf name scope L' a' cd)) (setFlight (.ref e) none) (fun _ s₃ =>
        wpAny (model PySem.Challenge.rw_pq0122_01.row.prog w) (A₀.deeper (envOf name scope L' a' cd)) (handleBy (.ref e) (envOf name scope L' a' cd) (.ExceptHandler (some (.Name x np)) (some n) (b₀ :: suite) pos :: rest)) Q E s₃) E s₂) E s' := by
  intro w A₀ E s' h₀ g G L L' a a' e m mL name cn scope cs cd ccd n b₀ suite pos np rest Q news mean mg mb x sp R F hsm FL K X₀ T₀ hck ex k hk hlo hx hdbg
  obtain ⟨B, d, what, t, tk, u, tk2, st, hl, hBe, bs, fr, oe, vs, T, oT, ts, he, hcd, hdt, h1, hnT, hTe, hT, hdT, h3⟩ := R
  refine notF (Around.frames_deeper K.stack) fr rfl he hcd hdt h1 (.inr ⟨T, oT, ts, rfl, hnT, hTe, hT, hdT, h3⟩) bs hBe ?_
  intro h₄ b₄ f₄ t₄ u₄
  refine setF (s := { s' with heap := h₄ }) b₄ f₄ t₄ ?_
  intro h₅ b₅ f₅ t₅ u₅
  have sm₅ := hsm.trans (u₄.trans u₅)
  obtain ⟨g₅, FL₅, F₅, K₅, _⟩ := ground FL F (fun b o q => b₅ b o (st b o q)) sm₅ K hck
  have X₅ := X₀.keeps K₅.stays
  have P₅ : TopRead view (looseW view []) mg mb g₅ := topRead_of (T₀.keeps K₅.stays)
  have hC₅ : h₅.get? 76 = some _ := F₅.keep _ _ (X₅ 76 (excClassObj _ _ _ _ _ _ _ _ _ _ _ _ _ _ _ _ _ _) rfl)
  refine wpAny_handleBy_cons (codeAny_handlers_test (name_K F₅ X₅ P₅ ex ?_ hk hx hdbg)) (by intro q; cases q)
  obtain ⟨o5, vs5, T5, oT5, ts5, he5, hcd5, r5⟩ := id t₅
  refine wpAny_excMatches_sub_self hC₅ he5 hcd5.1 (by rfl) (codeAny_handlers_suite_as ?_)
  refine setF (s := { s' with heap := h₅ }) b₅ f₅ t₅ ?_
  intro h₆ b₆ f₆ t₆ u₆
  obtain ⟨o6, vs6, T6, oT6, ts6, he6, hcd6, hd6, r6⟩ := id t₆
  obtain ⟨g₆, FL₆, F₆, K₆, fresh₆⟩ := ground FL F (fun b o q => b₆ b o (st b o q)) (sm₅.trans u₆) K hck
  have hLB : B.get? L = none := (f₆.mem (List.mem_filterMap.mpr ⟨_, .tail _ (.head _), rfl⟩)).1
  have hLB' : B.get? L' = none := (f₆.mem (List.mem_filterMap.mpr ⟨_, .head _, rfl⟩)).1
  have neB : ∀ q : Addr × Obj, B.get? q.1 = some q.2 → q.1 ≠ L ∧ q.1 ≠ L' := fun q hq => ⟨fun z => (by rw [z, hLB] at hq; cases hq), fun z => (by rw [z, hLB'] at hq; cases hq)⟩
  have ne : e ≠ L ∧ e ≠ L' := by
    refine ⟨fun z => ?_, fun z => ?_⟩
    · obtain ⟨_, o, ho, hnf⟩ := f₆.mem (List.mem_filterMap.mpr ⟨_, .tail _ (.head _), rfl⟩)
      rw [← z, he6] at ho; cases ho; exact hnf _ hd6
    · obtain ⟨_, o, ho, hnf⟩ := f₆.mem (List.mem_filterMap.mpr ⟨_, .head _, rfl⟩)
      rw [← z, he6] at ho; cases ho; exact hnf _ hd6
  have hen : h₀.get? e = none := by
    cases q : h₀.get? e with
    | none => rfl
    | some o => have := st _ _ q; rw [hBe] at this; cases this
  have N₆ : News g₆ L' h₆ ((e, o6) :: (d, spotD w what t tk sp u tk2) :: news) := fun q hq => by
    k_extra "c30"
    · exact ⟨he6, ne.2, fresh₆ _ hen ne.1⟩
    · have := hl q hq
      exact ⟨b₆ _ _ this.1, (neB q this.1).2, fresh₆ _ this.2 (neB q this.1).1⟩
  refine stN F₆ N₆ ?_ hk hlo
  intro h₇ F₇ N₇
  exact k h₇ g₆ o6 d what t tk u tk2 _ FL₆ F₇ N₇ hcd6.1 hcd6.2 ⟨_, hd6⟩ K₆ (X₀.keeps K₆.stays) (T₀.keeps K₆.stays)
in #guard_msgs (drop info, drop warning) in open Nat
theorem zRef01 : True := trivial
end Z
end
noncomputable def LeaveF (h₀ : Heap) (L : Addr) (m : Str → Option Value) (R : Result → Shared → Prop) (v : Value) (s' : Shared) : Prop :=
  ∃ g' L' m' news', Fr h₀ L g' m ∧ Fr g' L' s'.heap m' ∧ News g' L' s'.heap news' ∧ (Fr h₀ L s'.heap m → News h₀ L s'.heap news' → R (.ok (.ret v)) s')
theorem leaveF_ {h₀ g' : Heap} {L L' : Addr} {m m' : Str → Option Value} {news' : Led} {R : Result → Shared → Prop} {v : Value} {s' : Shared} (FL : Fr h₀ L g' m) (F' : Fr g' L' s'.heap m') (N' : News g' L' s'.heap news')
    (k : Fr h₀ L s'.heap m → News h₀ L s'.heap news' → R (.ok (.ret v)) s') : LeaveF h₀ L m R v s' := ⟨g', L', m', news', FL, F', N', k⟩
section
variable {prog : Program} {w : World} {A₀ A : Around} {s : Shared} {h₀ : Heap} {L a : Addr} {m : Str → Option Value} {cn : Str} {cs : Scope} {ccd : Value} {news : Led} {K : Frag} {p : Program} {loose : List Str} {mean : ExcName → Option Value} {mg mb : Str → Option Value}
    {R : Result → Shared → Prop} {name qual : Str} {params : Arguments} {body : List Stmt} {scope : Scope} {dV kV doc pm cdv ct oc : Value} {an od : Option Addr} {osl : Array (Option Value)} {f : Addr} {args : Args} {binds : List (Str × Value)}
set_option Elab.async true in
theorem code_defF (B : Below A₀ h₀ [] h₀) (F : Fr h₀ L s.heap m) (X₀ : K.In h₀) (N : News h₀ L s.heap news) (T : Top p loose mean mg mb h₀) (hA : A.frames = some [envOf cn cs L a ccd])
    (ho : K.lookup f = some ⟨oc, od, .func (fnOf name qual params body scope dV kV doc pm an cdv ct), osl⟩) (hcd : codeIn K cdv qual = true) (hroom : A.depth < recursionLimit)
    (hbind : BindsTo s (fnOf name qual params body scope dV kV doc pm an cdv ct) args binds) (hloc : ∀ y ∈ binds, scope.names.lookup y.1 = some .local)
    (h : ∀ g L' h₁, Fr h₀ L g m → Fr g L' h₁ (fun y => binds.reverse.lookup y) → News g L' h₁ news → Below A h₀ [envOf cn cs L a ccd] g → K.In g → Top p loose mean mg mb g →
      wpAny (model prog w) (A.deeper (envOf qual scope L' f cdv)) (execs body (envOf qual scope L' f cdv))
        (fun fl s' => LeaveF h₀ L m R (match fl with | .ret v => v | _ => .none) s')
        (fun e s' => wpAny (model prog w) (A.deeper (envOf qual scope L' f cdv)) (leaving (envOf qual scope L' f cdv) e) (fun _ s'' => R (.error e) s'') (fun e' s'' => R (.error e') s'') s')
        { s with heap := h₁, toks := s.toks + binds.length })
    (hck : cs.kind = .function) (hco : scope.isCoroutine = false) (hgen : scope.isGenerator = false) (hk : scope.kind = .function)
    (hcell : ∀ x ∈ scope.names, x.2 ≠ .cell) : codeAny (model prog w) A (.call (.ref f) args) R s := by
  have X := X₀.keeps F.keep
  refine codeAny_call_def (fd := fnOf name qual params body scope dV kV doc pm an cdv ct) (body := body) (binds := binds) hroom (X _ _ ho) rfl (T.nolimit.keeps F.keep) (codeRec_of X hcd) rfl hbind hcell hloc (fun h₁ hns hk₁ => ?_) hco hgen hk
  obtain ⟨oL, es, ep, hLg, hLd, hN, hNs, st, B₂⟩ := kts_enter B F N hA hck
  refine wpAny_mono (h _ s.heap.objs.size h₁ ⟨hN _ hLg, st, F.above⟩ ⟨hns, fun b o e => hk₁ b o (of_hideAll _ e), Nat.le_of_eq (hideAll_size _ _)⟩
    (fun p hp => ⟨hk₁ _ _ (N p hp).1, Nat.ne_of_lt (Heap.lt_size (N p hp).1), hideAll_none _ (List.mem_map_of_mem hp)⟩) B₂ (X₀.keeps st) (T.keeps st)) (fun fl s' hl => ?_) fun _ _ y => y
  obtain ⟨g', L', m', news', FL', F', N', k⟩ := hl
  obtain ⟨oL', es', ep', hL', hLd', hLk', hLf'⟩ := FL'.ns
  refine k ⟨⟨oL', es', ep', F'.keep _ _ hL', hLd', hLk', hLf'⟩, fun b o e => F'.keep b o (FL'.keep b o e), F.above⟩ fun p hp => ⟨(N' p hp).1, fun q => ?_, ?_⟩
  · have := (N' p hp).2.2; rw [q, hL'] at this; cases this
  · cases q : h₀.get? p.1 with
    | none => rfl
    | some o => have := (N' p hp).2.2; rw [FL'.keep _ _ q] at this; cases this
in #guard_msgs (drop info, drop warning) in open Nat
end
end Mine
-- Ref1
namespace Mine
section
variable {prog : Program} {w : World} {A : Around} {E : Value → Shared → Prop} {h : Heap} {g : Array GenState} {d : Drawn} {t : Nat} {os : OsState} {a : Addr} {o : Obj}
  {nm q : Str} {C N : Addr} {bs bm : List Value} {hdct : Bool} {sn : List Str} {sub : List Value} {ab : Bool} {col : Option Bool} {dd : Option Addr} {k0 k1 k2 k3 k5 : Option Value} {newId : String} {K : Frag} {od : Obj} {name : Str} {v : Value}
set_option Elab.async true in
theorem x_check_ga {M : Model} {nameV : Value} {Q : Unit → Shared → Prop} (hC : h.get? C = some (excClassObj nm q C N bs bm hdct sn sub ab col dd k0 k1 k2 k3 k5 newId)) (hb : bm.contains (.type "BaseException") = true)
    (hx : h.get? a = some o) (hc : o.cls = .ref C) (hq : Q () ⟨h, g, d, t, os⟩) : wpAny M A (checkBuiltinCall "BaseException.__getattribute__" ⟨[.ref a, nameV], []⟩) Q E ⟨h, g, d, t, os⟩ := by
  have hk : builtinKind "BaseException.__getattribute__" = some .slot := by decide +kernel
  have hsplit : splitId "BaseException.__getattribute__" = some ("BaseException", "__getattribute__") := by decide +kernel
  have hcB : (Value.ref C :: bm).contains (.type "BaseException") = true := by rw [List.contains_cons, hb, Bool.or_true]
  have ha := F.args_bexc_ga (.ref a) nameV
  simp only [checkBuiltinCall, hk, hsplit]
  refine wpAny_bind ?_
  · unfold isInstance
    repeat (first | (with_reducible refine wpAny_loadPart_at hx ?_; rw [hc]) | (with_reducible refine wpAny_isSubtype_exc hC ?_; rw [hcB]) | wp_step)
    exact hq
in #guard_msgs (drop info, drop warning) in open Nat
theorem x_entry_ga {tk : Tok} {Q : Fin → Shared → Prop} (X : K.In h) (I : InstAt h a o C (some od)) (hf : findObj K C (some od) name = some (.value v)) (hq : Q (.done (.ret v)) ⟨h, g, d, t, os⟩) :
    wpAny (model prog w) A (Builtin.«object.__getattribute__» ⟨[.ref a, .str name tk], []⟩) Q E ⟨h, g, d, t, os⟩ := by
  have L0 := I.type (M := model prog w)
  have L1 := looks_find (M := model prog w) X I hf
  refine wpAny_bind (wpAny_pure (wpAny_bind (wpAny_pure (wpAny_bind (L0.at (wpAny_bind (L1.at ?_)))))))
  exact wpAny_pure hq
set_option Elab.async true in
theorem x_by_own {tk : Tok} {fill expr : Bool} {Q : Value → Shared → Prop} (X : K.In h) (I : InstAt h a o C (some od)) (hC : h.get? C = some (excClassObj nm q C N bs bm hdct sn sub ab col dd k0 k1 k2 k3 k5 newId)) (hb : bm.contains (.type "BaseException") = true)
    (hga : findIn K (.ref C) "__getattribute__" = some (some (.builtin "BaseException.__getattribute__"))) (hno : findIn K (.ref C) "__getattr__" = some none)
    (hf : findObj K C (some od) name = some (.value v)) (hh : handedIn v = true) (hq : Q v ⟨h, g, d, t, os⟩) :
    wpAny (model prog w) A (getAttrBy (.ref a) (.str name tk) fill expr) Q E ⟨h, g, d, t, os⟩ := by
  have FB := PySem.F.attr_Exception
  have f3 := FB.ga.bind (.ref a)
  have L0 := I.type (M := model prog w)
  have L1 := looks_findIn (M := model prog w) X hga
  have L2 := looks_findIn (M := model prog w) X hno
  have hx0 : (expr && onTheHeap (Value.builtin "BaseException.__getattribute__")) = false := by cases expr <;> rfl
  have hx2 : (Value.builtin "BaseException.__getattribute__" == Value.builtin "object.__getattribute__") = false := by decide +kernel
  have hx1 : (onTheHeap (Value.ref C) && Value.builtin "BaseException.__getattribute__" == Value.builtin "object.__getattribute__") = false := by rw [hx2]; rfl
  unfold getAttrBy
  refine wpAny_holding (wpAny_bind (L0.at (wpAny_bind (L1.at ?_))))
  dsimp only
  rw [hx1, if_neg Bool.false_ne_true]
  unfold getAttrByItsOwn hookBefore
  refine wpAny_bind ?_
  rw [show onTheHeap (Value.ref C) = true from rfl, if_pos rfl]
  refine L2.at ?_
  repeat (any_goals (first | assumption | wp_step))
  refine codeAny_call_builtin FB.ga.plain F.entry_bexc_ga (x_check_ga hC hb I.at_ I.cls (x_entry_ga X I hf ?_))
  show wpAny (model prog w) A (handedOut v) Q E _
  rw [handedOut_of hh]
  exact wpAny_pure hq
in #guard_msgs (drop info, drop warning) in open Nat
end
section
variable {w : World} {A : Around} {E : Value → Shared → Prop} {s : Shared} {h₀ : Heap} {L : Addr} {m : Str → Option Value}
theorem m_getE {e : Addr} {oe : Obj} {es : List DictEntry} {n : Nat} {name : Str} {expr : Bool} {v : Value} {Q : Value → Shared → Prop} (F : Fr h₀ L s.heap m) (X₀ : (hd.heap_39 w.params).In h₀) (I : InstAt s.heap e oe 76 (some (dictOf es n)))
    (ha : findIn (hd.heap_39 w.params) (.ref 76) name = some none) (hl : getL name es = some (some v)) (hv : handedIn v = true) (h : Q v { s with toks := s.toks + 1 }) : wpAny (model LAW.row.prog w) A (getAttr (.ref e) name expr) Q E s := by
  have X := X₀.keeps F.keep
  obtain ⟨hh, g, d, t, os⟩ := s
  k_extra "c43"
  unfold getAttr
  refine wpAny_bind (wpAny_mkText ?_)
  exact x_by_own X I hC (by rfl) (by rfl) (by rfl) (findObj_own (by rfl) ha rfl hl) hv h
end
end Mine
-- Ref
namespace Mine
section
variable {w : World} {mean : ExcName → Option Value} {mg mb : Str → Option Value} {dp un : Nat} {gd : Option (List Code)} {cn : Str} {cs : Scope} {a : Addr} {ccd : Value} {cl : List (Str × Addr)} {outer : List Env} {A₀ : Around} {base h₀ : Heap} {L : Addr} {m : Str → Option Value} {s : Shared} {Q E : Value → Shared → Prop} {all : Led}
set_option Elab.async true in
theorem read_useE {t : Str} {tk : Tok} {ws : Toks} {sp : Nat} (C : ∀ tk, ReadC w mean mg mb t tk ws) (hres : pRead ws = .err sp) (B : Below A₀ base outer h₀) (F : Fr h₀ L s.heap m) (X : (hd.heap_39 w.params).In h₀) (N : News h₀ L s.heap all) (T : Top view (looseW view []) mean mg mb h₀) (hk : cs.kind = .function)
    (hd : dp + 60 < recursionLimit) (hu : un + 1400 < cLine)
    (h : ∀ e h' tk' g, FaultAt w base (envX cn cs L a ccd cl :: outer) e sp all h' → Fr h₀ L g m → g.UpToSlots h' → E (.ref e) { s with heap := h', toks := tk' }) :
    wpAny (model PySem.Challenge.rw_pq0122_01.row.prog w) (ktrTop dp un gd cn cs L a ccd cl outer) (call (.ref 269) [.str t tk]) Q E s := by
  refine C tk dp un gd cn cs a ccd cl outer A₀ base h₀ L m s Q E all B F X N T hk hd hu ?_ ?_ ?_
  · intro r tl h' tk' v p' e; rw [hres] at e; cases e
  · intro e h' tk' sp' g e'; rw [hres] at e'; cases e'; exact h e h' tk' g
  · rw [hres]; intro e; cases e
in #guard_msgs (drop info, drop warning) in open Nat
theorem m_excInst2 {h : Heap} {e d : Addr} {oe : Obj} {news : Led} {what : Str} {t tk u tk2 : Tok} {sp : Int} (N : News h₀ L h news) (hm : (e, oe) ∈ news) (hmd : (d, spotD w what t tk sp u tk2) ∈ news) (hc : oe.cls = .ref 76) (hdd : oe.dict = some d) (hf : ∃ vs, oe.data = .fields vs) :
    InstAt h e oe 76 (some (spotD w what t tk sp u tk2)) := by
  obtain ⟨vs, hf⟩ := hf
  exact ⟨(N _ hm).1, hc, by unfold notCls; rw [hf], by rw [hdd]; exact (N _ hmd).1⟩
end
end Mine
namespace Mine
example : True := by
  k_with "k_all" => first | ((fail_if_success have hzz := eRef1); (first | with_reducible assumption | with_reducible exact List.forall_mem_nil _ | ((with_reducible refine List.forall_mem_cons.mpr ⟨?_, ?_⟩) <;> first | k_ne | k_all) | ((with_reducible refine List.forall_mem_append.mpr ⟨?_, ?_⟩) <;> k_all) | assumption)) | fail
  k_with "k_mem" => first | ((fail_if_success have hzz := eRef1); ((repeat (first | exact List.Mem.head _ | apply List.Mem.tail | apply mem_inr | with_reducible assumption | assumption)); done)) | fail
  k_with "k_room" => first | ((fail_if_success have hzz := eRef1); (ktr_room)) | fail
  k_with "ktr_room" => first | ((fail_if_success have hzz := eRef1); ((try dsimp only [ktrTop]); omega)) | fail
  k_with "ktr_units" => first | ((fail_if_success have hzz := eRef1); ((try dsimp only [ktrTop]); omega)) | fail
  k_with "call ref" => first | ((fail_if_success have hzz := eRef1); (k_here; (with_reducible show wpAny _ _ (call (Value.ref 95) _) _ _ _); first | (k_dflt (refine isop_use (by k_asm) (by k_asm) (by k_asm) (by k_asm) (by k_asm) (by k_extra "c9") (by k_extra "c20") (by k_extra "c32") (by ktr_room) (by ktr_units) ?_); intro qh9 qtk9' qF9 qN9; (try k_sweep); (try k_fold)) | refine stuck_of ?_)) | fail
  k_with "call ref" => first | ((fail_if_success have hzz := eRef1); (k_here; (with_reducible show wpAny _ _ (call (Value.ref 166) _) _ _ _); first | (k_dflt (refine word_use (by k_asm) (by k_asm) (by k_asm) (by k_asm) (by k_asm) (by k_extra "c9") (by k_mem) (by k_mem) (WordsAt.mono (by k_asm) (fun p hp => by k_mem)) (by k_asm) (by omega) (by ktr_room) (by ktr_units) ?_); intro qtk9 qh9 qtk9' qF9 qN9; (try k_sweep); (try k_fold)) | (k_dflt (refine word_any (by k_asm) (by k_asm) (by k_asm) (by k_asm) (by k_asm) (by k_asm) (by k_asm) (by k_extra "c9") (by k_mem) (by k_mem) (WordsAt.mono (by k_asm) (fun p hp => by k_mem)) (by ktr_room) (by ktr_units) ?_ ?_); rotate_left; intro qy9 qtk9 qh9 qtk9' qe9 ql9 qz9 qF9 qN9; (try k_sweep); (try k_fold)) | refine stuck_of ?_)) | fail
  k_with "call ref" => first | ((fail_if_success have hzz := eRef1); (k_here; (with_reducible show wpAny _ _ (call (Value.ref 173) _) _ _ _); first | (k_dflt (refine spot_use (by k_asm) (by k_asm) (by k_asm) (by k_asm) (by k_asm) (by k_extra "c9") (by k_mem) (by k_mem) (WordsAt.mono (by k_asm) (fun p hp => by k_mem)) (by k_asm) (by omega) (by ktr_room) (by ktr_units) ?_); intro qtk9 qh9 qtk9' qF9 qN9; (try k_sweep); (try k_fold)) | (k_dflt (refine spot_any (by k_asm) (by k_asm) (by k_asm) (by k_asm) (by k_asm) (by k_asm) (by k_extra "c9") (by k_mem) (by k_mem) (WordsAt.mono (by k_asm) (fun p hp => by k_mem)) (by ktr_room) (by ktr_units) ?_ ?_); rotate_left; intro qy9 qtk9 qh9 qtk9' qe9 ql9 qF9 qN9; (try k_sweep); (try k_fold)) | refine stuck_of ?_)) | fail
  k_with "call ref" => first | ((fail_if_success have hzz := eRef1); (k_here; (with_reducible show wpAny _ _ (call (Value.ref 180) _) _ _ _); first | (k_dflt (refine take_use (by k_asm) (by k_asm) (by k_asm) (by k_asm) (by k_asm) (by k_extra "c9") (by k_extra "c3") (by k_mem) (by k_all) (WordsAt.mono (by k_asm) (fun p hp => by k_mem)) (by k_asm) (by omega) (by ktr_room) (by ktr_units) ?_); intro qtk9 qu9 qh9 qtk9' qF9 qN9; (try k_sweep); (try k_fold)) | refine stuck_of ?_)) | fail
  k_with "call ref" => first | ((fail_if_success have hzz := eRef1); (k_here; (with_reducible show wpAny _ _ (call (Value.ref 76) _) _ _ _); first | (k_dflt (refine fault_make (by k_asm) (by k_asm) (by k_asm) (by k_asm) (by k_asm) (by k_extra "c9") (by ktr_room) ?_); intro qe9 qd9 qT9 qtk9 qtk8 qtl9 qh9 qtk7 qF9 qN9 ql9 q9) | refine stuck_of ?_)) | fail
  k_with "exec Raise some none" => first | ((fail_if_success have hzz := eRef1); (k_here; k_dflt (refine x_Raise (by first | rfl | assumption) ?_))) | fail
  k_with "RaisableF" => first | ((fail_if_success have hzz := eRef1); (k_dflt (refine raisF (by k_asm) (by k_asm) (by k_asm) (by k_mem) ?_))) | fail
  k_with "leaving ref" => first | ((fail_if_success have hzz := eRef1); (k_here; k_dflt (refine leave_faultR (by k_asm) (by k_asm) (by k_asm) (by k_asm) (by k_mem) (by k_extra "c3") (by k_asm) (fun p hp => by k_mem) (fun p hp => Nat.ne_of_lt (l9_of (by k_asm) p (by k_mem))) rfl rfl ?_); intro qh9 qR9 qU9; refine stuck_of ?_)) | fail
  k_with "callWith ref cons nil" => first | ((fail_if_success have hzz := eRef1); (k_here; k_dflt (first | (refine callWith_K0 (by k_in) (by k_is) ?_; k_whole) | (refine callWith_K (by k_asm) (by k_is) ?_; k_whole)))) | fail
  k_with "k_in" => first | ((fail_if_success have hzz := eRef1); (first | with_reducible assumption | with_reducible exact Frag.In.keeps (by with_reducible assumption) (Fr.keep (by with_reducible assumption)) | exact Frag.In.keeps (by k_asm) (Fr.keep (by k_asm)))) | fail
  k_with "k_all" => first | ((fail_if_success have hzz := eRef1); (first | with_reducible assumption | with_reducible exact List.forall_mem_nil _ | ((with_reducible refine List.forall_mem_cons.mpr ⟨?_, ?_⟩) <;> first | k_ne | k_all) | ((with_reducible refine List.forall_mem_append.mpr ⟨?_, ?_⟩) <;> k_all) | exact ne_all (by with_reducible assumption) | exact fun p hp => Above.at (by assumption) (by k_mem) hp | exact fun q hq => Nat.ne_of_lt (ktn_ltOf (by assumption) q hq) | assumption)) | fail
  k_with "ktr_room" => first | ((fail_if_success have hzz := eRef1); (first | ((try dsimp only [ktrTop]); omega) | ((simp only [depth_under_make, depth_deeper, ktrTop]); omega))) | fail
  k_with "ktr_units" => first | ((fail_if_success have hzz := eRef1); (first | ((try dsimp only [ktrTop]); omega) | ((simp only [units_under_make, units_deeper, ktrTop]); omega))) | fail
  k_with "k_inst" => first | ((fail_if_success have hzz := eRef1); (exact m_excInst2 (by k_asm) (by k_mem) (by k_mem) (by assumption) (by assumption) (by assumption))) | fail
  k_with "call ref" => first | ((fail_if_success have hzz := eRef1); (k_here; (with_reducible show wpAny _ _ (call (Value.ref 269) _) _ _ _); k_dflt (refine read_useE (by assumption) (by assumption) (by k_asm) (by k_asm) (by k_asm) (by k_asm) (by k_asm) (by k_extra "c9") (by ktr_room) (by ktr_units) ?_); intro qe9 qh9 qtk9 qg9 qR9 qF9 qU9)) | fail
  k_with "noteFrame ref" => first | ((fail_if_success have hzz := eRef1); (k_here; k_dflt (refine caught_F (by k_asm) (by k_asm) (by k_asm) (by k_asm) (by k_asm) (by k_asm) (by k_asm) (by k_asm) (by k_is) ?_ (by rfl) (by rfl) (by rfl) (by decide)); intro qh9 qg9 qoe9 qd9 qwhat9 qt9 qtk9 qu9 qtk8 qtk7 qFL9 qF9 qN9 qc9 qdd9 qf9 qB9 qX9 qT9)) | fail
  k_with "getAttr ref" => first | ((fail_if_success have hzz := eRef1); (k_here; k_dflt (refine m_getE (by k_asm) (by k_asm) (by k_inst) (by rfl) (by k_get) (by rfl) ?_))) | fail
  k_with "LeaveF" => first | ((fail_if_success have hzz := eRef1); (k_dflt (refine leaveF_ (by k_asm) (by k_asm) (by k_asm) ?_); intro qkF qkN)) | fail
  trivial
set_option Elab.async true in
set_option maxHeartbeats 1000000 in
theorem refused_tri (w : World) (mean mg mb) (t : Str) (tk : Tok) (ws : Toks) (sp : Nat) (C : ∀ tk, ReadC w mean mg mb t tk ws) (hres : pRead ws = .err sp) :
    ∀ (dp un : Nat) (gd : Option (List Code)) (cn : Str) (cs : Scope) (a : Addr) (ccd : Value) (A₀ : Around) (h₀ : Heap) (L : Addr) (m : Str → Option Value) (s : Shared) (Q E : Value → Shared → Prop) (news : Led),
    Below A₀ h₀ [] h₀ → Fr h₀ L s.heap m → (hd.heap_39 w.params).In h₀ → News h₀ L s.heap news → Top view (looseW view []) mean mg mb h₀ → cs.kind = .function → dp + 64 < recursionLimit → un + 1480 < cLine →
    (∀ h' tk' tk2, Fr h₀ L h' m → News h₀ L h' news → Q (.int sp tk2) { s with heap := h', toks := tk' }) →
    wpAny (model PySem.Challenge.rw_pq0122_01.row.prog w) (ktrTop dp un gd cn cs L a ccd [] []) (call (.ref 332) [.str t tk]) Q E s := by
  k_extra "c11"
  clear hK
  w_top off
  intro dp un gd cn cs a ccd A₀ h₀ L m s Q E news B F X N T hk hd hu hok
  refine wpAny_call ?_
  k_dflt (refine' code_defF ?k1 ?k2 ?k3 ?k4 ?k5 ?kA ?k6 ?k7 ?k8 ?k9 ?kB ?_ ?c1 ?c2 ?c3 ?c4 ?c5; (case kA => exact rfl); (case k1 => k_asm); (case k2 => k_asm); (case k3 => k_asm); (case k4 => k_asm); (case k5 => k_asm); (case k6 => k_is); (case k7 => k_is); (case k8 => ktr_room); (case k9 => exact BindsTo.of_eq rfl); (case c5 => decide); (case kB => exact locs rfl); (case c1 => assumption); (case c2 => exact rfl); (case c3 => exact rfl); (case c4 => exact rfl); k_whole; intro g' L' h' FG' F' N' B' X' T'; (try dsimp only); (try k_fold))
  k_steps
  k_extra "c66"
  exact hok _ _ _ kF (News.sub kN fun p hp => .tail _ (.tail _ hp))
in #guard_msgs (drop info, drop warning) in open Nat
theorem eRef1 : True := trivial
end Mine
-- PL8
namespace Mine
example : True := by
  k_with "omega" => first | ((fail_if_success have hzz := ePL81); (first | k_extra "ub" | (simp +arith only; done) | k_extra "fk" | lia | omega (config := {}))) | fail
  trivial
example : True := by
  k_with "fk" => first | ((fail_if_success have hzz := ePL81); (with_reducible (first | exact fk231 (by assumption) | exact fk232 (by assumption) | exact fk233 (by assumption) | exact fk59 (by assumption) | exact fk234 (by assumption) (by assumption) | exact fk235 (by assumption) | exact fk186 (by assumption) | exact fk236 (by assumption) | exact fk237 (by assumption) | exact fk58 (by assumption) | exact fk56 (by assumption) | exact fk238 (by assumption) | exact fk239 (by assumption) (by assumption)))) | fail
  trivial
open LCg
noncomputable def tmDat : Tm → Dat
  | .leaf op => .tuple [.str op]
  | .one op a => .tuple [.str op, tmDat a]
  | .two op a b => .tuple [.str op, tmDat a, tmDat b]
theorem tm_in {news : Led} {v : Value} {t : Tm} (h : IsTm news v t) : DatIn news v (tmDat t) := by
  induction h with
  | leaf hm => exact .tuple hm (.cons (.str _ _) .nil)
  | one hm _ ih => exact .tuple hm (.cons (.str _ _) (.cons ih .nil))
  | two hm _ _ ih1 ih2 => exact .tuple hm (.cons (.str _ _) (.cons ih1 (.cons ih2 .nil)))
noncomputable def rowDat : List (Str × Tm) → List Dat
  | [] => []
  | (x, t) :: ps => .tuple [.str x, tmDat t] :: rowDat ps
theorem row_in {news : Led} {vs : List Value} {ps : List (Str × Tm)} (h : IsRow news vs ps) : DatAll news vs (rowDat ps) := by
  induction h with
  | nil => exact .nil
  | cons hm t _ ih => exact .cons (.tuple hm (.cons (.str _ _) (.cons (tm_in t) .nil))) ih
noncomputable def ppDat : Pp → Dat
  | .told l => .tuple [.str kTold, .str l]
  | .same t => .tuple [.str kSame, tmDat t]
  | .rule l ps => .tuple [.str kRule, .str l, .tuple (rowDat ps)]
  | .turn p => .tuple [.str kTurn, ppDat p]
  | .join p q => .tuple [.str kJoin, ppDat p, ppDat q]
  | .under0 l => .tuple [.str kUnder, .str l, .tuple []]
  | .under1 l p => .tuple [.str kUnder, .str l, .tuple [ppDat p]]
  | .under2 l p q => .tuple [.str kUnder, .str l, .tuple [ppDat p, ppDat q]]
set_option Elab.async true in
theorem pp_in {news : Led} {v : Value} {p : Pp} (h : IsPp news v p) : DatIn news v (ppDat p) := by
  induction h with
  | told hm e => subst e; exact .tuple hm (.cons (.str _ _) (.cons (.str _ _) .nil))
  | same hm e t => subst e; exact .tuple hm (.cons (.str _ _) (.cons (tm_in t) .nil))
  | rule hm e hb r => subst e; exact .tuple hm (.cons (.str _ _) (.cons (.str _ _) (.cons (.tuple hb (row_in r)) .nil)))
  | turn hm e _ ih => subst e; exact .tuple hm (.cons (.str _ _) (.cons ih .nil))
  | join hm e _ _ ih1 ih2 => subst e; exact .tuple hm (.cons (.str _ _) (.cons ih1 (.cons ih2 .nil)))
  | under0 hm e hb => subst e; exact .tuple hm (.cons (.str _ _) (.cons (.str _ _) (.cons (.tuple hb .nil) .nil)))
  | under1 hm e hb _ ih => subst e; exact .tuple hm (.cons (.str _ _) (.cons (.str _ _) (.cons (.tuple hb (.cons ih .nil)) .nil)))
  | under2 hm e hb _ _ ih1 ih2 => subst e; exact .tuple hm (.cons (.str _ _) (.cons (.str _ _) (.cons (.tuple hb (.cons ih1 (.cons ih2 .nil))) .nil)))
in #guard_msgs (drop info, drop warning) in open Nat
theorem ok_str (n : Nat) {x : Str} (h : OkWd x) : kqdOk n (.str x) = true := by
  cases n <;> (unfold kqdOk; exact strOk_asc h.2.1)
theorem ok_tup {n : Nat} {ds : List Dat} (h : ∀ d ∈ ds, kqdOk n d = true) : kqdOk (n + 1) (.tuple ds) = true := by
  unfold kqdOk; exact List.all_eq_true.mpr h
theorem all_one {α : Type} {p : α → Prop} {a : α} (h : p a) : ∀ x ∈ [a], p x := fun x hx => by obtain rfl := List.mem_singleton.mp hx; exact h
theorem all_cons {α : Type} {p : α → Prop} {a : α} {l : List α} (h : p a) (k : ∀ x ∈ l, p x) : ∀ x ∈ a :: l, p x := fun x hx => by
  k_extra "c41"
  · exact h
  · exact k x hx
theorem ok_tm : ∀ {t : Tm} {n : Nat}, tmDepth t < n → (∀ x ∈ tmWords t, OkWd x) → kqdOk n (tmDat t) = true
  | .leaf op, n + 1, _, w => ok_tup (all_one (ok_str _ (w _ (.head _))))
  | .one op a, n + 1, h, w => ok_tup (all_cons (ok_str _ (w _ (.tail _ (.head _)))) (all_one (ok_tm (by simp only [tmDepth] at h; omega) fun x hx => w x (.tail _ (.tail _ (List.mem_append_left _ hx))))))
  | .two op a b, n + 1, h, w => ok_tup (all_cons (ok_str _ (w _ (.tail _ (.head _)))) (all_cons (ok_tm (by simp only [tmDepth] at h; omega) fun x hx => w x (.tail _ (.tail _ (List.mem_append_left _ hx))))
      (all_one (ok_tm (by simp only [tmDepth] at h; omega) fun x hx => w x (.tail _ (.tail _ (List.mem_append_right _ (List.mem_append_left _ hx))))))))
theorem ok_row : ∀ {ps : List (Str × Tm)} {n : Nat}, (∀ x ∈ ps, tmDepth x.2 + 1 < n) → (∀ x ∈ rowWords ps, OkWd x) → ∀ d ∈ rowDat ps, kqdOk n d = true
  | [], _, _, _ => fun d hd => nomatch hd
  | (x, t) :: ps, 0, h, _ => absurd (h _ (.head _)) (Nat.not_lt_zero _)
  | (x, t) :: ps, n + 1, h, w => all_cons (ok_tup (all_cons (ok_str _ (w _ (.head _))) (all_one (ok_tm (by have := h _ (.head _); dsimp only at this; omega) fun y hy => w y (.tail _ (List.mem_append_left _ hy))))))
      (ok_row (fun y hy => h y (.tail _ hy)) fun y hy => w y (.tail _ (List.mem_append_right _ hy)))
theorem ok_pp : ∀ {p : Pp} {n : Nat}, GoodPp p → 2 * ppDepth p + 8 ≤ n → PpWds p → kqdOk n (ppDat p) = true
  | p, 0, _, h, _ => absurd h (by omega)
  | .told l, n + 1, _, h, w => ok_tup (all_cons (ok_str _ kind_ok.2.1) (all_one (ok_str _ w)))
  | .same t, n + 1, g, h, w => ok_tup (all_cons (ok_str _ kind_ok.1) (all_one (ok_tm (by have := g.2; omega) w)))
  | .rule l ps, n + 1, g, h, w => by
    k_extra "c81"
    exact ok_tup (all_cons (ok_str _ kind_ok.2.2.1) (all_cons (ok_str _ w.1) (all_one (ok_tup (ok_row (fun x hx => by have := (g.2.depth.2 x hx).1; omega) w.2)))))
  | .turn p, n + 1, g, h, w => ok_tup (all_cons (ok_str _ kind_ok.2.2.2.1) (all_one (ok_pp g (by simp only [ppDepth] at h; omega) w)))
  | .join p q, n + 1, g, h, w => ok_tup (all_cons (ok_str _ kind_ok.2.2.2.2.1) (all_cons (ok_pp g.1 (by simp only [ppDepth] at h; omega) w.1) (all_one (ok_pp g.2 (by simp only [ppDepth] at h; omega) w.2))))
  | .under0 l, n + 1, g, h, w => by
    k_extra "c81"
    exact ok_tup (all_cons (ok_str _ kind_ok.2.2.2.2.2) (all_cons (ok_str _ w) (all_one (ok_tup fun d hd => nomatch hd))))
  | .under1 l p, n + 1, g, h, w => by
    simp only [ppDepth] at h
    k_extra "c81"
    exact ok_tup (all_cons (ok_str _ kind_ok.2.2.2.2.2) (all_cons (ok_str _ w.1) (all_one (ok_tup (all_one (ok_pp g.2 (by omega) w.2))))))
  | .under2 l p q, n + 1, g, h, w => by
    simp only [ppDepth] at h
    k_extra "c81"
    exact ok_tup (all_cons (ok_str _ kind_ok.2.2.2.2.2) (all_cons (ok_str _ w.1) (all_one (ok_tup (all_cons (ok_pp g.2.1 (by omega) w.2.1) (all_one (ok_pp g.2.2 (by omega) w.2.2)))))))
section
variable {prog : Program} {w : World} {A : Around} {E : Value → Shared → Prop} {s : Shared} {h₀ : Heap} {L : Addr} {news : Led} {Q : Value → Shared → Prop}
theorem m_nePp {v v' : Value} {p : Pp} (N : News h₀ L s.heap news) (hv : IsPp news v p) (hv' : IsPp news v' p) (k : Nice p) (hu : A.units + 64 < cLine) (h : Q (.bool false) s) : wpAny (model prog w) A (compareOp .NotEq v v') Q E s := by
  have ok := ok_pp (p := p) (n := 14) k.good (by have := k.depth; omega) k.wds
  obtain ⟨as, ra⟩ := kqd_in N 14 (pp_in hv) ok
  obtain ⟨bs, rb⟩ := kqd_in N 14 (pp_in hv') ok
  have l := kqd_lay 14 _ ok
  have e : PyData.eqv (kqdP (ppDat p)) (kqdP (ppDat p)) = true := (kqd_eqv 14 _ _ 14 ok ok).mpr rfl
  have sh : SeqAt.shaped (kqdP (ppDat p)) = true := by unfold SeqAt.shaped; rw [l.1, Bool.true_and]; exact decide_eq_true (Nat.le_trans l.2 (by decide))
  exact ne_dataH ra rb sh sh hu (by rw [e]; exact h)
theorem m_neS {x y : Str} {t u : Tok} (e : x = y) (h : Q (.bool false) s) : wpAny (model prog w) A (compareOp .NotEq (.str x t) (.str y u)) Q E s := by
  subst e
  refine ne_str ?_
  have : (x != x) = false := by simp
  rw [this]; exact h
theorem ints_dat {news : Led} : ∀ {vs : List Value} {ns : List Int}, IntsAre vs ns → DatAll news vs (ns.map Dat.int)
  | _, _, .nil => .nil
  | _, _, .cons n t r => .cons (.int _ _) (ints_dat r)
theorem m_eqInts {a b : Addr} {xs ys : List Value} {ns : List Int} {ka kb : Nat} (N : News h₀ L s.heap news) (ma : (a, listOf xs.toArray ka) ∈ news) (mb : (b, listOf ys.toArray kb) ∈ news) (hx : IntsAre xs ns) (hy : IntsAre ys ns) (hu : A.units + 64 < cLine) (h : Q (.bool true) s) :
    wpAny (model prog w) A (compareOp .Eq (.ref a) (.ref b)) Q E s := by
  have ok : ∀ d ∈ ns.map Dat.int, kqdOk 8 d = true := fun d hd => by obtain ⟨x, _, rfl⟩ := List.mem_map.mp hd; rfl
  exact kqd_eq N ma rfl rfl (ints_dat hx) (fun _ h => h) mb rfl rfl (ints_dat hy) (fun _ h => h) ok ok hu (by simpa using h)
end
inductive IsBent (news : Led) : List Value → List (Str × Int) → Prop
  | nil : IsBent news [] []
  | cons {c : Addr} {x : Str} {tk u : Tok} {i : Int} {n : Nat} {vs : List Value} {l : List (Str × Int)} : (c, tupO [.str x tk, .int i u] n) ∈ news → IsBent news vs l → IsBent news (.ref c :: vs) ((x, i) :: l)
theorem IsBent.mono {news news' : Led} {vs : List Value} {l : List (Str × Int)} (h : IsBent news vs l) (hs : ∀ p ∈ news, p ∈ news') : IsBent news' vs l := by
  induction h with
  | nil => exact .nil
  | cons hm _ ih => exact .cons (hs _ hm) ih
theorem IsBent.length {news : Led} {vs : List Value} {l : List (Str × Int)} (h : IsBent news vs l) : vs.length = l.length := by
  induction h with
  | nil => rfl
  | cons _ _ ih => simp [ih]
theorem IsBent.pairs {news : Led} {vs : List Value} {l : List (Str × Int)} (h : IsBent news vs l) : ∃ pv : Nat → Value × Value, ∀ i v, vs[i]? = some v → ∃ t n x i' tk u, v = .ref t ∧ (t, tupO [(pv i).1, (pv i).2] n) ∈ news ∧ l[i]? = some (x, i') ∧ (pv i).1 = .str x tk ∧ (pv i).2 = .int i' u := by
  induction h with
  | nil => exact ⟨fun _ => (.none, .none), fun i v e => by cases e⟩
  | @cons c x tk u i n vs l hm _ ih =>
    obtain ⟨pv, hpv⟩ := ih
    refine ⟨fun j => match j with | 0 => (.str x tk, .int i u) | j + 1 => pv j, fun j v e => ?_⟩
    cases j with
    | zero => cases e; exact ⟨c, n, x, i, tk, u, rfl, hm, rfl, rfl, rfl⟩
    | succ j => exact hpv j v e
noncomputable def AllBad (l : List (Str × Int)) : Prop := ∀ x ∈ l, ∃ sp : Nat, x.2 = sp ∧ Bad x.1 sp
theorem IntsAre.snoc {vs : List Value} {ns : List Int} (h : IntsAre vs ns) (i : Int) (t : Tok) : IntsAre (vs ++ [.int i t]) (ns ++ [i]) := by
  induction h with
  | nil => exact .cons _ _ .nil
  | cons n t _ ih => exact .cons _ _ ih
set_option Elab.async true in
theorem src_bent {prog : Program} {w : World} {A : Around} {h₀ : Heap} {L : Addr} {m : Str → Option Value} {env : Env} {elt : Expr} {x x₂ : Str} {px px₂ tp : Pos} {tk} {scope : Scope} {cl : List (Str × Addr)} {Fin : Shared → List Value → Led → Prop} {s₁ : Shared}
    {ax : Addr} {oS : Obj} {us : List Value} {l : List (Str × Int)} {rest : Led} (hh : A.handled = none) (F : Fr h₀ L s₁.heap m) (N : News h₀ L s₁.heap rest)
    (hax : (ax, oS) ∈ rest) (hO : SrcO oS us.toArray) (hU : IsBent rest us l) (hx : scope.names.lookup x = some .local) (hx₂ : scope.names.lookup x₂ = some .local) (hxx : x ≠ x₂)
    (hend : ∀ (g : Heap) ys, IntsAre ys (l.map Prod.snd) → Fin { s₁ with heap := g } ys rest)
    (step : ∀ ys (Next : Value → Led → Prop) (S : Led → Prop) y i yt it, (y, i) ∈ l → ys.length ≤ l.length → (∀ nw, (∀ p ∈ rest, p ∈ nw) → S nw) → (∀ tk, Next (.int i tk) rest) →
      ∀ I oI C oC D m₂ h tk (E' : Value → Shared → Prop), NsObj oC m₂ → m₂ x = some (.str y yt) → m₂ x₂ = some (.int i it) → Fr h₀ L h m → News h₀ L h ((I, oI) :: (C, oC) :: (D, lst ys) :: rest) → Off3 I C D rest → ((@Ne Nat I C) ∧ (@Ne Nat I D) ∧ (@Ne Nat C D)) →
      wpAny (model prog w) A (eval elt (compEnvC scope cl C env)) (CompEnd1 h₀ L m { s₁ with heap := h, toks := tk } I oI C oC D ys S Next) E' { s₁ with heap := h, toks := tk }) :
    Src1 prog w A h₀ L m env (.Tuple [.Name x px, .Name x₂ px₂] tk tp) elt scope cl Fin (.ref ax) s₁ := by
  obtain ⟨pv, hpv⟩ := hU.pairs
  k_extra "c46"
  · obtain ⟨t, n, _, _, _, _, rfl, hm, _⟩ := hpv i v (by simpa using e)
    exact ⟨t, n, rfl, hm⟩
  have hlen : us.toArray.size = l.length := by rw [List.size_toArray]; exact hU.length
  rw [hlen]
  refine rest1_ind (fun i ys nw => nw = rest ∧ IntsAre ys ((l.take i).map Prod.snd)) ⟨rfl, .nil⟩ ?_ ?_
  · rintro ys nw ⟨rfl, hS⟩
    rw [List.take_length] at hS
    exact hend g ys hS
  · rintro i ys nw Next hi ⟨rfl, hS⟩ hn I oI C oC D m₂ h tk9 E' hC ⟨hx1, hx2⟩ F9 N9 off ne
    k_extra "c117"
    obtain ⟨t, n, y, i', yt, it, e1, hm, hp, e2, e3⟩ := hpv i us[i] (by simp [hiu])
    have hyl : ys.length ≤ l.length := by rw [hS.length, List.length_map, List.length_take]; omega
    rw [e2] at hx1
    rw [e3] at hx2
    refine step ys Next _ y i' yt it (List.mem_of_getElem? hp) hyl (fun nw hk => ⟨hk _ hax, fun i v e => ?_⟩) (fun tk => hn _ _ ⟨rfl, by rw [take_snoc hp, List.map_append]; exact IntsAre.snoc hS _ _⟩) I oI C oC D m₂ h tk9 E' hC hx1 hx2 F9 N9 off ne
    obtain ⟨t, n, _, _, _, _, rfl, hm, _⟩ := hpv i v (by simpa using e)
    exact ⟨t, n, rfl, hk _ hm⟩
in #guard_msgs (drop info, drop warning) in open Nat
theorem ePL81 : True := trivial
end Mine
-- LawU
namespace Mine
set_option Elab.async true in
theorem plain_use {w : World} {mean : ExcName → Option Value} {mg mb : Str → Option Value} {dp un : Nat} {gd : Option (List Code)} {cn : Str} {cs : Scope} {a : Addr} {ccd : Value} {cl : List (Str × Addr)} {outer : List Env} {A₀ : Around} {base h₀ : Heap} {L : Addr} {m : Str → Option Value} {s : Shared} {Q E : Value → Shared → Prop} {ws : List Str} {vs : List Value} {n : Nat} {D : Addr} {all : Led} (B : Below A₀ base outer h₀) (F : Fr h₀ L s.heap m) (X : (hd.heap_39 w.params).In h₀) (N : News h₀ L s.heap all) (T : Top view (looseW view []) mean mg mb h₀) (hk : cs.kind = .function) (hD : (D, listOf vs.toArray n) ∈ all) (hS : StrsAre vs ws) (hlen : ws.length ≤ 1000) (hw : ∀ x ∈ ws, OkWd x)
    (hd : dp + 6 < recursionLimit) (hu : un + 100 < cLine)
    (h : ∀ tk h' tk', Fr h₀ L h' m → News h₀ L h' all → Q (.str (plainS nils ws) tk) { s with heap := h', toks := tk' }) :
    wpAny (model PySem.Challenge.rw_pq0122_01.row.prog w) (ktrTop dp un gd cn cs L a ccd cl outer) (call (.ref 318) [.ref D]) Q E s := by
  refine plain_tri w mean mg mb ws vs n D all hD hS hlen (fun x hx => (hw x hx).2.2) dp un gd cn cs a ccd cl outer A₀ base h₀ L m s Q E B F X N T hk hd hu ?_
  rintro r news' h' tk' F' N' ⟨tk, rfl, rfl⟩
  exact h tk h' tk' F' N'
in #guard_msgs (drop info, drop warning) in open Nat
set_option Elab.async true in
theorem loose_use {w : World} {mean : ExcName → Option Value} {mg mb : Str → Option Value} {dp un : Nat} {gd : Option (List Code)} {cn : Str} {cs : Scope} {a : Addr} {ccd : Value} {cl : List (Str × Addr)} {outer : List Env} {A₀ : Around} {base h₀ : Heap} {L : Addr} {m : Str → Option Value} {s : Shared} {Q E : Value → Shared → Prop} {P R D : Addr} {row : List Int} {rvs : List Value} {rn n k : Nat} {ws : List Str} {vs : List Value} {o : Obj} {all rest : Led} (B : Below A₀ base outer h₀) (F : Fr h₀ L s.heap m) (X : (hd.heap_39 w.params).In h₀) (N : News h₀ L s.heap all) (T : Top view (looseW view []) mean mg mb h₀) (hk : cs.kind = .function) (hl : row.length ≤ 60) (hI : IntsAre rvs row) (pk : Pick P o all rest) (hP : PenD w o R k) (hne : ∀ q ∈ rest, q.1 ≠ P) (hR : (R, listOf rvs.toArray rn) ∈ rest) (hD : (D, listOf vs.toArray n) ∈ rest) (hS : StrsAre vs ws) (hlen : ws.length ≤ 1000) (hw : ∀ x ∈ ws, OkWd x) (hkk : k ≤ 45000)
    (hd : dp + 6 < recursionLimit) (hu : un + 100 < cLine)
    (h : ∀ T tk pcs o' h' tk', Fr h₀ L h' m → News h₀ L h' ((P, o') :: rest) → PenD w o' R (k + 2 + ws.length) → Txt0 T pcs → wds pcs = ws → T.cps.size ≤ 20 * ws.length + 10 → Q (.str T tk) { s with heap := h', toks := tk' }) :
    wpAny (model PySem.Challenge.rw_pq0122_01.row.prog w) (ktrTop dp un gd cn cs L a ccd cl outer) (call (.ref 325) [.ref P, .ref D]) Q E s := by
  refine loose_tri w mean mg mb P R row rvs rn hl hI ws vs n D k o rest hP hne hR hD hS hlen hw hkk dp un gd cn cs a ccd cl outer A₀ base h₀ L m s Q E B F X (News.sub N pk.sub) T hk hd hu ?_
  rintro r news' h' tk' F' N' ⟨T, tk, pcs, o', rfl, rfl, hP', e, sq, hw', hz, ha⟩
  exact h T tk pcs o' h' tk' F' N' hP' ⟨e, sq, ha⟩ hw' hz
in #guard_msgs (drop info, drop warning) in open Nat
set_option Elab.async true in
theorem read_useO {w : World} {mean : ExcName → Option Value} {mg mb : Str → Option Value} {dp un : Nat} {gd : Option (List Code)} {cn : Str} {cs : Scope} {a : Addr} {ccd : Value} {cl : List (Str × Addr)} {outer : List Env} {A₀ : Around} {base h₀ : Heap} {L : Addr} {m : Str → Option Value} {s : Shared} {Q E : Value → Shared → Prop} {t : Str} {tk : Tok} {ps : List Pc} {p : Pp} {z : Nat} {all : Led} (B : Below A₀ base outer h₀) (F : Fr h₀ L s.heap m) (X : (hd.heap_39 w.params).In h₀) (N : News h₀ L s.heap all) (T : Top view (looseW view []) mean mg mb h₀) (hk : cs.kind = .function) (q : Txt0 t ps) (hz : t.cps.size ≤ 10000) (hres : pRead (toksOf t ps) = .ok p z)
    (hd : dp + 60 < recursionLimit) (hu : un + 1400 < cLine)
    (h : ∀ r tl h' tk', Fr h₀ L h' m → News h₀ L h' (tl ++ all) → Above all tl → IsPp tl r p → Q r { s with heap := h', toks := tk' }) :
    wpAny (model PySem.Challenge.rw_pq0122_01.row.prog w) (ktrTop dp un gd cn cs L a ccd cl outer) (call (.ref 269) [.str t tk]) Q E s := by
  refine readC_of w mean mg mb q.e q.sq hz q.a tk dp un gd cn cs a ccd cl outer A₀ base h₀ L m s Q E all B F X N T hk hd hu ?_ ?_ ?_
  · intro r tl h' tk' v p' e F' N' A' I'
    rw [hres] at e; cases e
    exact h r tl h' tk' F' N' A' I'
  · intro e h' tk' sp g e'; rw [hres] at e'; cases e'
  · rw [hres]; intro e; cases e
in #guard_msgs (drop info, drop warning) in open Nat
set_option Elab.async true in
theorem refused_use {w : World} {mean : ExcName → Option Value} {mg mb : Str → Option Value} {dp un : Nat} {gd : Option (List Code)} {cn : Str} {cs : Scope} {a : Addr} {ccd : Value} {A₀ : Around} {h₀ : Heap} {L : Addr} {m : Str → Option Value} {s : Shared} {Q E : Value → Shared → Prop} {all : Led} {t : Str} {tk : Tok} {i : Int}
    (B : Below A₀ h₀ [] h₀) (F : Fr h₀ L s.heap m) (X : (hd.heap_39 w.params).In h₀) (N : News h₀ L s.heap all) (T : Top view (looseW view []) mean mg mb h₀) (hk : cs.kind = .function) (q : ∃ sp : Nat, i = sp ∧ Bad t sp)
    (hd : dp + 64 < recursionLimit) (hu : un + 1480 < cLine)
    (h : ∀ tk2 h' tk', Fr h₀ L h' m → News h₀ L h' all → Q (.int i tk2) { s with heap := h', toks := tk' }) :
    wpAny (model PySem.Challenge.rw_pq0122_01.row.prog w) (ktrTop dp un gd cn cs L a ccd [] []) (call (.ref 332) [.str t tk]) Q E s := by
  obtain ⟨sp, rfl, ps, q, hz, hres⟩ := q
  exact refused_tri w mean mg mb t tk (toksOf t ps) sp (fun tk => readC_of w mean mg mb q.e q.sq hz q.a tk) hres dp un gd cn cs a ccd A₀ h₀ L m s Q E all B F X N T hk hd hu fun h' tk' tk2 F' N' => h tk2 h' tk' F' N'
in #guard_msgs (drop info, drop warning) in open Nat
end Mine
-- Paper
namespace Mine
example : True := by
  k_with "fk" => first | ((fail_if_success have hzz := ePaper1); (with_reducible (first | exact fk26 | exact fk240 (by assumption) (by assumption) (by assumption) | exact fk241 (by assumption) | exact fk242 (by assumption) (by assumption) (by assumption) (by assumption) (by assumption) | exact fk243 (by assumption) (by assumption) (by assumption) | exact fk23 (by assumption) | exact fk244 (by assumption) (by assumption) (by assumption) (by assumption) (by assumption) | exact fk245 (by assumption) (by assumption) (by assumption) (by assumption) (by assumption) (by assumption) | exact fk246 (by assumption) (by assumption) (by assumption) (by assumption) (by assumption) | exact fk247 (by assumption) (by assumption) (by assumption) (by assumption) (by assumption) | exact fk248 (by assumption) (by assumption) (by assumption) | exact fk249 (by assumption) (by assumption) (by assumption) (by assumption) (by assumption) (by assumption) | exact fk24 (by assumption) | exact fk250 (by assumption) (by assumption) (by assumption) (by assumption) | exact fk251 (by assumption) (by assumption) (by assumption)))) | fail
  trivial
example : True := by
  k_with "k_ne" => first | ((fail_if_success have hzz := ePaper1); (focus ((with_reducible show @Ne Nat _ _); first | k_extra "ubn" | exact cj_I (by with_reducible assumption) | exact cj_C (by with_reducible assumption) | exact cj_D (by with_reducible assumption) | exact cj_I (And.right (by with_reducible assumption)) | exact cj_C (And.right (by with_reducible assumption)) | exact cj_D (And.right (by with_reducible assumption)) | exact cj_I (And.right (And.right (by with_reducible assumption))) | exact cj_C (And.right (And.right (by with_reducible assumption))) | exact cj_D (And.right (And.right (by with_reducible assumption))) | exact cj_I (And.right (And.right (And.right (by with_reducible assumption)))) | exact cj_C (And.right (And.right (And.right (by with_reducible assumption)))) | exact cj_D (And.right (And.right (And.right (by with_reducible assumption)))) | exact cj_I (And.right (And.right (And.right (And.right (by with_reducible assumption))))) | exact cj_C (And.right (And.right (And.right (And.right (by with_reducible assumption))))) | exact cj_D (And.right (And.right (And.right (And.right (by with_reducible assumption))))) | exact off3_I (by with_reducible assumption) (by k_mem) | exact off3_C (by with_reducible assumption) (by k_mem) | exact off3_D (by with_reducible assumption) (by k_mem) | exact ne_ofA (by with_reducible assumption) (by k_mem) | exact ne_S (by with_reducible assumption) | exact ne_SS (by with_reducible assumption)))) | fail
  k_with "k_all" => first | ((fail_if_success have hzz := ePaper1); (first | with_reducible assumption | with_reducible exact List.forall_mem_nil _ | ((with_reducible refine List.forall_mem_cons.mpr ⟨?_, ?_⟩) <;> first | k_ne | k_all) | ((with_reducible refine List.forall_mem_append.mpr ⟨?_, ?_⟩) <;> k_all) | assumption)) | fail
  k_with "k_mem" => first | ((fail_if_success have hzz := ePaper1); ((repeat (first | exact List.Mem.head _ | apply List.Mem.tail | apply mem_inr | with_reducible assumption | assumption)); done)) | fail
  k_with "k_room" => first | ((fail_if_success have hzz := ePaper1); (ktr_room)) | fail
  k_with "ktr_room" => first | ((fail_if_success have hzz := ePaper1); ((try dsimp only [ktrTop]); omega)) | fail
  k_with "ktr_units" => first | ((fail_if_success have hzz := ePaper1); ((try dsimp only [ktrTop]); omega)) | fail
  k_with "call ref" => first | ((fail_if_success have hzz := ePaper1); (k_here; (with_reducible show wpAny _ _ (call (Value.ref 291) _) _ _ _); first | (k_dflt (refine draw_use (by k_asm) (by k_asm) (by k_asm) (by k_asm) (by k_asm) (by first | assumption | rfl) (by k_extra "c3") (by assumption) (by k_all) (by k_mem) (by assumption) (by assumption) (by decide) (by omega) (by ktr_room) (by ktr_units) ?_); intro qv9 qtk9 qo9 qh9 qtk9' qF9 qN9 qP9 qe9 qlo9 qhi9 qne9 qhR9; (try k_sweep); (try k_fold)) | (exfalso; omega) | refine stuck_of ?_)) | fail
  k_with "subscriptTail List cons Call ref int" => first | ((fail_if_success have hzz := ePaper1); (k_here; (with_reducible show wpAny _ _ (subscriptTail _ _ (Value.ref _) (Value.int _ _)) _ _ _); k_dflt (refine kba_turn (value' := PySem.Expr.Name (PySem.Str.ofString "x") ⟨0, 0, 0, 0⟩) (fun _ => rfl) ?_); k_dflt (refine m_pickS "a" (by k_asm) (by k_mem) (by repeat' constructor) (by omega) (by k_extra "c79") (by omega) ?_ (by with_unfolding_all rfl) (by k_extra "c23")); intro qtk8; (try k_fold))) | fail
  k_with "subscriptTail List cons BinOp ref int" => first | ((fail_if_success have hzz := ePaper1); (k_here; (with_reducible show wpAny _ _ (subscriptTail _ _ (Value.ref _) (Value.int _ _)) _ _ _); k_dflt (refine kba_turn (value' := PySem.Expr.Name (PySem.Str.ofString "x") ⟨0, 0, 0, 0⟩) (fun _ => rfl) ?_); k_dflt (refine m_pickS "a" (by k_asm) (by k_mem) (by repeat' constructor) (by omega) (by k_extra "c79") (by omega) ?_ (by with_unfolding_all rfl) (by k_extra "c23")); intro qtk8; (try k_fold))) | fail
  k_with "call ref" => first | ((fail_if_success have hzz := ePaper1); (k_here; (with_reducible show wpAny _ _ (call (Value.ref 296) _) _ _ _); first | (k_dflt (first | refine term_use (d := 2) (by assumption) (by k_asm) (by k_asm) (by k_asm) (by k_asm) (by k_asm) (by first | assumption | rfl) (by k_extra "c3") (by assumption) (by k_all) (by k_mem) (by omega) (by omega) (by ktr_room) (by ktr_units) ?_ | refine term_use (d := 1) (by assumption) (by k_asm) (by k_asm) (by k_asm) (by k_asm) (by k_asm) (by first | assumption | rfl) (by k_extra "c3") (by assumption) (by k_all) (by k_mem) (by omega) (by omega) (by ktr_room) (by ktr_units) ?_); intro qr9 qtl9 qo9 qh9 qtk9' qF9 qN9 qA9 qne9 qneR9 qhR9 qP9 qb9 qT9; (try k_sweep); (try k_fold)) | (exfalso; omega) | refine stuck_of ?_)) | fail
  k_with "eval ListComp" => first | ((fail_if_success have hzz := ePaper1); (k_here; k_dflt (refine LCg.ListComp_U (F₀ := by k_asm) (by with_unfolding_all rfl) (by decide) (by rfl) (by decide) (by rfl) ?_); k_dflt lcg_toSrc)) | fail
  k_with "CompEnd" => first | ((fail_if_success have hzz := ePaper1); ((repeat (with_reducible rename _ ∧ _ => qhc9; obtain ⟨_, _⟩ := qhc9)); k_dflt (refine comp_end (by k_asm) (by k_asm) (by k_extra "c3") (by k_extra "c3") (by k_extra "c3") (by k_extra "c34") (by lcg_src) ?_))) | fail
  trivial
noncomputable def PaperSpec (w : World) (mean : ExcName → Option Value) (mg mb : Str → Option Value) (P R : Addr) (row : List Int) (vs : List Value) (n d : Nat) : Prop := ∀ (k : Nat) (tkd : Tok), k + bP d ≤ 40000 → ∀ (o : Obj) (news : Led), PenD w o R k → (∀ p ∈ news, p.1 ≠ P) → (R, listOf vs.toArray n) ∈ news →
    Tri LAW hd.heap_39 w mean mg mb 301 [.ref P, .int d tkd] (d + 8) (40 * (d + 5)) ((P, o) :: news)
      (PenOut w P R news o (genP row d k).2 (fun nw r => IsPp nw r (genP row d k).1))
set_option Elab.async true in
theorem paper_use {w : World} {mean : ExcName → Option Value} {mg mb : Str → Option Value} {dp un : Nat} {gd : Option (List Code)} {cn : Str} {cs : Scope} {a : Addr} {ccd : Value} {cl : List (Str × Addr)} {outer : List Env} {A₀ : Around} {base h₀ : Heap} {L : Addr} {m : Str → Option Value} {s : Shared} {Q E : Value → Shared → Prop}
    {P R : Addr} {row : List Int} {vs : List Value} {n k d : Nat} {x : Int} {tkd : Tok} {o : Obj} {all rest : Led}
    (C : PaperSpec w mean mg mb P R row vs n d)
    (B : Below A₀ base outer h₀) (F : Fr h₀ L s.heap m) (X : (hd.heap_39 w.params).In h₀) (N : News h₀ L s.heap all) (T : Top view (looseW view []) mean mg mb h₀) (hk : cs.kind = .function)
    (pk : Pick P o all rest) (hP : PenD w o R k) (hne : ∀ p ∈ rest, p.1 ≠ P) (hR : (R, listOf vs.toArray n) ∈ rest) (hx : x = d) (hkk : k + bP d ≤ 40000)
    (hd : dp + (d + 8) < recursionLimit) (hu : un + 40 * (d + 5) < cLine)
    (h : ∀ r tl o' h' tk', Fr h₀ L h' m → News h₀ L h' ((P, o') :: (tl ++ rest)) → Above ((P, o) :: rest) tl → (∀ p ∈ tl, p.1 ≠ P) → (∀ p ∈ rest, p.1 ≠ P) → (R, listOf vs.toArray n) ∈ rest → PenD w o' R (genP row d k).2 → (genP row d k).2 ≤ k + bP d → IsPp tl r (genP row d k).1 → Q r { s with heap := h', toks := tk' }) :
    wpAny (model PySem.Challenge.rw_pq0122_01.row.prog w) (ktrTop dp un gd cn cs L a ccd cl outer) (call (.ref 301) [.ref P, .int x tkd]) Q E s := by
  subst hx
  exact pen_use (fun o news => C k tkd hkk o news) B F X N T hk pk hP hne hR hd hu fun r tl o' h' tk' F' N' A' ne' neR' hR' P' r' => h r tl o' h' tk' F' N' A' ne' neR' hR' P' (genP_k d k) r'
in #guard_msgs (drop info, drop warning) in open Nat
theorem zero_one_two {row : List Int} {k : Nat} {v : Int} (_e : drawAt row k 3 = v) (lo : 0 ≤ v) (hi : v < 3) : v = 0 ∨ v = 1 ∨ v = 2 := by omega
example : True := by
  k_with "call ref" => first | ((fail_if_success have hzz := ePaper1); (k_here; (with_reducible show wpAny _ _ (call (Value.ref 301) _) _ _ _); first | (k_dflt (refine paper_use (by assumption) (by k_asm) (by k_asm) (by k_asm) (by k_asm) (by k_asm) (by first | assumption | rfl) (by k_extra "c3") (by assumption) (by k_all) (by k_mem) (by omega) (by omega) (by ktr_room) (by ktr_units) ?_); intro qr9 qtl9 qo9 qh9 qtk9' qF9 qN9 qA9 qne9 qneR9 qhR9 qP9 qb9 qT9; (try k_sweep); (try k_fold)) | (exfalso; omega) | refine stuck_of ?_)) | fail
  k_with "CompSrc" => first | ((fail_if_success have hzz := ePaper1); (k_here; k_dflt (refine LCg.CompSrc.range (by rfl) (by k_asm) (by k_asm) (by assumption) (by decide) (by rfl) (by exact Nat.le_of_ble_eq_true rfl) ?_; intro qg'; lcg_lit))) | fail
  k_with "CompSrc" => first | ((fail_if_success have hzz := ePaper1); (k_here; rcases zero_one_two (by assumption) (by assumption) (by assumption) with qh9 | qh9 | qh9 <;> subst qh9)) | fail
  k_with "subscriptTail Name Slice ref ref" => first | ((fail_if_success have hzz := ePaper1); (k_here; (with_reducible show wpAny _ _ (subscriptTail _ (PySem.Expr.Slice none (some _) none _) (Value.ref _) (Value.ref _)) _ _ _); k_dflt (refine m_sliceTo (by k_asm) (by k_asm) (by k_mem) (by omega) (by simp) ?_ (by with_unfolding_all rfl) (by k_extra "c23")); intro qD' qh' qF' qN' ql1; (try k_lt ql1); (try k_sweep))) | fail
  k_with "call type:tuple cons nil" => first | ((fail_if_success have hzz := ePaper1); (k_here; k_dflt (refine m_tupleOf (by k_asm) (by k_asm) (by k_mem) (by first | decide | (simp only [List.length_take, List.length_cons, List.length_nil]; omega)) ?_); intro qD' qh' qF' qN' ql1; (try k_lt ql1); (try k_sweep))) | fail
  trivial
namespace Z
example : True := by
  k_with "eps" => first | ((fail_if_success have hzz := zPaper5); skip) | fail
  trivial
set_option Elab.async true in
set_option maxHeartbeats 8000000 in
theorem paper_tri : ∀ (w : World) (mean : ExcName → Option Value) (mg : Str → Option Value) (mb : Str → Option Value) (P R : Addr) (row : List Int) (vs : List Value) (n : Nat) (hl : row.length ≤ 60) (hI : IntsAre vs row) (hT1 : TermSpec w mean mg mb P R row vs n 1) (hT2 : TermSpec w mean mg mb P R row vs n 2), ∀ (d : Nat), d ≤ 3 → PaperSpec w mean mg mb P R row vs n d := by
  intro w mean mg mb P R row vs n hl hI hT1 hT2
  k_extra "c11"
  clear hK
  w_top off
  have eT2 : bT 2 = 8 := rfl
  have eT1 : bT 1 = 4 := rfl
  refine nat_ind ?_ ?_
  · intro hd3 k tkd hkk o news hP hne hR
    unfold Tri
    k_extra "c14"
    have gb : bP 0 = 12 := rfl
    refine wpAny_call ?_
    refine' code_defC ?k1 ?k2 ?k3 ?k4 ?k5 ?kA ?kF ?kK ?k6 ?k7 ?k8 ?k9 ?kB ?kD ?_ ?c2 ?c3 ?c4; (case kA => exact rfl); (case kF => exact rfl); (case kK => assumption); (case k1 => k_asm); (case k2 => k_asm); (case k3 => k_asm); (case k4 => k_asm); (case k5 => k_asm); (case k6 => k_is); (case k7 => k_is); (case k8 => ktr_room); (case k9 => exact BindsTo.of_eq rfl); (case kB => exact rfl); (case kD => decide +kernel); (case c2 => exact rfl); (case c3 => exact rfl); (case c4 => exact rfl); k_whole; intro g' L' h' tk' cells' FG' F' N' Y' B' X' T' l1; (try k_lt l1); k_cells Y'; (try simp only [List.cons_append, List.nil_append] at N'); (try dsimp only); (try k_fold)
    k_steps
    k_extra "c54"
    k_extra "c88"
    · rename drawAt _ k 3 = _ => e9
      subst e9
      rename drawAt _ (k + 1) 3 = _ => e8
      subst e8
      have hg : genP row 0 k = (.told (toldOps.getD (drawAt row (k + 1) 3).toNat "a"), k + 1 + 1) := by show genW row _ (drawAt row k 3) (k + 1) = _; unfold genW; rw [if_pos (by assumption)]; (try (rfl))
      rw [hg] at hret
      k_extra "c72"
      exact hret _ _ _ _ kF hN hO
    · rename drawAt _ k 3 = _ => e9
      subst e9
      rename IsTm _ _ (genT row 2 (k + 1)).1 => T9
      have hg : genP row 0 k = (.same (genT row 2 (k + 1)).1, (genT row 2 (k + 1)).2) := by show genW row _ (drawAt row k 3) (k + 1) = _; unfold genW; rw [if_neg (by assumption)]; rw [if_pos (by assumption)]; (try (rfl))
      rw [hg] at hret
      k_extra "c71"
      exact hret _ _ _ _ kF hN hO
    · rename drawAt _ k 3 = _ => e9
      subst e9
      rename drawAt _ (genT row 1 (genT row 1 (k + 1)).2).2 2 = _ => e8
      subst e8
      rename drawAt _ ((genT row 1 (genT row 1 (k + 1)).2).2 + 1) 3 = _ => e7
      subst e7
      rename IsTm _ _ (genT row 1 (k + 1)).1 => T9
      rename IsTm _ _ (genT row 1 (genT row 1 (k + 1)).2).1 => T8
      have hg : genP row 0 k = (.rule (ruleOps.getD (drawAt row (genT row 1 (genT row 1 (k + 1)).2).2 2).toNat "a") (List.take (drawAt row ((genT row 1 (genT row 1 (k + 1)).2).2 + 1) 3).toNat [("?x", (genT row 1 (k + 1)).1), ("?y", (genT row 1 (genT row 1 (k + 1)).2).1)]), (genT row 1 (genT row 1 (k + 1)).2).2 + 2) := by show genW row _ (drawAt row k 3) (k + 1) = _; unfold genW; rw [if_neg (by assumption)]; rw [if_neg (by assumption)]; rw [if_pos (by assumption)]; (try (rfl))
      rw [hg] at hret
      k_extra "c67"
      exact hret _ _ _ _ kF hN hO
  · intro d ih
    intro hd3 k tkd hkk o news hP hne hR
    have ih := ih (by omega)
    unfold Tri
    k_extra "c14"
    have gb : bP (d + 1) = 2 * bP d + 4 := rfl
    have gl := bP_lo d
    refine wpAny_call ?_
    refine' code_defC ?k1 ?k2 ?k3 ?k4 ?k5 ?kA ?kF ?kK ?k6 ?k7 ?k8 ?k9 ?kB ?kD ?_ ?c2 ?c3 ?c4; (case kA => exact rfl); (case kF => exact rfl); (case kK => assumption); (case k1 => k_asm); (case k2 => k_asm); (case k3 => k_asm); (case k4 => k_asm); (case k5 => k_asm); (case k6 => k_is); (case k7 => k_is); (case k8 => ktr_room); (case k9 => exact BindsTo.of_eq rfl); (case kB => exact rfl); (case kD => decide +kernel); (case c2 => exact rfl); (case c3 => exact rfl); (case c4 => exact rfl); k_whole; intro g' L' h' tk' cells' FG' F' N' Y' B' X' T' l1; (try k_lt l1); k_cells Y'; (try simp only [List.cons_append, List.nil_append] at N'); (try dsimp only); (try k_fold)
    k_steps
    k_extra "c54"
    k_extra "c88"
    · rename drawAt _ k 6 = _ => e9
      subst e9
      rename drawAt _ (k + 1) 3 = _ => e8
      subst e8
      have hg : genP row (d + 1) k = (.told (toldOps.getD (drawAt row (k + 1) 3).toNat "a"), k + 1 + 1) := by show genW row _ (drawAt row k 6) (k + 1) = _; unfold genW; rw [if_pos (by assumption)]; (try (rfl))
      rw [hg] at hret
      k_extra "c72"
      exact hret _ _ _ _ kF hN hO
    · rename drawAt _ k 6 = _ => e9
      subst e9
      rename IsTm _ _ (genT row 2 (k + 1)).1 => T9
      have hg : genP row (d + 1) k = (.same (genT row 2 (k + 1)).1, (genT row 2 (k + 1)).2) := by show genW row _ (drawAt row k 6) (k + 1) = _; unfold genW; rw [if_neg (by assumption)]; rw [if_pos (by assumption)]; (try (rfl))
      rw [hg] at hret
      k_extra "c71"
      exact hret _ _ _ _ kF hN hO
    · rename drawAt _ k 6 = _ => e9
      subst e9
      rename drawAt _ (genT row 1 (genT row 1 (k + 1)).2).2 2 = _ => e8
      subst e8
      rename drawAt _ ((genT row 1 (genT row 1 (k + 1)).2).2 + 1) 3 = _ => e7
      subst e7
      rename IsTm _ _ (genT row 1 (k + 1)).1 => T9
      rename IsTm _ _ (genT row 1 (genT row 1 (k + 1)).2).1 => T8
      have hg : genP row (d + 1) k = (.rule (ruleOps.getD (drawAt row (genT row 1 (genT row 1 (k + 1)).2).2 2).toNat "a") (List.take (drawAt row ((genT row 1 (genT row 1 (k + 1)).2).2 + 1) 3).toNat [("?x", (genT row 1 (k + 1)).1), ("?y", (genT row 1 (genT row 1 (k + 1)).2).1)]), (genT row 1 (genT row 1 (k + 1)).2).2 + 2) := by show genW row _ (drawAt row k 6) (k + 1) = _; unfold genW; rw [if_neg (by assumption)]; rw [if_neg (by assumption)]; rw [if_pos (by assumption)]; (try (rfl))
      rw [hg] at hret
      k_extra "c67"
      exact hret _ _ _ _ kF hN hO
    · rename drawAt _ k 6 = _ => e9
      subst e9
      rename IsPp _ _ (genP row d (k + 1)).1 => T9
      have hg : genP row (d + 1) k = (.turn (genP row d (k + 1)).1, (genP row d (k + 1)).2) := by show genW row _ (drawAt row k 6) (k + 1) = _; unfold genW; rw [if_neg (by assumption)]; rw [if_neg (by assumption)]; rw [if_neg (by assumption)]; rw [if_pos (by assumption)]; (try (rfl))
      rw [hg] at hret
      obtain ⟨nw, hN, hO⟩ := pen_end (P := P) (R := R) (news := news) (o := o) kN (by k_extra "c3") (by k_extra "c8") (by k_extra "c1") (by assumption) (Rel := fun nw r => IsPp nw r (.turn (genP row d (k + 1)).1, (genP row d (k + 1)).2).1) (by exact .turn (.head _) rfl (T9.mono (fun p hp => by simp only [List.mem_cons, List.mem_append, hp, true_or, or_true])))
      exact hret _ _ _ _ kF hN hO
    · rename drawAt _ k 6 = _ => e9
      subst e9
      rename IsPp _ _ (genP row d (k + 1)).1 => T9
      rename IsPp _ _ (genP row d (genP row d (k + 1)).2).1 => T8
      have hg : genP row (d + 1) k = (.join (genP row d (k + 1)).1 (genP row d (genP row d (k + 1)).2).1, (genP row d (genP row d (k + 1)).2).2) := by show genW row _ (drawAt row k 6) (k + 1) = _; unfold genW; rw [if_neg (by assumption)]; rw [if_neg (by assumption)]; rw [if_neg (by assumption)]; rw [if_neg (by assumption)]; rw [if_pos (by assumption)]; (try (rfl))
      rw [hg] at hret
      obtain ⟨nw, hN, hO⟩ := pen_end (P := P) (R := R) (news := news) (o := o) kN (by k_extra "c3") (by k_extra "c8") (by k_extra "c1") (by assumption) (Rel := fun nw r => IsPp nw r (.join (genP row d (k + 1)).1 (genP row d (genP row d (k + 1)).2).1, (genP row d (genP row d (k + 1)).2).2).1) (by exact .join (.head _) rfl (T9.mono (fun p hp => by simp only [List.mem_cons, List.mem_append, hp, true_or, or_true])) (T8.mono (fun p hp => by simp only [List.mem_cons, List.mem_append, hp, true_or, or_true])))
      exact hret _ _ _ _ kF hN hO
    · rename drawAt _ k 6 = _ => e9
      subst e9
      rename drawAt _ (k + 1) 2 = _ => e8
      subst e8
      rename drawAt _ (k + 1 + 1) 3 = _ => e7
      have hg : genP row (d + 1) k = (.under0 (underOps.getD (drawAt row (k + 1) 2).toNat "a"), k + 1 + 2) := by show genW row _ (drawAt row k 6) (k + 1) = _; unfold genW; rw [if_neg (by assumption)]; rw [if_neg (by assumption)]; rw [if_neg (by assumption)]; rw [if_neg (by assumption)]; rw [if_neg (by assumption)]; (try (dsimp only; rw [if_pos e7]))
      rw [hg] at hret
      obtain ⟨nw, hN, hO⟩ := pen_end (P := P) (R := R) (news := news) (o := o) kN (by k_extra "c3") (by k_extra "c8") (by k_extra "c1") (by assumption) (Rel := fun nw r => IsPp nw r (.under0 (underOps.getD (drawAt row (k + 1) 2).toNat "a"), k + 1 + 2).1) (by exact .under0 (.head _) rfl (by k_mem))
      exact hret _ _ _ _ kF hN hO
    · rename drawAt _ k 6 = _ => e9
      subst e9
      rename drawAt _ (k + 1) 2 = _ => e8
      subst e8
      rename drawAt _ (k + 1 + 1) 3 = _ => e7
      rename IsPp _ _ (genP row d (k + 1 + 2)).1 => T9
      have hg : genP row (d + 1) k = (.under1 (underOps.getD (drawAt row (k + 1) 2).toNat "a") (genP row d (k + 1 + 2)).1, (genP row d (k + 1 + 2)).2) := by show genW row _ (drawAt row k 6) (k + 1) = _; unfold genW; rw [if_neg (by assumption)]; rw [if_neg (by assumption)]; rw [if_neg (by assumption)]; rw [if_neg (by assumption)]; rw [if_neg (by assumption)]; (try (dsimp only; rw [if_neg (by rw [e7]; decide), if_pos e7]))
      rw [hg] at hret
      obtain ⟨nw, hN, hO⟩ := pen_end (P := P) (R := R) (news := news) (o := o) kN (by k_extra "c3") (by k_extra "c8") (by k_extra "c1") (by assumption) (Rel := fun nw r => IsPp nw r (.under1 (underOps.getD (drawAt row (k + 1) 2).toNat "a") (genP row d (k + 1 + 2)).1, (genP row d (k + 1 + 2)).2).1) (by exact .under1 (.head _) rfl (by k_mem) (T9.mono (fun p hp => by simp only [List.mem_cons, List.mem_append, hp, true_or, or_true])))
      exact hret _ _ _ _ kF hN hO
    · rename drawAt _ k 6 = _ => e9
      subst e9
      rename drawAt _ (k + 1) 2 = _ => e8
      subst e8
      rename drawAt _ (k + 1 + 1) 3 = _ => e7
      rename IsPp _ _ (genP row d (k + 1 + 2)).1 => T9
      rename IsPp _ _ (genP row d (genP row d (k + 1 + 2)).2).1 => T8
      have hg : genP row (d + 1) k = (.under2 (underOps.getD (drawAt row (k + 1) 2).toNat "a") (genP row d (k + 1 + 2)).1 (genP row d (genP row d (k + 1 + 2)).2).1, (genP row d (genP row d (k + 1 + 2)).2).2) := by show genW row _ (drawAt row k 6) (k + 1) = _; unfold genW; rw [if_neg (by assumption)]; rw [if_neg (by assumption)]; rw [if_neg (by assumption)]; rw [if_neg (by assumption)]; rw [if_neg (by assumption)]; (try (dsimp only; rw [if_neg (by rw [e7]; decide), if_neg (by rw [e7]; decide)]))
      rw [hg] at hret
      obtain ⟨nw, hN, hO⟩ := pen_end (P := P) (R := R) (news := news) (o := o) kN (by k_extra "c3") (by k_extra "c8") (by k_extra "c1") (by assumption) (Rel := fun nw r => IsPp nw r (.under2 (underOps.getD (drawAt row (k + 1) 2).toNat "a") (genP row d (k + 1 + 2)).1 (genP row d (genP row d (k + 1 + 2)).2).1, (genP row d (genP row d (k + 1 + 2)).2).2).1) (by exact .under2 (.head _) rfl (by k_mem) (T9.mono (fun p hp => by simp only [List.mem_cons, List.mem_append, hp, true_or, or_true])) (T8.mono (fun p hp => by simp only [List.mem_cons, List.mem_append, hp, true_or, or_true])))
      exact hret _ _ _ _ kF hN hO
in #guard_msgs (drop info, drop warning) in open Nat
theorem zPaper5 : True := trivial
end Z
theorem ePaper1 : True := trivial
end Mine
-- LawP
namespace Mine
example : True := by
  k_with "k_room" => first | ((fail_if_success have hzz := eLawP1); (ktr_room)) | fail
  k_with "ktr_room" => first | ((fail_if_success have hzz := eLawP1); ((try dsimp only [ktrTop]); omega)) | fail
  k_with "ktr_units" => first | ((fail_if_success have hzz := eLawP1); ((try dsimp only [ktrTop]); omega)) | fail
  trivial
set_option Elab.async true in
set_option maxHeartbeats 1000000 in
theorem pen_tri {w : World} {mean : ExcName → Option Value} {mg mb : Str → Option Value} {dp un : Nat} {gd : Option (List Code)} {cn : Str} {cs : Scope} {a : Addr} {ccd : Value} {cl : List (Str × Addr)} {outer : List Env} {A₀ : Around} {base h₀ : Heap} {L : Addr} {m : Str → Option Value} {s : Shared} {Q E : Value → Shared → Prop} {ax : Addr} {vs : List Value} {row : List Int} (B : Below A₀ base outer h₀) (F : Fr h₀ L s.heap m) (X : (hd.heap_39 w.params).In h₀) (N : News h₀ L s.heap []) (T : Top view (looseW view []) mean mg mb h₀) (hk : cs.kind = .function)
    (hLs : h₀.IsList ax vs.toArray) (hI : IntsAre vs row) (hrow : row.length ≤ 63) (hdp : dp + 6 < recursionLimit) (hup : un + 100 < cLine)
    (h : ∀ P R o ys h' tk', Fr h₀ L h' m → News h₀ L h' [(P, o), (R, LCg.lst ys)] → @Ne Nat R P → IntsAre ys (row.take 60) → PenD w o R 0 → Q (.ref P) { s with heap := h', toks := tk' }) :
    wpAny (model PySem.Challenge.rw_pq0122_01.row.prog w) (ktrTop dp un gd cn cs L a ccd cl outer) (call (.ref 284) [.ref ax]) Q E s := by
  k_extra "c11"
  clear hK
  w_top off
  refine wpAny_call ?_
  k_dflt ktr_enter
  (with_reducible rename Fr h₀ L _ _ => FG9)
  have lifted := stays_list FG9.keep hLs
  k_steps
  k_extra "c10"
  (with_reducible rename IntsAre _ (List.map _ (List.take 60 _)) => hI8)
  (with_reducible rename Obj.IsDictOf _ _ (strPairs _) => hd8)
  rw [List.map_id'] at hI8
  refine h _ _ _ _ _ _ kF (News.sub kN (fun p hp => ?_)) ?_ hI8 ⟨_, hd8⟩
  · simp only [List.mem_cons, List.not_mem_nil, or_false] at hp
    rcases hp with rfl | rfl
    · exact .tail _ (.tail _ (.head _))
    · exact .head _
  · first | assumption | exact Ne.symm (by assumption) | (intro e; simp_all; done)
in #guard_msgs (drop info, drop warning) in open Nat
theorem eLawP1 : True := trivial
end Mine
-- Law
namespace Mine
example : True := by
  k_with "fk" => first | ((fail_if_success have hzz := eLaw1); (with_reducible (first | exact fk252 (by assumption) | exact fk253 | exact fk254 (by assumption) (by assumption) | exact fk255 (by assumption) | exact fk256 (by assumption) (by assumption)))) | fail
  trivial
theorem szl0 : (Str.ofString "(join ").cps.size = 6 := by decide +kernel
theorem szl1 : (Str.ofString " (rule r ?x ").cps.size = 12 := by decide +kernel
theorem szl2 : (Str.ofString "?x a))").cps.size = 6 := by decide +kernel
theorem szl3 : (Str.ofString " x").cps.size = 2 := by decide +kernel
theorem szl4 : (Str.ofString "(turn ").cps.size = 6 := by decide +kernel
theorem szl5 : (Str.ofString "(was ").cps.size = 5 := by decide +kernel
theorem szl6 : (Str.ofString "(turn (was ").cps.size = 11 := by decide +kernel
theorem szl7 : (Str.ofString "))").cps.size = 2 := by decide +kernel
theorem szl8 : (Str.ofString "(under ").cps.size = 7 := by decide +kernel
theorem one_ne {c : Nat} (h : c ≠ 40) : (⟨#[c]⟩ : Str) ≠ Str.ofString "(" := by
  rw [show Str.ofString "(" = ⟨#[40]⟩ from lpar_one]
  intro k; injection k with k; simp at k; exact h k
theorem m_neT {prog : Program} {w : World} {A : Around} {E : Value → Shared → Prop} {s : Shared} {Q : Value → Shared → Prop} {x y : Str} {t u : Tok} (e : x ≠ y) (h : Q (.bool true) s) : wpAny (model prog w) A (compareOp .NotEq (.str x t) (.str y u)) Q E s := by
  refine ne_str ?_
  have : (x != y) = true := bne_iff_ne.mpr e
  rw [this]; exact h
theorem law_noraise (l : List Int) : ∀ cls, PySem.Challenge.rw_pq0122_01.row.claim.raises [ofPy (PyData.list (List.map PyData.int l))] cls = false := fun _ => rfl
theorem law_post (l : List Int) : PySem.Challenge.rw_pq0122_01.row.claim.post [ofPy (PyData.list (List.map PyData.int l))] (.bool true) [ofPy (PyData.list (List.map PyData.int l))] = true := by
  w_on
  exact postW_of (by wrow_shape) (by wtm_val) (by w_fin)
theorem law_end {l : List Int} {cl : Str → Option Addr} {mean : ExcName → Option Value} {s₁ s' : Shared} {L : Addr} {m : Str → Option Value} (F : Fr s₁.heap L s'.heap m) (hg : s'.gens = #[]) (hos : s'.os = s₁.os) :
    GoodW PySem.Challenge.rw_pq0122_01.row.claim cl mean [ofPy (PyData.list (List.map PyData.int l))] s₁ (.ok (.ret (.bool true))) s' := goodW_bool F hg (law_noraise l) (law_post l) hos
theorem term_head {t : Tm} {U : Str} (g : GoodTm t) (e : U = tmText t) : (∃ x, t = .leaf x ∧ ∃ c l, cl U = c :: l ∧ c ≠ 40) ∨ ∃ l, cl U = 40 :: l := by
  subst e
  have par : ∀ xs, ∃ l, cl (wrapS xs) = 40 :: l := fun xs => ⟨cl (Txt.join spS xs) ++ cl rpar, by unfold wrapS; rw [cl_app, cl_app, cl_lpar]; rfl⟩
  cases t with
  | leaf x =>
    obtain ⟨c, l, e, h⟩ := op_ne g
    exact .inl ⟨x, rfl, c, l, e, by rintro rfl; revert h; decide +kernel⟩
  | one x a => exact .inr (par _)
  | two x a b => exact .inr (par _)
theorem eLaw1 : True := trivial
end Mine
namespace Mine
example : True := by
  k_with "fk" => first | ((fail_if_success have hzz := eLaw3); (with_reducible (first | exact fk252 (by assumption) | exact fk253 | exact fk254 (by assumption) (by assumption) | exact fk255 (by assumption) | exact fk256 (by assumption) (by assumption)))) | fail
  trivial
open LCg
example : True := by
  k_with "k_all" => first | ((fail_if_success have hzz := eLaw3); (first | with_reducible assumption | with_reducible exact List.forall_mem_nil _ | ((with_reducible refine List.forall_mem_cons.mpr ⟨?_, ?_⟩) <;> first | exact ne_ltR (by with_reducible assumption) | exact ne_ofR (by with_reducible assumption) (by k_mem) | exact ne_ofA (by with_reducible assumption) (by k_mem) | exact off3_I (by with_reducible assumption) (by k_mem) | exact off3_C (by with_reducible assumption) (by k_mem) | exact off3_D (by with_reducible assumption) (by k_mem) | exact Nat.ne_of_lt (by with_reducible assumption) | exact ne_ofL (by with_reducible assumption) (by k_mem) | exact ne_S (by with_reducible assumption) | exact ne_SS (by with_reducible assumption) | k_ne | k_all) | exact fun q hq => Nat.ne_of_lt (ktn_ltOf (by with_reducible assumption) q hq) | exact fun q hq => ne_allW (by with_reducible assumption) q (by k_mem) | ((with_reducible refine List.forall_mem_append.mpr ⟨?_, ?_⟩) <;> k_all) | exact fun p hp => Above.atW (by with_reducible assumption) (by k_mem) hp | exact fun q hq => Nat.ne_of_lt (ktn_ltOf (by assumption) q hq) | assumption)) | fail
  k_with "k_mem" => first | ((fail_if_success have hzz := eLaw3); (first | ((repeat (first | exact List.Mem.head _ | apply List.Mem.tail | apply mem_inr | with_reducible assumption | assumption)); done) | exact mem_upW (by with_reducible assumption) (fun p hp => by (simp only [List.mem_cons, List.mem_append, hp, true_or, or_true]; done)))) | fail
  k_with "k_room" => first | ((fail_if_success have hzz := eLaw3); (ktr_room)) | fail
  k_with "ktr_room" => first | ((fail_if_success have hzz := eLaw3); (first | ((try dsimp only [ktrTop]); omega) | ((try dsimp only [ktrTop]); (simp only [tmDepth] at *); omega))) | fail
  k_with "ktr_units" => first | ((fail_if_success have hzz := eLaw3); (first | ((try dsimp only [ktrTop]); omega) | ((try dsimp only [ktrTop]); (simp only [tmDepth] at *); omega))) | fail
  k_with "callWith ref cons nil" => first | ((fail_if_success have hzz := eLaw3); (k_here; k_dflt (first | (refine callWith_K0 (by k_in) (by k_is) ?_; k_whole) | (refine callWith_K (by k_asm) (by k_is) ?_; k_whole)))) | fail
  k_with "k_in" => first | ((fail_if_success have hzz := eLaw3); (first | with_reducible assumption | with_reducible exact Frag.In.keeps (by with_reducible assumption) (Fr.keep (by with_reducible assumption)) | exact Frag.In.keeps (by k_asm) (Fr.keep (by k_asm)))) | fail
  k_with "Src2" => first | ((fail_if_success have hzz := eLaw3); (k_here; refine stuck_of ?_)) | fail
  k_with "Src1" => first | ((fail_if_success have hzz := eLaw3); (k_here; refine stuck_of ?_)) | fail
  k_with "eval ListComp" => first | ((fail_if_success have hzz := eLaw3); (k_here; k_dflt (first | refine ListComp_2 (by k_asm) (by with_unfolding_all rfl) (by decide) (by rfl) (by decide) (by rfl) ?_ (by decide) (by intro _; rfl) (by intro _ _; rfl) | refine ListComp_1 (by k_asm) (by with_unfolding_all rfl) (by decide) (by rfl) (by decide) ?_ (by intro _; rfl)))) | fail
  k_with "CompRest2" => first | ((fail_if_success have hzz := eLaw3); (k_dflt (refine comp2_succ ?_); intro qI9 qoI9 qC9 qoC9 qD9 qm9 qh9 qtk9 qE9 qhC9 qhG9 qF9 qN9 qoff9 qne9; obtain ⟨qv9, qhv9, qhx9⟩ := qhG9; (simp only [List.getElem?_toArray, List.getElem?_cons_zero, List.getElem?_cons_succ, Nat.zero_add, Option.some.injEq] at qhv9); subst qhv9)) | fail
  k_with "CompEnd2" => first | ((fail_if_success have hzz := eLaw3); ((repeat (with_reducible rename _ ∧ _ => qhc9; obtain ⟨_, _⟩ := qhc9)); k_dflt (refine comp2_end (by k_asm) (by k_asm) (by k_extra "c3") (by k_extra "c3") (by k_extra "c3") (by k_extra "c6") (by k_extra "c13") (by k_mem) (by k_extra "c16") ?_); (try dsimp only); (try with_reducible_and_instances (refine comp2_zero ?_)); (try simp only [List.nil_append]))) | fail
  k_with "CompEnd1" => first | ((fail_if_success have hzz := eLaw3); (refine stuck_of ?_)) | fail
  k_with "call ref" => first | ((fail_if_success have hzz := eLaw3); (k_here; first | ((with_reducible show wpAny _ _ (call (Value.ref 284) _) _ _ _); refine stuck_of ?_) | ((with_reducible show wpAny _ _ (call (Value.ref 301) _) _ _ _); refine stuck_of ?_) | ((with_reducible show wpAny _ _ (call (Value.ref 311) _) _ _ _); refine stuck_of ?_) | ((with_reducible show wpAny _ _ (call (Value.ref 318) _) _ _ _); refine stuck_of ?_) | ((with_reducible show wpAny _ _ (call (Value.ref 279) _) _ _ _); refine stuck_of ?_) | ((with_reducible show wpAny _ _ (call (Value.ref 269) _) _ _ _); refine stuck_of ?_) | ((with_reducible show wpAny _ _ (call (Value.ref 325) _) _ _ _); refine stuck_of ?_) | ((with_reducible show wpAny _ _ (call (Value.ref 296) _) _ _ _); refine stuck_of ?_) | ((with_reducible show wpAny _ _ (call (Value.ref 306) _) _ _ _); refine stuck_of ?_) | ((with_reducible show wpAny _ _ (call (Value.ref 332) _) _ _ _); refine stuck_of ?_))) | fail
  k_with "call ref cons nil" => first | ((fail_if_success have hzz := eLaw3); (k_here; first | ((with_reducible show wpAny _ _ (call (Value.ref 284) _) _ _ _); refine stuck_of ?_) | ((with_reducible show wpAny _ _ (call (Value.ref 301) _) _ _ _); refine stuck_of ?_) | ((with_reducible show wpAny _ _ (call (Value.ref 311) _) _ _ _); refine stuck_of ?_) | ((with_reducible show wpAny _ _ (call (Value.ref 318) _) _ _ _); refine stuck_of ?_) | ((with_reducible show wpAny _ _ (call (Value.ref 279) _) _ _ _); refine stuck_of ?_) | ((with_reducible show wpAny _ _ (call (Value.ref 269) _) _ _ _); refine stuck_of ?_) | ((with_reducible show wpAny _ _ (call (Value.ref 325) _) _ _ _); refine stuck_of ?_) | ((with_reducible show wpAny _ _ (call (Value.ref 296) _) _ _ _); refine stuck_of ?_) | ((with_reducible show wpAny _ _ (call (Value.ref 306) _) _ _ _); refine stuck_of ?_) | ((with_reducible show wpAny _ _ (call (Value.ref 332) _) _ _ _); refine stuck_of ?_))) | fail
  k_with "call ref cons cons nil" => first | ((fail_if_success have hzz := eLaw3); (k_here; first | ((with_reducible show wpAny _ _ (call (Value.ref 284) _) _ _ _); refine stuck_of ?_) | ((with_reducible show wpAny _ _ (call (Value.ref 301) _) _ _ _); refine stuck_of ?_) | ((with_reducible show wpAny _ _ (call (Value.ref 311) _) _ _ _); refine stuck_of ?_) | ((with_reducible show wpAny _ _ (call (Value.ref 318) _) _ _ _); refine stuck_of ?_) | ((with_reducible show wpAny _ _ (call (Value.ref 279) _) _ _ _); refine stuck_of ?_) | ((with_reducible show wpAny _ _ (call (Value.ref 269) _) _ _ _); refine stuck_of ?_) | ((with_reducible show wpAny _ _ (call (Value.ref 325) _) _ _ _); refine stuck_of ?_) | ((with_reducible show wpAny _ _ (call (Value.ref 296) _) _ _ _); refine stuck_of ?_) | ((with_reducible show wpAny _ _ (call (Value.ref 306) _) _ _ _); refine stuck_of ?_) | ((with_reducible show wpAny _ _ (call (Value.ref 332) _) _ _ _); refine stuck_of ?_))) | fail
  k_with "call ref cons cons cons nil" => first | ((fail_if_success have hzz := eLaw3); (k_here; first | ((with_reducible show wpAny _ _ (call (Value.ref 284) _) _ _ _); refine stuck_of ?_) | ((with_reducible show wpAny _ _ (call (Value.ref 301) _) _ _ _); refine stuck_of ?_) | ((with_reducible show wpAny _ _ (call (Value.ref 311) _) _ _ _); refine stuck_of ?_) | ((with_reducible show wpAny _ _ (call (Value.ref 318) _) _ _ _); refine stuck_of ?_) | ((with_reducible show wpAny _ _ (call (Value.ref 279) _) _ _ _); refine stuck_of ?_) | ((with_reducible show wpAny _ _ (call (Value.ref 269) _) _ _ _); refine stuck_of ?_) | ((with_reducible show wpAny _ _ (call (Value.ref 325) _) _ _ _); refine stuck_of ?_) | ((with_reducible show wpAny _ _ (call (Value.ref 296) _) _ _ _); refine stuck_of ?_) | ((with_reducible show wpAny _ _ (call (Value.ref 306) _) _ _ _); refine stuck_of ?_) | ((with_reducible show wpAny _ _ (call (Value.ref 332) _) _ _ _); refine stuck_of ?_))) | fail
  k_with "subscriptTail Name Constant str int" => first | ((fail_if_success have hzz := eLaw3); (k_here; (with_reducible show wpAny _ _ (subscriptTail _ _ (Value.str U _) _) _ _ _); refine stuck_of ?_)) | fail
  k_with "compareOp NotEq str str" => first | ((fail_if_success have hzz := eLaw3); (k_here; refine stuck_of ?_)) | fail
  k_with "compareOp NotEq ref ref" => first | ((fail_if_success have hzz := eLaw3); (k_here; refine stuck_of ?_)) | fail
  k_with "compareOp Eq ref ref" => first | ((fail_if_success have hzz := eLaw3); (k_here; refine stuck_of ?_)) | fail
  k_with "binaryOp Add str str" => first | ((fail_if_success have hzz := eLaw3); (k_here; with_reducible (refine m_addS (by k_dflt ((try simp only [size_app, sz_sp, sz_nil, sz_lp, sz_rp, szl0, szl1, szl2, szl3, szl4, szl5, szl6, szl7, szl8]); omega)) ?_); intro qt9 qtk9)) | fail
  k_with "binaryOp Add ref ref" => first | ((fail_if_success have hzz := eLaw3); (k_here; k_dflt (refine m_addL (by k_asm) (by k_asm) (by k_mem) (by k_mem) (by k_extra "c16") ?_); intro qD' qh' qF' qN' ql1; (try k_lt ql1); (try k_sweep))) | fail
  k_with "call builtin:len cons nil" => first | ((fail_if_success have hzz := eLaw3); (k_here; (with_reducible show wpAny _ _ (call (Value.builtin "len") [Value.str _ _]) _ _ _); k_dflt (refine m_lenS (by (try simp only [size_app, sz_sp, sz_nil, sz_lp, sz_rp, szl0, szl1, szl2, szl3, szl4, szl5, szl6, szl7, szl8]); omega) ?_))) | fail
  k_with "eval ListComp Call cons" => first | ((fail_if_success have hzz := eLaw3); (k_here; k_dflt (refine ListComp_1 (by k_asm) (by with_unfolding_all rfl) (by decide) (by rfl) (by decide) ?_ (by intro _; rfl)))) | fail
  k_with "eval ListComp BinOp cons" => first | ((fail_if_success have hzz := eLaw3); (k_here; k_dflt (refine ListComp_1 (by k_asm) (by with_unfolding_all rfl) (by decide) (by rfl) (by decide) ?_ (by intro _; rfl)))) | fail
  k_with "eval ListComp Name cons" => first | ((fail_if_success have hzz := eLaw3); (k_here; k_dflt (refine ListComp_1 (by k_asm) (by with_unfolding_all rfl) (by decide) (by rfl) (by decide) ?_ (by intro _; rfl)))) | fail
  k_with "eval ListComp BinOp cons" => first | ((fail_if_success have hzz := eLaw3); (k_here; k_dflt (refine ListComp_1 (by k_asm) (by with_unfolding_all rfl) (by decide) (by rfl) (by decide) ?_ (by intro _; rfl)))) | fail
  k_with "CompRest1" => first | ((fail_if_success have hzz := eLaw3); (k_dflt (refine comp1_succ ?_); intro qI9 qoI9 qC9 qoC9 qD9 qm9 qh9 qtk9 qE9 qhC9 qhG9 qF9 qN9 qoff9 qne9; obtain ⟨qv9, qhv9, qhx9⟩ := qhG9; (simp only [List.getElem?_toArray, List.getElem?_cons_zero, List.getElem?_cons_succ, Nat.zero_add, Option.some.injEq] at qhv9); subst qhv9)) | fail
  k_with "CompEnd1" => first | ((fail_if_success have hzz := eLaw3); ((repeat (with_reducible rename _ ∧ _ => qhc9; obtain ⟨_, _⟩ := qhc9)); k_dflt (refine comp1_end (by k_asm) (by k_asm) (by k_extra "c3") (by k_extra "c3") (by k_extra "c3") (by k_extra "c6") (by k_extra "c13") (by k_extra "c16") ?_); (try dsimp only); (try with_reducible_and_instances (refine comp1_zero ?_)); (try simp only [List.nil_append]))) | fail
  trivial
set_option Elab.async true in
set_option maxHeartbeats 8000000 in
theorem law_holds : PySem.Challenge.rw_pq0122_01.Holds := by
  refine hd ?_
  k_go0
  k_steps
  refine ⟨?_⟩
  (with_reducible rename IntsAre _ _ => hI0)
  have hB := @id (Below _ (Shared.heap _) _ (Shared.heap _)) ‹Below _ _ _ _›
  have hK := And.intro hI0 (And.intro ‹Fr _ _ _ _› (And.intro ‹News _ _ _ _› (And.intro ‹Top _ _ _ _ _ _› (And.intro hB (And.intro ‹(hd.heap_39 _).In _› (And.intro ‹Heap.IsList _ _ _› (And.intro ‹¬ _ < _› ‹_ = #[]›)))))))
  clear hI0 hB
  revert hK
  repeat (rename_i x; first | clear x | revert x)
  k_with "eps" => skip
  intro w s0 s1 mg mb a1 a2 l L vs h1
  intro hK
  obtain ⟨hI0, F0, N0, T0, B0, X0, hL0, hlen, hg0⟩ := hK
  refine pen_tri (by k_asm) (by k_asm) (by k_asm) (by k_asm) (by k_asm) (by k_extra "c9") (by first | assumption) hI0 (by omega) (by ktr_room) (by ktr_units) ?_
  intro P R o0 ys h1 t1 F1 N1 neRP hI1 hP1
  clear hI0
  have hrow : ∃ row : List Int, IntsAre ys row ∧ row.length ≤ 60 := ⟨_, hI1, List.length_take_le 60 _⟩
  clear hI1
  obtain ⟨row, hI1, hl⟩ := hrow
  k_steps
  refine ⟨?_⟩
  refine paper_use (d := 3) (k := 0) (paper_tri _ _ _ _ _ _ _ _ _ hl hI1 (term_tri _ _ _ _ _ _ _ _ _ hl hI1 1 (by decide)) (term_tri _ _ _ _ _ _ _ _ _ hl hI1 2 (by decide)) 3 (by decide)) (by k_asm) (by k_asm) (by k_asm) (by k_asm) (by k_asm) (by k_extra "c9") (by k_extra "c3") hP1 (by k_all) (by k_mem) rfl (by decide) (by ktr_room) (by ktr_units) ?_
  intro r1 tl1 o1 h1 t1 F1 N1 A1 ne1 neR1 hR1 P1 b1 T1
  have hn := genP_nice row 0
  clear hP1
  generalize (genP row 3 0).2 = k1 at P1 b1
  generalize (genP row 3 0).1 = p at T1 hn
  replace b1 : k1 ≤ 124 := b1
  k_steps
  refine ⟨?_⟩
  have neR0 : ∀ q ∈ tl1 ++ [(R, lst ys)], q.1 ≠ P := all_app ne1 neR1
  have hR0 : (R, listOf ys.toArray ys.length) ∈ tl1 ++ [(R, lst ys)] := List.mem_append_right _ hR1
  have T0 : IsPp (tl1 ++ [(R, lst ys)]) r1 p := T1.mono fun q hq => List.mem_append_left _ hq
  generalize tl1 ++ [(R, lst ys)] = rest0 at *
  clear A1 ne1 neR1 hR1 T1 neRP
  obtain ⟨hl1, hl2, hl3⟩ : plen p ≤ 156 ∧ cost p ≤ 15 ∧ ppDepth p ≤ 3 := ⟨hn.n, hn.c, hn.depth⟩
  refine lw_use (by k_asm) (by k_asm) (by k_asm) (by k_asm) (by k_asm) (by k_extra "c9") (by k_extra "c3") P1 (by k_all) (by k_mem) T0 (lw_all _ _ _ _ _ _ row _ _ hl hI1 true 3 p hl3 (by decide) hn.good) (by omega) (by omega) (by ktr_room) (by ktr_units) ?_
  intro D2 vs2 n2 ws2 k2 tl2 o2 h2 t2 F2 N2 A2 ne2 P2 hk2 hD2 S2 sp2 e2
  obtain rfl := e2 rfl
  have w2 := spell_wds sp2 hn.wds
  have z2 := spell_len sp2
  k_steps
  refine ⟨?_⟩
  refine plain_use (by k_asm) (by k_asm) (by k_asm) (by k_asm) (by k_asm) (by k_extra "c9") (by k_mem) S2 (by omega) w2 (by ktr_room) (by ktr_units) ?_
  intro u2 h2 t2 F2 N2
  have hT := told_of hn
  have eT := pp_plain hn.good
  generalize plainS nils (ppW false p) = T at hT eT ⊢
  k_extra "c97"
  replace N9 := News.sub (news' := (P, o2) :: rest0) N9 (fun q hq => by
    k_extra "c30"
    · k_mem
    · exact mem_upW hq (fun p hp => by simp only [List.mem_cons, List.mem_append, hp, true_or, or_true]))
  clear A2 ne2 hD2 S2 N2 sp2 w2 z2
  k_steps
  refine ⟨?_⟩
  refine pt_use (by k_asm) (by k_asm) (by k_asm) (by k_asm) (by k_asm) (by k_extra "c9") (IsPp.mono T0 (fun p hp => by simp only [List.mem_cons, List.mem_append, hp, true_or, or_true])) (pt_all _ _ _ _ 3 p hl3 (by decide) hn.good) (by have := hn.z; omega) (by ktr_room) (by ktr_units) ?_
  intro u3 h3 t3 F3 N3
  k_steps
  refine ⟨?_⟩
  refine m_neS eT.symm ?_
  obtain ⟨ps3, q3, rd3⟩ := read_told_text hn hT
  k_steps
  refine ⟨?_⟩
  have hTz := hT.len
  refine read_useO (by k_asm) (by k_asm) (by k_asm) (by k_asm) (by k_asm) (by k_extra "c9") q3 (by omega) rd3 (by ktr_room) (by ktr_units) ?_
  intro r3 tl3 h3 t3 F3 N3 A3 I3
  k_steps
  refine m_nePp (by k_asm) (IsPp.mono I3 (fun p hp => by simp only [List.mem_cons, List.mem_append, hp, true_or, or_true])) (IsPp.mono T0 (fun p hp => by simp only [List.mem_cons, List.mem_append, hp, true_or, or_true])) hn (by ktr_units) ?_
  k_extra "c97"
  replace N9 := News.sub (news' := (P, o2) :: rest0) N9 (fun q hq => by
    k_extra "c30"
    · k_mem
    · exact mem_upW hq (fun p hp => by simp only [List.mem_cons, List.mem_append, hp, true_or, or_true]))
  clear I3 A3 q3 rd3
  k_steps
  refine ⟨?_⟩
  refine lw_use (by k_asm) (by k_asm) (by k_asm) (by k_asm) (by k_asm) (by k_extra "c9") (by k_extra "c3") P2 (by k_all) (by k_mem) (by first | exact T0 | exact IsPp.mono T0 (fun p hp => by simp only [List.mem_cons, List.mem_append, hp, true_or, or_true])) (lw_all _ _ _ _ _ _ row _ _ hl hI1 false 3 p hl3 (by decide) hn.good) (by omega) (by omega) (by ktr_room) (by ktr_units) ?_
  intro D4 vs4 n4 ws4 k4 tl4 o4 h4 t4 F4 N4 A4 ne4 P4 hk4 hD4 S4 sp4 e4
  clear e4
  have w4 := spell_wds sp4 hn.wds
  have z4 := spell_len sp4
  k_steps
  refine ⟨?_⟩
  refine loose_use (by k_asm) (by k_asm) (by k_asm) (by k_asm) (by k_asm) (by k_extra "c9") hl hI1 (by k_extra "c3") P4 (by k_all) (by k_mem) (by k_mem) S4 (by omega) w4 (by omega) (by ktr_room) (by ktr_units) ?_
  intro T5 u5 pcs5 o5 h5 t5 F5 N5 P5 q5 hw5 hz5
  have rd5 := read_loose hn sp4 q5 hw5
  k_extra "c97"
  replace N9 := News.sub (news' := (P, o5) :: rest0) N9 (fun q hq => by
    k_extra "c30"
    · k_mem
    · exact mem_upW hq (fun p hp => by simp only [List.mem_cons, List.mem_append, hp, true_or, or_true]))
  clear A4 ne4 hD4 S4 N4 w4 P4 sp4 hw5
  k_steps
  refine ⟨?_⟩
  refine read_useO (by k_asm) (by k_asm) (by k_asm) (by k_asm) (by k_asm) (by k_extra "c9") q5 (by omega) rd5 (by ktr_room) (by ktr_units) ?_
  intro r6 tl6 h6 t6 F6 N6 A6 I6
  k_steps
  refine m_nePp (by k_asm) (IsPp.mono I6 (fun p hp => by simp only [List.mem_cons, List.mem_append, hp, true_or, or_true])) (IsPp.mono T0 (fun p hp => by simp only [List.mem_cons, List.mem_append, hp, true_or, or_true])) hn (by ktr_units) ?_
  k_extra "c97"
  replace N9 := News.sub (news' := (P, o5) :: rest0) N9 (fun q hq => by
    k_extra "c30"
    · k_mem
    · exact mem_upW hq (fun p hp => by simp only [List.mem_cons, List.mem_append, hp, true_or, or_true]))
  clear I6 A6 q5 rd5
  k_steps
  refine ⟨?_⟩
  have eT2 : bT 2 = 8 := rfl
  refine term_use (d := 2) (term_tri _ _ _ _ _ _ _ _ _ hl hI1 2 (by decide)) (by k_asm) (by k_asm) (by k_asm) (by k_asm) (by k_asm) (by k_extra "c9") (by k_extra "c3") P5 (by k_all) (by k_mem) rfl (by omega) (by ktr_room) (by ktr_units) ?_
  intro r7 tl7 o7 h7 t7 F7 N7 A7 ne7 neR7 hR7 P7 b7 T7
  have ht := genT_ok row 2 (k4 + 2 + ws4.length)
  generalize (genT row 2 (k4 + 2 + ws4.length)).1 = t at T7 ht
  have htd := ht.depth
  have htn : (tmWords t).length ≤ 13 := ht.n
  k_steps
  refine ⟨?_⟩
  refine tw_use (by k_asm) (by k_asm) (by k_asm) (by k_asm) (by k_asm) (by k_extra "c9") (IsTm.mono T7 (fun p hp => by simp only [List.mem_cons, List.mem_append, hp, true_or, or_true])) (tw_tri _ _ _ _ _) (by omega) (by ktr_room) (by ktr_units) ?_
  intro D8 vs8 n8 tl8 h8 t8 F8 N8 A8 hD8 S8
  k_steps
  refine ⟨?_⟩
  refine plain_use (by k_asm) (by k_asm) (by k_asm) (by k_asm) (by k_asm) (by k_extra "c9") (by k_mem) S8 (by omega) ht.wds (by ktr_room) (by ktr_units) ?_
  intro u8 h8 t8 F8 N8
  obtain ⟨hUz, ps8, q8, hw8⟩ := tm_text ht
  have eU := tm_plain ht.good
  generalize plainS nils (tmWords t) = U at hUz q8 hw8 eU ⊢
  k_extra "c97"
  replace N9 := News.sub (news' := (P, o7) :: rest0) N9 (fun q hq => by
    k_extra "c30"
    · k_mem
    · exact mem_upW hq (fun p hp => by simp only [List.mem_cons, List.mem_append, hp, true_or, or_true]))
  clear A7 ne7 neR7 hR7 T7 A8 hD8 S8 N8 N7 neR0
  obtain ⟨ps9, q9, hw9⟩ := hT.read
  obtain ⟨lh9, hh9⟩ := hT.head
  obtain ⟨T', psc, eT', qc, hwc⟩ := hT.cut
  have sp9 := (spell_ppW p).1
  have hd9 : ppDepth p ≤ 4 := by omega
  have zT' : T'.cps.size + 1 = T.cps.size := by rw [eT', size_app]; rfl
  have B1 := bad_cut qc (by omega) hwc sp9 hn.good hd9
  replace B1 : Bad (Txt.slice T none (some (-1))) T'.cps.size := by
    rw [slice_cut (T := T) (T' := T') (c := 41) (by rw [eT', cl_app]; rfl)]; exact B1
  have B2 := bad_x q9 (by omega) hw9 sp9 hn.good hd9
  have B3 := bad_par q9 (by omega) hw9 sp9 hn.good hd9
  have B4 := bad_turn q9 (by omega) hw9 sp9 hn.good hd9
  have B5 := bad_was q8 (by omega)
  have B6 := bad_tw q9 (by omega)
  have B7 := bad_twice q9 (by omega) hw9 sp9 hn.good hd9 q8 (by omega) hw8 ht.good (by omega)
  have B8 := bad_two q9 (by omega) hw9 sp9 hn.good hd9 hh9
  obtain ⟨r9, hr9⟩ := sp9.head
  have B9 := bad_under q9 (by omega) (hw9.trans hr9) hh9
  have BL : ∀ x, t = .leaf x → Bad U 0 := fun x e => by subst e; exact bad_leaf q8 (by omega) ht.good hw8 eU
  have BN : (∃ x, t = .leaf x ∧ ∃ c l, cl U = c :: l ∧ c ≠ 40) ∨ ∃ l, cl U = 40 :: l := term_head ht.good eU
  clear q9 hw9 hh9 qc hwc sp9 hr9 hT P1 P2 P5 P7 hn b1 hR0 hI1 hl1 hl2 hl3 hk2 hk4 z4 hz5 b7 ht htd htn hw8 q8 eU eT e2 hd9
  k_steps
  refine ⟨?_⟩
  have hU0 : 0 < U.cps.size := by
    rw [← cl_len]
    rcases BN with ⟨x, _, c, l, e, _⟩ | ⟨l, e⟩ <;> (rw [e]; exact Nat.succ_pos _)
  refine m_itemS (k := 0) rfl hU0 (by decide) ?_ (by with_unfolding_all rfl)
  k_steps
  refine ⟨?_⟩
  rcases BN with hh9 | hh9
  · obtain ⟨x, hx, c, l, e, hc⟩ := hh9
    have hU1 : U.cps.getD 0 0 = c := getD_at (pre := []) (rest := l) e
    rw [hU1]
    have BT := BL x hx
    clear BL B9 hU0
    refine m_neT (one_ne hc) ?_
    k_steps
    refine ⟨?_⟩
    k_extra "c29"
    · intro g9 ys9 S9
      k_steps
      refine ⟨?_⟩
      k_extra "c29"
      · intro g8 ys8 S8
        k_steps
        refine ⟨?_⟩
        refine m_eqInts (by k_asm) (by k_mem) (by k_mem) S9 S8 (by ktr_units) ?_
        repeat' (first | (k_end; fail) | walk1 | (dsimp only; walk1) | (leave1; walk_say "STEP leave1"; try dsimp only))
        have F8 := ‹Fr _ _ _ _›
        exact law_end F8 (by assumption) rfl
      · intro ys9 Next9 SS9 y9 i9 yt9 it9 hp9 hyl9 hS9 hn9 I9 oI9 C9 oC9 D9 m9 h9 tk9 E9 hC9 hx9 hx8 F9 N9 off9 ne9
        k_extra "c84"
        k_extra "c65"
        k_steps
        exact hn9 _
    · intro ys9 Next9 SS9 y9 i9 yt9 it9 hp9 hyl9 hS9 hn9 I9 oI9 C9 oC9 D9 m9 h9 tk9 E9 hC9 hx9 hx8 F9 N9 off9 ne9
      have hb : ∃ sp : Nat, i9 = sp ∧ Bad y9 sp := by
        simp only [List.mem_cons, Prod.mk.injEq, List.not_mem_nil, or_false] at hp9
        k_extra "c59"
        · exact ⟨_, by first | rfl | omega, B1⟩
        · exact ⟨_, by first | rfl | omega, B2⟩
        · exact ⟨_, by first | rfl | omega, B3⟩
        · exact ⟨_, by first | rfl | omega, B4⟩
        · exact ⟨_, by first | rfl | omega, B5⟩
        · exact ⟨_, by first | rfl | omega, B6⟩
        · exact ⟨_, by first | rfl | omega, B7⟩
        · exact ⟨6, by omega, bad_told⟩
        · exact ⟨_, by first | rfl | omega, B8⟩
        · exact ⟨_, by first | rfl | omega, BT⟩
      k_extra "c84"
      k_extra "c65"
      k_steps
      refine ⟨?_⟩
      k_extra "c99"
      intro u10 h10 t10 F10 N10
      k_steps
      exact hn9 _
  · obtain ⟨l, e⟩ := hh9
    have hU1 : U.cps.getD 0 0 = 40 := getD_at (pre := []) (rest := l) e
    rw [hU1]
    clear BL hU0
    refine m_neS lpar_one.symm ?_
    k_steps
    refine ⟨?_⟩
    k_extra "c29"
    · intro g9 ys9 S9
      k_steps
      refine ⟨?_⟩
      k_extra "c29"
      · intro g8 ys8 S8
        k_steps
        refine ⟨?_⟩
        refine m_eqInts (by k_asm) (by k_mem) (by k_mem) S9 S8 (by ktr_units) ?_
        repeat' (first | (k_end; fail) | walk1 | (dsimp only; walk1) | (leave1; walk_say "STEP leave1"; try dsimp only))
        have F8 := ‹Fr _ _ _ _›
        exact law_end F8 (by assumption) rfl
      · intro ys9 Next9 SS9 y9 i9 yt9 it9 hp9 hyl9 hS9 hn9 I9 oI9 C9 oC9 D9 m9 h9 tk9 E9 hC9 hx9 hx8 F9 N9 off9 ne9
        k_extra "c84"
        k_extra "c65"
        k_steps
        exact hn9 _
    · intro ys9 Next9 SS9 y9 i9 yt9 it9 hp9 hyl9 hS9 hn9 I9 oI9 C9 oC9 D9 m9 h9 tk9 E9 hC9 hx9 hx8 F9 N9 off9 ne9
      have hb : ∃ sp : Nat, i9 = sp ∧ Bad y9 sp := by
        simp only [List.mem_cons, Prod.mk.injEq, List.not_mem_nil, or_false] at hp9
        k_extra "c59"
        · exact ⟨_, by first | rfl | omega, B1⟩
        · exact ⟨_, by first | rfl | omega, B2⟩
        · exact ⟨_, by first | rfl | omega, B3⟩
        · exact ⟨_, by first | rfl | omega, B4⟩
        · exact ⟨_, by first | rfl | omega, B5⟩
        · exact ⟨_, by first | rfl | omega, B6⟩
        · exact ⟨_, by first | rfl | omega, B7⟩
        · exact ⟨6, by omega, bad_told⟩
        · exact ⟨_, by first | rfl | omega, B8⟩
        · exact ⟨_, by first | rfl | omega, B9⟩
      k_extra "c84"
      k_extra "c65"
      k_steps
      refine ⟨?_⟩
      k_extra "c99"
      intro u10 h10 t10 F10 N10
      k_steps
      exact hn9 _
in #guard_msgs (drop info, drop warning) in open Nat
theorem eLaw3 : True := trivial
end Mine
theorem PySem.Challenge.cw_pq0122_01_holds : PySem.Challenge.rw_pq0122_01.Holds := by
  exact Mine.law_holds
