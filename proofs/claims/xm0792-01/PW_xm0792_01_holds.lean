import PyProof.Rows.All
import Wide.All
import OpenK.AllK
import Wide.FinOn
import PySem.Challenge.RW_xm0792_01
open PySem PySem.W PyProof.Rows
set_option Elab.async false

/-! A proof by cuts: each def of the text has its contract (weft_core, loom_core, rows_core); the tail of the law has its own (tail_core);
    what the lines are is told and shown apart, in plain words (LinesOk, lines_ok, split_text). -/
namespace Mine

set_option maxRecDepth 100000 in
set_option maxHeartbeats 8000000 in
open_top hd for PySem.Challenge.rw_xm0792_01

/-- what a loom is: two ints, nought or more, the second small -/
def Loom (ns : List Int) : Prop := ns.length = 2 ∧ 0 ≤ ns.getD 0 0 ∧ 0 ≤ ns.getD 1 0 ∧ ns.getD 1 0 < 70000

abbrev LTop (s₀ : Shared) (mg mb : Str → Option Value) (h : Heap) : Prop := Top hd.view_39 (looseW hd.view_39 []) (ExcName.means s₀.heap) mg mb h

set_option maxRecDepth 100000 in
set_option maxHeartbeats 8000000 in
theorem weft_core (w : World) (s₀ : Shared) (mg mb : Str → Option Value) : 
    ∀ (dp un : Nat) (gd : Option (List Code)) (cn : Str) (cs : Scope) (a : Addr) (ccd : Value) (cl : List (Str × Addr)) (outer : List Env) (A₀ : Around) (base h₀ : Heap) (L : Addr) (m : Str → Option Value) (own : List (Addr × Obj)) (s : Shared) (l : Addr) (va vb : Int) (ta tb : Tok) (c : Nat) (many : Int) (tm : Tok)
    (Q E : Value → Shared → Prop),
    Below A₀ base outer h₀ → Fr h₀ L s.heap m → (hd.heap_39 w.params).In h₀ → News h₀ L s.heap ((l, listOf #[.int va ta, .int vb tb] c) :: own) → OwnOff own [l] → LTop s₀ mg mb h₀ → cs.kind = .function → dp + 1 < recursionLimit → un + 8 < cLine →
    0 ≤ va → 0 ≤ vb → vb < 70000 → 0 < many → many < 1000000 →
    (∀ r tr va' vb' ta' tb' h' tk, 0 ≤ r → r < many → 0 ≤ va' → 0 ≤ vb' → vb' < 70000 → Fr h₀ L h' m → News h₀ L h' ((l, listOf #[.int va' ta', .int vb' tb'] c) :: own) → Q (.int r tr) { s with heap := h', toks := tk }) →
    wpAny (model PySem.Challenge.rw_xm0792_01.row.prog w) (ktrTop dp un gd cn cs L a ccd cl outer) (call (.ref 35) [.ref l, .int many tm]) Q E s := by
  w_top off
  k_with_none
  k_fill
  intro dp un gd cn cs a ccd cl outer A₀ base h₀ L m own s l va vb ta tb c many tm Q E B F X N hoff T hk hd hu ha hb hb2 hm hm2 hret
  refine wpAny_call ?_
  k_dflt cell_enter
  k_steps
  · (rename Fr h₀ _ _ _ => kF); (rename News h₀ _ _ _ => kN)

    refine hret _ _ _ _ _ _ _ _ ?_ ?_ ?_ hb hb2 (by exact kF) (by exact kN)
    all_goals (simp only [List.getD_cons_succ, List.getD_cons_zero, Int.toNat_one, Int.toNat_zero])
    · exact fmod_lo _ hm
    · exact fmod_hi _ hm
    · exact Int.fdiv_nonneg ha (by omega)
  · (rename Fr h₀ _ _ _ => kF); (rename News h₀ _ _ _ => kN)
    refine hret _ _ _ _ _ _ _ _ ?_ ?_ ha ?_ ?_ (by exact kF) (by exact kN)
    all_goals (simp only [List.getD_cons_succ, List.getD_cons_zero, Int.toNat_one, Int.toNat_zero])
    · exact fmod_lo _ hm
    · exact fmod_hi _ hm
    · exact fmod_lo _ (by decide)
    · exact Int.lt_trans (fmod_hi _ (by decide)) (by decide)

set_option maxRecDepth 100000 in
set_option maxHeartbeats 8000000 in
theorem loom_core (w : World) (s₀ : Shared) (mg mb : Str → Option Value) : 
    ∀ (dp un : Nat) (gd : Option (List Code)) (cn : Str) (cs : Scope) (a : Addr) (ccd : Value) (cl : List (Str × Addr)) (outer : List Env) (A₀ : Around) (base h₀ : Heap) (L : Addr) (m : Str → Option Value) (news : List (Addr × Obj)) (s : Shared) (l : Addr) (vs : List Value) (ns : List Int)
    (Q E : Value → Shared → Prop),
    Below A₀ base outer h₀ → Fr h₀ L s.heap m → (hd.heap_39 w.params).In h₀ → News h₀ L s.heap news → LTop s₀ mg mb h₀ → cs.kind = .function → dp + 1 < recursionLimit → un + 8 < cLine →
    base.IsList l vs.toArray → IntsAre vs ns → ns.length < 2 ^ 62 →
    (∀ va vb ta tb l' h' tk, 0 ≤ va → 0 ≤ vb → vb < 70000 → Fr h₀ L h' m → News h₀ L h' ((l', listOf #[.int va ta, .int vb tb] 0) :: news) → (∀ p ∈ news, p.1 < l') → Q (.ref l') { s with heap := h', toks := tk }) →
    wpAny (model PySem.Challenge.rw_xm0792_01.row.prog w) (ktrTop dp un gd cn cs L a ccd cl outer) (call (.ref 28) [.ref l]) Q E s := by
  w_top off
  k_with_none
  k_fill
  intro dp un gd cn cs a ccd cl outer A₀ base h₀ L m news s l vs ns Q E B F X N T hk hd hu hL hI hlen hret
  refine wpAny_call ?_
  k_dflt cell_enter
  k_steps
  all_goals (
    (rename Fr h₀ _ _ _ => kF); (rename News h₀ _ _ _ => kN)
    refine hret _ _ _ _ _ _ _ ?_ ?_ ?_ (by exact kF) (by exact kN) (by assumption)
    · first | assumption | omega
    · exact Int.add_nonneg (fmod_lo _ (by decide)) (by decide)
    · exact Int.lt_trans (Int.add_lt_add_right (fmod_hi _ (by decide)) 101) (by decide))

def greedyStep (c : List Str × Str) (x : Int) : List Str × Str :=
  let told := Str.ofString (toString x)
  if c.2 = Str.ofString "" then (c.1, told)
  else if 70 < (c.2.length : Int) + 1 + told.length then (c.1 ++ [c.2], told)
  else (c.1, c.2 ++ Str.ofString " " ++ told)
def greedy (xs : List Int) : List Str × Str := xs.foldl greedyStep ([], Str.ofString "")


theorem digits_len {x : Int} (h : 0 ≤ x ∧ x ≤ 65535) : (Str.ofString (toString x)).length ≤ 10 := KT.len_num h.1 (Int.lt_of_le_of_lt h.2 (by decide))
theorem greedy_snoc (xs : List Int) (x : Int) : greedy (xs ++ [x]) = greedyStep (greedy xs) x := by
  unfold greedy
  rw [List.foldl_append]
  rfl
theorem st_start : (([] : List Str), Str.ofString "") = greedy [] ∧ ([] : List Str).length ≤ ([] : List Int).length ∧ (Str.ofString "").length ≤ 70 := ⟨rfl, Nat.le_refl _, by decide⟩
theorem st_a {rows : List Str} {here : Str} {pre : List Int} {x : Int} (h1 : (rows, here) = greedy pre) (h2 : rows.length ≤ pre.length) (hb : 0 ≤ x ∧ x ≤ 65535) (hc : (here == Str.ofString "") = true) :
    (rows, Str.ofString (toString x)) = greedy (pre ++ [x]) ∧ rows.length ≤ (pre ++ [x]).length ∧ (Str.ofString (toString x)).length ≤ 70 := by
  refine ⟨?_, by simp; omega, Nat.le_trans (digits_len hb) (by decide)⟩
  rw [greedy_snoc, ← h1]
  unfold greedyStep
  rw [if_pos (by simpa using hc)]
theorem st_b {rows : List Str} {here : Str} {pre : List Int} {x : Int} (h1 : (rows, here) = greedy pre) (h2 : rows.length ≤ pre.length) (hb : 0 ≤ x ∧ x ≤ 65535) (hc : (here == Str.ofString "") = false)
    (hl : (70 : Int) < (here.length : Int) + 1 + ((Str.ofString (toString x)).length : Int)) :
    (rows ++ [here], Str.ofString (toString x)) = greedy (pre ++ [x]) ∧ (rows ++ [here]).length ≤ (pre ++ [x]).length ∧ (Str.ofString (toString x)).length ≤ 70 := by
  refine ⟨?_, by simp; omega, Nat.le_trans (digits_len hb) (by decide)⟩
  rw [greedy_snoc, ← h1]
  unfold greedyStep
  rw [if_neg (by simpa using hc), if_pos hl]
theorem st_c {rows : List Str} {here : Str} {pre : List Int} {x : Int} (h1 : (rows, here) = greedy pre) (h2 : rows.length ≤ pre.length) (hc : (here == Str.ofString "") = false)
    (hl : ¬ (70 : Int) < (here.length : Int) + 1 + ((Str.ofString (toString x)).length : Int)) :
    (rows, here ++ Str.ofString " " ++ Str.ofString (toString x)) = greedy (pre ++ [x]) ∧ rows.length ≤ (pre ++ [x]).length ∧ (here ++ Str.ofString " " ++ Str.ofString (toString x)).length ≤ 70 := by
  have e1 : (Str.ofString " ").length = 1 := by decide
  refine ⟨?_, by simp; omega, by rw [Str.length_append, Str.length_append]; omega⟩
  rw [greedy_snoc, ← h1]
  unfold greedyStep
  rw [if_neg (by simpa using hc), if_neg hl]
def linesOf (ns : List Int) : List Str := (greedy ns).1 ++ [(greedy ns).2]
theorem strs_push {vs : List Value} {ss : List Str} {x : Str} {t : Tok} (h : StrsAre vs ss) : StrsAre (vs.toArray.push (.str x t)).toList (ss ++ [x]) := by
  simpa using StrsAre.append' h (.cons x t .nil)
theorem snoc_ind {P : List Int → Prop} (h0 : P []) (h1 : ∀ xs x, P xs → P (xs ++ [x])) : ∀ xs, P xs := by
  have h : ∀ ys : List Int, P ys.reverse := by
    intro ys
    induction ys with
    | nil => exact h0
    | cons a r ih => rw [List.reverse_cons]; exact h1 _ _ ih
  intro xs
  have := h xs.reverse
  rwa [List.reverse_reverse] at this
theorem greedy_short (ns : List Int) : (∀ x ∈ ns, 0 ≤ x ∧ x ≤ 65535) → (∀ y ∈ (greedy ns).1, y.length ≤ 70) ∧ (greedy ns).2.length ≤ 70 ∧ (greedy ns).1.length ≤ ns.length := by
  refine snoc_ind (P := fun ns => (∀ x ∈ ns, 0 ≤ x ∧ x ≤ 65535) → (∀ y ∈ (greedy ns).1, y.length ≤ 70) ∧ (greedy ns).2.length ≤ 70 ∧ (greedy ns).1.length ≤ ns.length) ?_ ?_ ns
  · intro _; exact ⟨fun y hy => (nomatch hy), by decide, Nat.le_refl _⟩
  · intro xs x ih h
    obtain ⟨i1, i2, i3⟩ := ih fun y hy => h y (List.mem_append_left _ hy)
    have hb := h x (by simp)
    have hd := digits_len hb
    rw [greedy_snoc]
    unfold greedyStep
    by_cases c1 : (greedy xs).2 = Str.ofString ""
    · rw [if_pos c1]; exact ⟨i1, by show (Str.ofString (toString x)).length ≤ 70; omega, by simp; omega⟩
    · rw [if_neg c1]
      by_cases c2 : (70 : Int) < ((greedy xs).2.length : Int) + 1 + ((Str.ofString (toString x)).length : Int)
      · rw [if_pos c2]
        refine ⟨fun y hy => ?_, by show (Str.ofString (toString x)).length ≤ 70; omega, by simp; omega⟩
        rcases List.mem_append.mp hy with q | q
        · exact i1 y q
        · rw [List.mem_singleton.mp q]; exact i2
      · rw [if_neg c2]
        have e1 : (Str.ofString " ").length = 1 := by decide
        refine ⟨i1, ?_, by simp; omega⟩
        show ((greedy xs).2 ++ Str.ofString " " ++ Str.ofString (toString x)).length ≤ 70
        rw [Str.length_append, Str.length_append]; omega
theorem lines_weight {ns : List Int} (h : ∀ x ∈ ns, 0 ≤ x ∧ x ≤ 65535) (hl : ns.length ≤ 41) : ((linesOf ns).map (·.length)).sum + (linesOf ns).length ≤ 4000 := by
  obtain ⟨i1, i2, i3⟩ := greedy_short ns h
  have key : ∀ (l : List Str), (∀ y ∈ l, y.length ≤ 70) → (l.map (·.length)).sum ≤ 70 * l.length := by
    intro l
    induction l with
    | nil => intro _; exact Nat.le_refl _
    | cons a r ih =>
      intro h
      have := ih fun y hy => h y (List.mem_cons_of_mem _ hy)
      have := h a (List.mem_cons_self ..)
      simp only [List.map_cons, List.sum_cons, List.length_cons]
      omega
  have := key (linesOf ns) fun y hy => by
    rcases List.mem_append.mp hy with q | q
    · exact i1 y q
    · rw [List.mem_singleton.mp q]; exact i2
  have e : (linesOf ns).length = (greedy ns).1.length + 1 := by simp [linesOf]
  omega
theorem join_ok {ns : List Int} {rows : List Str} {here : Str} (h1 : (rows, here) = greedy ns) (h : ∀ x ∈ ns, 0 ≤ x ∧ x ≤ 65535) (hl : ns.length ≤ 41) : ((rows ++ [here]).map (·.length)).sum + (rows ++ [here]).length ≤ 1048576 := by
  have := lines_weight h hl
  unfold linesOf at this
  rw [← h1] at this
  exact Nat.le_trans this (by decide)
theorem join_ok2 {ns : List Int} {rows : List Str} {here : Str} (h1 : (rows, here) = greedy ns) (h : ∀ x ∈ ns, 0 ≤ x ∧ x ≤ 65535) (hl : ns.length ≤ 41) : (Txt.join (Str.ofString "\n") (rows ++ [here])).length ≤ 8000 := by
  have := lines_weight h hl
  unfold linesOf at this
  rw [← h1] at this
  have e := StrLaws.join_length_le (Str.ofString "\n") (rows ++ [here])
  have e2 : (Str.ofString "\n").length = 1 := by decide
  rw [e2] at e
  have e3 : Txt.join (Str.ofString "\n") (rows ++ [here]) = Str.join (Str.ofString "\n") (rows ++ [here]) := StrLaws.glued_eq_join _ _
  rw [e3]
  dsimp only at this
  omega
/-- what figure_rows gives back -/
def textOf (ns : List Int) : Str := Txt.join (Str.ofString "\n") (linesOf ns) ++ Str.ofString "\n"

set_option maxRecDepth 100000 in
set_option maxHeartbeats 8000000 in
theorem rows_core (w : World) (s₀ : Shared) (mg mb : Str → Option Value) : 
    ∀ (dp un : Nat) (gd : Option (List Code)) (cn : Str) (cs : Scope) (a : Addr) (ccd : Value) (cl : List (Str × Addr)) (outer : List Env) (A₀ : Around) (base h₀ : Heap) (L : Addr) (m : Str → Option Value) (own : List (Addr × Obj)) (s : Shared) (l : Addr) (vs : List Value) (ns : List Int) (c : Nat)
    (Q E : Value → Shared → Prop),
    Below A₀ base outer h₀ → Fr h₀ L s.heap m → (hd.heap_39 w.params).In h₀ → News h₀ L s.heap ((l, listOf vs.toArray c) :: own) → OwnOff own [l] → LTop s₀ mg mb h₀ → cs.kind = .function → dp + 1 < recursionLimit → un + 8 < cLine →
    IntsAre vs ns → ns.length ≤ 41 → (∀ x ∈ ns, 0 ≤ x ∧ x ≤ 65535) →
    (∀ t h' tk, Fr h₀ L h' m → News h₀ L h' ((l, listOf vs.toArray c) :: own) → Q (.str (textOf ns) t) { s with heap := h', toks := tk }) →
    wpAny (model PySem.Challenge.rw_xm0792_01.row.prog w) (ktrTop dp un gd cn cs L a ccd cl outer) (call (.ref 21) [.ref l]) Q E s := by
  w_top off
  k_with_none
  k_fill
  intro dp un gd cn cs a ccd cl outer A₀ base h₀ L m own s l vs ns c Q E B F X N hoff T hk hd hu hI hlen hns hret
  refine wpAny_call ?_
  k_dflt cell_enter
  k_with "pyIter ref" => k_state (fun pre rows here => (rows, here) = greedy pre ∧ rows.length ≤ pre.length ∧ here.length ≤ 70) "rows$" "here"
  k_with "call type:str" => (have hb9 := hns _ (by assumption); refine P.str_of_int (shown (N := 2 ^ 1920) (by omega) (by omega) (Int.le_refl _)) ?_)
  k_with "state" => first
    | exact st_start
    | exact st_a (by assumption) (by assumption) (by assumption) (by assumption)
    | exact st_b (by assumption) (by assumption) (by assumption) (by assumption) (by assumption)
    | exact st_c (by assumption) (by assumption) (by assumption) (by assumption)
  k_with "call builtin:str.join" => (refine join_listW (by is_list) (strs_push (by assumption)) (by decide) (join_ok (by assumption) hns hlen) ?_; intro _ _; have hj9 := join_ok2 (by assumption) hns hlen)
  k_steps
  (rename Fr h₀ _ _ _ => kF); (rename News h₀ _ _ _ => kN); (rename _ = greedy ns => kG)
  have hret' := hret
  unfold textOf linesOf at hret'
  rw [← kG] at hret'
  exact hret' _ _ _ kF (fun p hp => kN p (by simp only [List.mem_cons] at *; exact .inr hp))

section
variable {w : World} {s₀ : Shared} {mg mb : Str → Option Value} {dp un : Nat} {gd : Option (List Code)} {cn : Str} {cs : Scope} {a : Addr} {ccd : Value} {cl : List (Str × Addr)} {outer : List Env} {A₀ : Around} {base h₀ : Heap} {L : Addr} {m : Str → Option Value} {news : List (Addr × Obj)} {s : Shared} {l : Addr} {vs : List Value} {ns : List Int} {c : Nat} {g : Obj → List (Addr × Obj)} {Q E : Value → Shared → Prop}

theorem off_of {own : List (Addr × Obj)} {l : Addr} (h : ∀ p ∈ own, p.1 ≠ l) : OwnOff own [l] := fun p hp b hb => by rw [List.mem_singleton.mp hb]; exact h p hp

theorem loom_lit (h : Loom ns) : ∃ va vb, ns = [va, vb] ∧ 0 ≤ va ∧ 0 ≤ vb ∧ vb < 70000 := by
  obtain ⟨h1, h2, h3, h4⟩ := h
  match ns, h1 with
  | [va, vb], _ => exact ⟨va, vb, rfl, h2, h3, h4⟩

theorem two_ints {va vb : Int} (h : IntsAre vs [va, vb]) : ∃ ta tb, vs = [.int va ta, .int vb tb] := by
  cases h with
  | cons _ ta h =>
    cases h with
    | cons _ tb h =>
      cases h
      exact ⟨ta, tb, rfl⟩
theorem weft_use {many : Int} {tm : Tok} (B : Below A₀ base outer h₀) (F : Fr h₀ L s.heap m) (X : (hd.heap_39 w.params).In h₀) (N : News h₀ L s.heap news) (T : LTop s₀ mg mb h₀) (hk : cs.kind = .function)
    (U : UpdF l (listOf vs.toArray c) news g) (hI : IntsAre vs ns) (hL : Loom ns) (hm : 0 < many) (hm2 : many < 1000000) (hd : dp + 1 < recursionLimit) (hu : un + 8 < cLine)
    (ret : ∀ r tr va' vb' ta' tb' h' tk, 0 ≤ r → r < many → 0 ≤ va' → 0 ≤ vb' → vb' < 70000 → Fr h₀ L h' m → News h₀ L h' (g (listOf #[.int va' ta', .int vb' tb'] c)) → Q (.int r tr) { s with heap := h', toks := tk }) :
    wpAny (model PySem.Challenge.rw_xm0792_01.row.prog w) (ktrTop dp un gd cn cs L a ccd cl outer) (call (.ref 35) [.ref l, .int many tm]) Q E s := by
  obtain ⟨va, vb, rfl, h1, h2, h3⟩ := loom_lit hL
  obtain ⟨ta, tb, rfl⟩ := two_ints hI
  obtain ⟨pre, post, rfl, hg, hp, hq⟩ := U.split
  refine weft_core w s₀ mg mb dp un gd cn cs a ccd cl outer A₀ base h₀ L m (pre ++ post) s l va vb ta tb c many tm Q E B F X (fun p hp' => N p ?_) (off_of fun p hp' => ?_) T hk hd hu h1 h2 h3 hm hm2 ?_
  · rcases List.mem_cons.mp hp' with rfl | q
    · exact List.mem_append_right _ (.head _)
    · rcases List.mem_append.mp q with q | q
      · exact List.mem_append_left _ q
      · exact List.mem_append_right _ (.tail _ q)
  · rcases List.mem_append.mp hp' with q | q
    · exact hp p q
    · exact hq p q
  · intro r tr va' vb' ta' tb' h' tk r1 r2 r3 r4 r5 F' N'
    refine ret r tr va' vb' ta' tb' h' tk r1 r2 r3 r4 r5 F' fun p hp' => ?_
    rw [hg] at hp'
    refine N' p ?_
    rcases List.mem_append.mp hp' with q | q
    · exact .tail _ (List.mem_append_left _ q)
    · rcases List.mem_cons.mp q with rfl | q
      · exact .head _
      · exact .tail _ (List.mem_append_right _ q)

theorem loom_use (B : Below A₀ base outer h₀) (F : Fr h₀ L s.heap m) (X : (hd.heap_39 w.params).In h₀) (N : News h₀ L s.heap news) (T : LTop s₀ mg mb h₀) (hk : cs.kind = .function)
    (hL : base.IsList l vs.toArray) (hI : IntsAre vs ns) (hlen : ns.length < 2 ^ 62) (hd : dp + 1 < recursionLimit) (hu : un + 8 < cLine)
    (ret : ∀ va vb ta tb l' h' tk, 0 ≤ va → 0 ≤ vb → vb < 70000 → Fr h₀ L h' m → News h₀ L h' ((l', listOf #[.int va ta, .int vb tb] 0) :: news) → (∀ p ∈ news, p.1 < l') → Q (.ref l') { s with heap := h', toks := tk }) :
    wpAny (model PySem.Challenge.rw_xm0792_01.row.prog w) (ktrTop dp un gd cn cs L a ccd cl outer) (call (.ref 28) [.ref l]) Q E s :=
  loom_core w s₀ mg mb dp un gd cn cs a ccd cl outer A₀ base h₀ L m news s l vs ns Q E B F X N T hk hd hu hL hI hlen ret

theorem rows_use (B : Below A₀ base outer h₀) (F : Fr h₀ L s.heap m) (X : (hd.heap_39 w.params).In h₀) (N : News h₀ L s.heap news) (T : LTop s₀ mg mb h₀) (hk : cs.kind = .function)
    (U : UpdF l (listOf vs.toArray c) news g) (hI : IntsAre vs ns) (hlen : ns.length ≤ 41) (hns : ∀ x ∈ ns, 0 ≤ x ∧ x ≤ 65535) (hd : dp + 1 < recursionLimit) (hu : un + 8 < cLine)
    (ret : ∀ t h' tk, Fr h₀ L h' m → News h₀ L h' news → Q (.str (textOf ns) t) { s with heap := h', toks := tk }) :
    wpAny (model PySem.Challenge.rw_xm0792_01.row.prog w) (ktrTop dp un gd cn cs L a ccd cl outer) (call (.ref 21) [.ref l]) Q E s := by
  obtain ⟨pre, post, rfl, hg, hp, hq⟩ := U.split
  refine rows_core w s₀ mg mb dp un gd cn cs a ccd cl outer A₀ base h₀ L m (pre ++ post) s l vs ns c Q E B F X (fun p hp' => N p ?_) (off_of fun p hp' => ?_) T hk hd hu hI hlen hns ?_
  · rcases List.mem_cons.mp hp' with rfl | q
    · exact List.mem_append_right _ (.head _)
    · rcases List.mem_append.mp q with q | q
      · exact List.mem_append_left _ q
      · exact List.mem_append_right _ (.tail _ q)
  · rcases List.mem_append.mp hp' with q | q
    · exact hp p q
    · exact hq p q
  · intro t h' tk F' N'
    refine ret t h' tk F' fun p hp' => N' p ?_
    rcases List.mem_append.mp hp' with q | q
    · exact .tail _ (List.mem_append_left _ q)
    · rcases List.mem_cons.mp q with rfl | q
      · exact .head _
      · exact .tail _ (List.mem_append_right _ q)
end

section
variable {prog : Program} {w : World} {A : Around} {E : Value → Shared → Prop} {s : Shared} {e : Int} {t u : Tok} {Q : Value → Shared → Prop}
/-- ten to a small power: an int between 1 and 10000 -/
theorem pow_use (h0 : 0 ≤ e) (h4 : e ≤ 4) (h : ∀ (P : Int), 1 ≤ P → P ≤ 10000 → ∀ t tk, Q (.int P t) { s with toks := tk }) : wpAny (model prog w) A (binaryOp .Pow (.int 10 t) (.int e u)) Q E s := by
  have e4 : e.toNat ≤ 4 := by omega
  have k1 : ∀ k : Nat, k ≤ 4 → 1 ≤ (10 : Int) ^ k := by decide
  have k2 : ∀ k : Nat, k ≤ 4 → (10 : Int) ^ k ≤ 10000 := by decide
  exact pow_int_small h0 (by omega) (by decide) (h _ (k1 _ e4) (k2 _ e4) _ _)
/-- min(65535, b) of a b that is nought or more: an int between 0 and 65535 -/
theorem min_use {h₀ : Heap} {L : Addr} {m : Str → Option Value} {news : List (Addr × Obj)} {b : Int} (hh : A.handled = none) (F : Fr h₀ L s.heap m) (N : News h₀ L s.heap news) (hb : 0 ≤ b)
    (h : ∀ (x : Int), 0 ≤ x → x ≤ 65535 → ∀ t h' tk, Fr h₀ L h' m → News h₀ L h' news → Q (.int x t) { s with heap := h', toks := tk }) : wpAny (model prog w) A (call (.builtin "min") [.int 65535 t, .int b u]) Q E s :=
  min_two_N hh F N fun h' tk F' N' => h _ (by split <;> omega) (by split <;> omega) _ h' tk F' N'
end

section
variable {prog : Program} {w : World} {A : Around} {E : Value → Shared → Prop} {R : Result → Shared → Prop} {s : Shared}

/-- a comprehension of two clauses without tests -/
abbrev two (elt t1 i1 t2 i2 : PySem.Expr) (scope : Scope) (pos : Pos) : PySem.Expr := .ListComp elt [⟨t1, i1, [], 0⟩, ⟨t2, i2, [], 0⟩] scope pos

theorem turn_two0 (elt t1 i1 t2 i2 : PySem.Expr) (scope : Scope) (pos : Pos) (it acc : Value) (env : Env) :
    compTurn (two elt t1 i1 t2 i2 scope pos) 0 it acc env = (standAt i1.pos >>= fun _ => pyNext it >>= fun r => match r with
      | none => pure (.done .next)
      | some v => letOwnedTupleGo t1 it v >>= fun _ => assign t1 env v >>= fun _ => eval i2 env >>= fun x => standAt i2.pos >>= fun _ => foldedSetIterable i2 env x >>= fun x =>
        holding [x] (pyIter x) >>= fun it2 => runOwn (.compStart (two elt t1 i1 t2 i2 scope pos) 1 it2 acc env) env >>= fun _ => again (.compLoop (two elt t1 i1 t2 i2 scope pos) 0 it acc env)) := by rfl

theorem turn_two1 (elt t1 i1 t2 i2 : PySem.Expr) (scope : Scope) (pos : Pos) (it acc : Value) (env : Env) :
    compTurn (two elt t1 i1 t2 i2 scope pos) 1 it acc env = (standAt i2.pos >>= fun _ => pyNext it >>= fun r => match r with
      | none => pure (.done .next)
      | some v => letOwnedTupleGo t2 it v >>= fun _ => assign t2 env v >>= fun _ =>
        (eval elt env >>= fun x => call (.builtin "list.append") [acc, x] >>= fun _ => pure ()) >>= fun _ =>
          again (.compLoop (two elt t1 i1 t2 i2 scope pos) 1 it acc env)) := by rfl

/-- the start of the second clause's walk -/
theorem start_two1 {elt t1 i1 t2 i2 : PySem.Expr} {scope : Scope} {pos : Pos} {it acc : Value} {env : Env}
    (h0 : codeAny (model prog w) A (.compLoop (two elt t1 i1 t2 i2 scope pos) 1 it acc env) R s)
    (h : wpAny (model prog w) A (pyIter it) (fun it' s' => codeAny (model prog w) A (.compLoop (two elt t1 i1 t2 i2 scope pos) 1 it' acc env) R s')
      (notedBy (model prog w) A env fun x s' => R (.error x) s') s) :
    codeAny (model prog w) A (.compStart (two elt t1 i1 t2 i2 scope pos) 1 it acc env) R s := by
  have go : wpAny (model prog w) A (compStart (two elt t1 i1 t2 i2 scope pos) 1 it acc env)
      (fun fin s' => match fin with | .done f => R (.ok f) s' | .again c' => c'.quiet = true ∧ codeAny (model prog w) A c' R s') (notedBy (model prog w) A env fun x s' => R (.error x) s') s := by
    unfold compStart
    show wpAny _ _ (ask >>= _) _ _ s
    refine wpAny_bind (wpAny_askSetting (wpAny_ite ?_))
    split
    · exact wpAny_pure ⟨rfl, h0⟩
    · refine wpAny_bind (wpAny_rule ?_)
      show wpAny _ _ (standAt i2.pos >>= _) _ _ s
      exact wpAny_bind (wpAny_standAt (wpAny_bind (wpAny_mono h (fun it' s' h' => wpAny_pure ⟨rfl, h'⟩) fun _ _ x => x)))
  exact codeAny_of_tree (wpAny_notedAt go)

/-- the second clause: the items of the list T, one after the other, go onto the list D -/
theorem inner_loop {t1 i1 i2 : PySem.Expr} {y : Str} {py pe : Pos} {scope : Scope} {pos : Pos} {I T D : Addr} {its ys0 : Array Value} {cenv : Env} {m : Str → Option Value}
    (hh : A.handled = none) (hy : cenv.kindOf y = some .local) (hp : (cenv.scope.kind == .class || (cenv.scope.kind == .module && cenv.locals != cenv.globals)) = false) (hk : cenv.scope.kind = .function) (hyd : (y == ("__debug__" : Str)) = false)
    (hTI : T ≠ I) (hDC : D ≠ cenv.locals) (hDI : D ≠ I) (hDT : D ≠ T) (hCI : cenv.locals ≠ I) (hCT : cenv.locals ≠ T)
    (hit : s.heap.IsListIter I T 0) (hT : s.heap.IsList T its) (hacc : s.heap.PlainList D ys0) (hn : s.heap.Ns cenv.locals m)
    (hR : ∀ h' tk m', h'.Ns cenv.locals m' → h'.PlainList D (ys0 ++ its) → (∀ b o, b ≠ cenv.locals → b ≠ I → b ≠ D → s.heap.get? b = some o → h'.get? b = some o) → R (.ok .next) { s with heap := h', toks := tk })
    (hsz : ys0.size + its.size ≤ sizeLine) :
    codeAny (model prog w) A (.compLoop (two (.Name y pe) t1 i1 (.Name y py) i2 scope pos) 1 (.ref I) (.ref D) cenv) R s := by
  refine codeAny_loop rfl (fun k s' => ∃ h' tk m' i, s' = { s with heap := h', toks := tk } ∧ i ≤ its.size ∧ k = its.size - i ∧ h'.IsListIter I T i ∧ h'.IsList T its ∧ h'.PlainList D (ys0 ++ its.extract 0 i) ∧ h'.Ns cenv.locals m' ∧
    (∀ b o, b ≠ cenv.locals → b ≠ I → b ≠ D → s.heap.get? b = some o → h'.get? b = some o)) ?_ its.size
    ⟨s.heap, s.toks, m, 0, rfl, Nat.zero_le _, rfl, hit, hT, by simpa using hacc, hn, fun _ _ _ _ _ e => e⟩
  rintro k s' ⟨h', tk, m', i, rfl, hi, rfl, hit', hT', hacc', hn', hkeep⟩
  show wpAny _ A ((compTurn (two (.Name y pe) t1 i1 (.Name y py) i2 scope pos) 1 (.ref I) (.ref D) cenv).onRaise (fun x => do noteFrame x cenv; theTreesLotGoes x)) _ _ _
  refine wpAny_noted ?_
  rw [turn_two1]
  refine wpAny_bind (wpAny_standAt (wpAny_bind ?_))
  by_cases hlt : i < its.size
  · refine wpAny_pyNext_list_item hit' hT' (x := its[i]) (by simp [hlt]) fun h1 hit1 hs1 => ?_
    refine wpAny_bind (wpAny_of_eq rfl ?_)
    refine wpAny_bind (wpAny_assign_Name (wpAny_storeName_local hy (hn'.sameBut hs1 hCI) (fun h2 hn2 hs2 => ?_) hp))
    refine wpAny_bind (wpAny_bind (wpAny_Name (wpAny_loadName_local (v := its[i]) hk hy hn2 (by simp) ?_) hyd))
    have up2 : ∀ b o, b ≠ cenv.locals → b ≠ I → h'.get? b = some o → h2.get? b = some o := fun b o hb hI e => hs2.extBut b o hb (hs1.extBut b o hI e)
    have hacc2 : h2.PlainList D (ys0 ++ its.extract 0 i) := hacc'.at fun o e => up2 D o hDC hDI e
    have hsz2 : (ys0 ++ its.extract 0 i).size ≤ sizeLine := by
      rw [Array.size_append, Array.size_extract]; omega
    refine wpAny_bind (wpAny_list_append_plain (hsz := hsz2) hacc2 fun h3 hl3 hs3 => ?_)
    refine wpAny_pure (wpAny_pure ⟨rfl, its.size - (i + 1), by omega, h3, _, _, i + 1, rfl, hlt, rfl, ?_, ?_, ?_, hn2.sameBut hs3 (Ne.symm hDC), ?_⟩)
    · exact hit1.at fun o e => hs3.extBut I o (Ne.symm hDI) (hs2.extBut I o (Ne.symm hCI) e)
    · exact hT'.at fun o e => hs3.extBut T o (Ne.symm hDT) (up2 T o (Ne.symm hCT) hTI e)
    · have e : (ys0 ++ its.extract 0 i).push its[i] = ys0 ++ its.extract 0 (i + 1) := by
        apply Array.toList_inj.mp
        have e2 : its[i] = its.toList[i] := by simp
        rw [e2]
        simp only [Array.toList_push, Array.toList_append, Array.toList_extract, List.append_assoc, List.extract_eq_take_drop, List.drop_zero, Nat.sub_zero]
        rw [List.take_append_getElem (by simpa using hlt)]
      rw [← e]
      exact hl3
    · exact fun b o hb hI hD e => hs3.extBut b o hD (up2 b o hb hI (hkeep b o hb hI hD e))
  · have hie : i = its.size := by omega
    subst hie
    refine wpAny_pyNext_list_end hh hit' hT' (by simp) fun h1 he1 => ?_
    refine wpAny_pure ?_
    refine hR h1 _ m' (hn'.at' fun o e => he1 _ o hCI e) ?_ fun b o hb hI hD e => he1 b o hI (hkeep b o hb hI hD e)
    have := hacc'.at (h' := h1) fun o e => he1 D o hDI e
    simpa using this

theorem strs_take_succ {vs : List Value} {as : List Str} (h : StrsAre vs as) {i : Nat} (hi : i < as.length) : ∃ t, vs[i]? = some (.str (as[i]) t) := h.get i _ (by simp [hi])

def OInv (s : Shared) (D I ax C : Addr) (vs : List Value) (as : List Str) (f : Str → List Str) (k : Nat) (s' : Shared) : Prop :=
  ∃ h' tk m' i ys, s' = { s with heap := h', toks := tk } ∧ i ≤ as.length ∧ k = as.length - i ∧ h'.IsListIter I ax i ∧ h'.IsList ax vs.toArray ∧ h'.PlainList D ys ∧ StrsAre ys.toList ((as.take i).flatMap f) ∧ h'.Ns C m' ∧
    (∀ b o, b ≠ C → b ≠ I → b ≠ D → s.heap.get? b = some o → h'.get? b = some o)

/-- the first clause: over a list of texts; the second clause's source is a new list of texts -/
theorem outer_loop {i1 i2 : PySem.Expr} {x y : Str} {px py pe : Pos} {scope : Scope} {pos : Pos} {I ax D : Addr} {vs : List Value} {as : List Str} {f : Str → List Str} {cenv : Env} {m : Str → Option Value}
    (hh : A.handled = none) (hx : cenv.kindOf x = some .local) (hy : cenv.kindOf y = some .local) (hp : (cenv.scope.kind == .class || (cenv.scope.kind == .module && cenv.locals != cenv.globals)) = false) (hk : cenv.scope.kind = .function) (hyd : (y == ("__debug__" : Str)) = false)
    (haI : ax ≠ I) (hDC : D ≠ cenv.locals) (hDI : D ≠ I) (hDa : D ≠ ax) (hCI : cenv.locals ≠ I) (hCa : cenv.locals ≠ ax)
    (hfold : ∀ v, foldedSetIterable i2 cenv v = pure v)
    (hit : s.heap.IsListIter I ax 0) (hl : s.heap.IsList ax vs.toArray) (hi : StrsAre vs as) (hacc : s.heap.PlainList D #[]) (hn : s.heap.Ns cenv.locals m)
    (heval : ∀ a t s₂ m₂, a ∈ as → s₂.heap.Ns cenv.locals m₂ → m₂ x = some (.str a t) → (∀ b o, b ≠ cenv.locals → b ≠ I → b ≠ D → s.heap.get? b = some o → s₂.heap.get? b = some o) →
      wpAny (model prog w) A (eval i2 cenv) (fun r s₃ => (∃ T its, r = .ref T ∧ s₂.heap.get? T = none ∧ s₃.heap.IsList T its ∧ StrsAre its.toList (f a)) ∧ Keeps s₂ s₃) (notedBy (model prog w) A cenv fun e s' => R (.error e) s') s₂)
    (hsz : (as.flatMap f).length ≤ sizeLine)
    (hR : ∀ h' tk m' ys, h'.Ns cenv.locals m' → h'.PlainList D ys → StrsAre ys.toList (as.flatMap f) → (∀ b o, b ≠ cenv.locals → b ≠ I → b ≠ D → s.heap.get? b = some o → h'.get? b = some o) → R (.ok .next) { s with heap := h', toks := tk }) :
    codeAny (model prog w) A (.compLoop (two (.Name y pe) (.Name x px) i1 (.Name y py) i2 scope pos) 0 (.ref I) (.ref D) cenv) R s := by
  have hlen := hi.length
  refine codeAny_loop rfl (OInv s D I ax cenv.locals vs as f) ?_ as.length
    ⟨s.heap, s.toks, m, 0, #[], rfl, Nat.zero_le _, rfl, hit, hl, hacc, by simpa using StrsAre.nil, hn, fun _ _ _ _ _ e => e⟩
  rintro k s' ⟨h', tk, m', i, ys, rfl, hile, rfl, hit', hl', hacc', hys, hn', hkeep⟩
  show wpAny _ A ((compTurn (two (.Name y pe) (.Name x px) i1 (.Name y py) i2 scope pos) 0 (.ref I) (.ref D) cenv).onRaise (fun x => do noteFrame x cenv; theTreesLotGoes x)) _ _ _
  refine wpAny_noted ?_
  rw [turn_two0]
  refine wpAny_bind (wpAny_standAt (wpAny_bind ?_))
  by_cases hlt : i < as.length
  · obtain ⟨t, ht⟩ := strs_take_succ hi hlt
    refine wpAny_pyNext_list_item hit' hl' (x := .str as[i] t) (by simpa using ht) fun h1 hit1 hs1 => ?_
    refine wpAny_bind (wpAny_of_eq rfl ?_)
    refine wpAny_bind (wpAny_assign_Name (wpAny_storeName_local hx (hn'.sameBut hs1 hCI) (fun h2 hn2 hs2 => ?_) hp))
    have up2 : ∀ b o, b ≠ cenv.locals → b ≠ I → h'.get? b = some o → h2.get? b = some o := fun b o hb hI e => hs2.extBut b o hb (hs1.extBut b o hI e)
    refine wpAny_bind (wpAny_mono (heval as[i] t _ _ (List.getElem_mem hlt) hn2 (by simp) fun b o hb hI hD e => up2 b o hb hI (hkeep b o hb hI hD e)) (fun r s₃ h₃ => ?_) fun _ _ e => e)
    obtain ⟨⟨T, its, rfl, hTn, hT, hTs⟩, h3, tk3, rfl, hk3⟩ := h₃
    change h2.get? T = none at hTn
    change ∀ b o, h2.get? b = some o → h3.get? b = some o at hk3
    refine wpAny_bind (wpAny_standAt (wpAny_bind (wpAny_of_eq (hfold _) (wpAny_bind (wpAny_holding (wpAny_pyIter_list hT ?_))))))
    have old : ∀ b o, h2.get? b = some o → b ≠ T ∧ b < h3.objs.size := fun b o e => ⟨(fun hb => by subst hb; rw [hTn] at e; cases e), Heap.lt_size (hk3 b o e)⟩
    have atC : cenv.locals ≠ T ∧ cenv.locals < h3.objs.size := by obtain ⟨_, _, _, ho, _⟩ := hn2; exact old _ _ ho
    have hacc2 : h2.PlainList D ys := hacc'.at fun o e => up2 D o hDC hDI e
    have atD : D ≠ T ∧ D < h3.objs.size := by obtain ⟨_, ho⟩ := hacc2; exact old _ _ ho
    have hit2 : h2.IsListIter I ax (i + 1) := hit1.at fun o e => hs2.extBut I o (Ne.symm hCI) e
    have atI : I ≠ T ∧ I < h3.objs.size := by obtain ⟨_, ho, _⟩ := hit2; exact old _ _ ho
    have hl2 : h2.IsList ax vs.toArray := hl'.at fun o e => up2 ax o (Ne.symm hCa) haI e
    have ata : ax ≠ T ∧ ax < h3.objs.size := by obtain ⟨_, ho, _⟩ := hl2; exact old _ _ ho
    have atT : T < h3.objs.size := by obtain ⟨_, ho, _⟩ := hT; exact Heap.lt_size ho
    have hnew : ((h3.push { cls := .type "list_iterator", data := .fields #[.ref T, .int 0 0] }).IsListIter h3.objs.size T 0) := ⟨_, Heap.get?_push_size _ rfl, rfl, rfl⟩
    have up3 : ∀ b o, h2.get? b = some o → (h3.push { cls := .type "list_iterator", data := .fields #[.ref T, .int 0 0] }).get? b = some o := fun b o e => Heap.get?_push_of_some _ (hk3 b o e)
    have hflen : (((as.take i).flatMap f) ++ f as[i]).length ≤ sizeLine := by
      have e : as = as.take i ++ as[i] :: as.drop (i + 1) := by rw [← List.drop_eq_getElem_cons hlt, List.take_append_drop]
      have e2 : as.flatMap f = (as.take i).flatMap f ++ (f as[i] ++ (as.drop (i + 1)).flatMap f) := by
        conv => lhs; rw [e]
        rw [List.flatMap_append, List.flatMap_cons]
      rw [e2] at hsz
      simp only [List.length_append] at hsz ⊢
      omega
    have hszi : ys.size + its.size ≤ sizeLine := by
      have l1 := hys.length
      have l2 := hTs.length
      rw [Array.length_toList] at l1 l2
      rw [List.length_append] at hflen
      omega
    have inner : codeAny (model prog w) A (.compLoop (two (.Name y pe) (.Name x px) i1 (.Name y py) i2 scope pos) 1 (.ref h3.objs.size) (.ref D) cenv)
        (fun r s' => match r with
          | .ok _ => ∃ k, k < as.length - i ∧ OInv s D I ax cenv.locals vs as f k s'
          | .error e => cameBackBy (model prog w) A cenv (notedBy (model prog w) A cenv fun e s' => R (.error e) s') e s')
        { s with heap := h3.push { cls := .type "list_iterator", data := .fields #[.ref T, .int 0 0] }, toks := tk3 } := by
      refine inner_loop hh hy hp hk hyd (Nat.ne_of_lt atT) hDC (Nat.ne_of_lt atD.2) atD.1 (Nat.ne_of_lt atC.2) atC.1 hnew (hT.push _) (hacc2.at fun o e => up3 D o e) (hn2.at' fun o e => up3 _ o e) (fun h' tk m' hn4 hacc4 hk4 => ?_) hszi
      have hk4' : ∀ b o, b ≠ cenv.locals → b ≠ D → h2.get? b = some o → h'.get? b = some o := fun b o hb hD e => hk4 b o hb (Nat.ne_of_lt (old b o e).2) hD (up3 b o e)
      refine ⟨as.length - (i + 1), by omega, h', tk, m', i + 1, ys ++ its, rfl, hlt, rfl, ?_, ?_, hacc4, ?_, hn4, ?_⟩
      · exact hit2.at fun o e => hk4' I o (Ne.symm hCI) (Ne.symm hDI) e
      · exact hl2.at fun o e => hk4' ax o (Ne.symm hCa) (Ne.symm hDa) e
      · have e : (as.take (i + 1)).flatMap f = (as.take i).flatMap f ++ f as[i] := by
          rw [← List.take_append_getElem hlt, List.flatMap_append]
          simp
        rw [e, Array.toList_append]
        exact StrsAre.append' hys hTs
      · exact fun b o hb hI hD e => hk4' b o hb hD (up2 b o hb hI (hkeep b o hb hI hD e))
    refine wpAny_bind (wpAny_runOwn (codeAny_mono (start_two1 inner (wpAny_pyIter_listiter hnew inner)) fun r s' hr => ?_))
    cases r with
    | ok f => exact wpAny_pure ⟨rfl, hr⟩
    | error e => exact hr
  · have hie : i = as.length := by omega
    subst hie
    refine wpAny_pyNext_list_end hh hit' hl' (by simp [hlen]) fun h1 he1 => ?_
    refine wpAny_pure ?_
    exact hR h1 _ m' ys (hn'.at' fun o e => he1 _ o hCI e) (hacc'.at fun o e => he1 D o hDI e) (by simpa using hys) fun b o hb hI hD e => he1 b o hI (hkeep b o hb hI hD e)

/-- a new list of the texts l stands at r; all else is as it was -/
def NewTexts (s₂ : Shared) (l : List Str) (r : Value) (s₃ : Shared) : Prop := (∃ T its, r = .ref T ∧ s₂.heap.get? T = none ∧ s₃.heap.IsList T its ∧ StrsAre its.toList l) ∧ Keeps s₂ s₃

def NestPack (prog : Program) (w : World) (A : Around) (env : Env) (scope : Scope) (cl : List (Str × Addr)) (x : Str) (i2 : PySem.Expr) (Q : Value → Shared → Prop) (xv : Value) (s₁ : Shared) : Prop :=
  ∃ ax vs as, ∃ f : Str → List Str, xv = .ref ax ∧ s₁.heap.IsList ax vs.toArray ∧ StrsAre vs as ∧ (as.flatMap f).length ≤ sizeLine ∧
      (∀ C a t s₂ m₂ E', s₁.heap.objs.size ≤ C → a ∈ as → s₂.heap.Ns C m₂ → m₂ x = some (.str a t) → (∀ b o, s₁.heap.get? b = some o → s₂.heap.get? b = some o) →
        wpAny (model prog w) A (eval i2 (compEnvC scope cl C env)) (NewTexts s₂ (f a)) E' s₂) ∧
      (∀ D ys h' tk, s₁.heap.get? D = none → h'.PlainList D ys → StrsAre ys.toList (as.flatMap f) → (∀ b o, s₁.heap.get? b = some o → h'.get? b = some o) → Q (.ref D) { s₁ with heap := h', toks := tk })

/-- [y for x in SOURCE for y in i2]: over a list of texts; i2 makes a new list of texts out of x -/
theorem nested_comp {env : Env} {i1 i2 : PySem.Expr} {x y : Str} {px py pe : Pos} {scope : Scope} {cl : List (Str × Addr)} {pos : Pos} {Q : Value → Shared → Prop}
    (hh : A.handled = none) (hclos : closureFor scope env = pure cl) (hcell : ∀ z ∈ scope.names, z.2 ≠ .cell) (hkind : scope.kind = .function)
    (hnames : ∀ z ∈ scope.names, z.2 = .local → scope.names.lookup z.1 = some .local) (hx : scope.names.lookup x = some .local) (hy : scope.names.lookup y = some .local) (hyd : (y == ("__debug__" : Str)) = false)
    (hfold : ∀ C v, foldedSetIterable i2 (compEnvC scope cl C env) v = pure v) (hs : ∀ v, foldedSetIterable i1 env v = pure v)
    (h : wpAny (model prog w) A (eval i1 env) (NestPack prog w A env scope cl x i2 Q) E s) :
    wpAny (model prog w) A (eval (two (.Name y pe) (.Name x px) i1 (.Name y py) i2 scope pos) env) Q E s := by
  rw [eval_ListComp]
  refine wpAny_comprehension_free (use := none) rfl hs hclos hkind hnames (wpAny_mono h (fun xv s₁ h₁ => ?_) fun _ _ e => e)
  obtain ⟨ax, vs, as, f, rfl, hl, hi, hsz, heval, hQ⟩ := h₁
  have hax : ax < s₁.heap.objs.size := by obtain ⟨_, e, _⟩ := hl; exact Heap.lt_size e
  refine wpAny_pyIter_list hl ?_
  generalize hH1 : s₁.heap.push { cls := .type "list_iterator", data := .fields #[.ref ax, .int 0 0] } = H1
  have sz1 : H1.objs.size = s₁.heap.objs.size + 1 := by rw [← hH1, Heap.size_push]
  have up1 : ∀ b o, s₁.heap.get? b = some o → H1.get? b = some o := fun b o e => hH1 ▸ Heap.get?_push_of_some _ e
  have hit1 : H1.IsListIter s₁.heap.objs.size ax 0 := hH1 ▸ ⟨_, Heap.get?_push_size _ rfl, rfl, rfl⟩
  refine wpAny_newObj_type (wpAny_newFunctionEnv hcell (by intro y hy; simp at hy) (fun h₁ hns₁ hsb₁ => ?_) hkind)
  dsimp only at hns₁ hsb₁ ⊢
  generalize hH2 : H1.push { cls := .type "list", dict := none, data := .seq ([] : List Value).toArray } = H2 at hns₁ hsb₁ ⊢
  have sz2 : H2.objs.size = H1.objs.size + 1 := by rw [← hH2, Heap.size_push]
  have hax' : @LT.lt Nat _ ax s₁.heap.objs.size := hax
  have n12 : @Ne Nat H1.objs.size H2.objs.size := by omega
  have ns1 : @Ne Nat s₁.heap.objs.size H1.objs.size := by omega
  have ns2 : @Ne Nat s₁.heap.objs.size H2.objs.size := by omega
  have na1 : @Ne Nat ax H1.objs.size := by omega
  have na2 : @Ne Nat ax H2.objs.size := by omega
  have below : ∀ b o, s₁.heap.get? b = some o → b ≠ H2.objs.size ∧ b ≠ s₁.heap.objs.size ∧ b ≠ H1.objs.size := fun b o e => by
    have q : @LT.lt Nat _ b s₁.heap.objs.size := Heap.lt_size e
    exact ⟨neN (by omega), neN (by omega), neN (by omega)⟩
  have old : ∀ b o, H1.get? b = some o → h₁.get? b = some o := fun b o e => hsb₁.extBut b o (by have q : @LT.lt Nat _ b H1.objs.size := Heap.lt_size e; exact neN (by omega)) (Heap.get?_push_of_some _ (hH2 ▸ Heap.get?_push_of_some _ e))
  have hacc : h₁.PlainList H1.objs.size #[] := ⟨_, hsb₁.extBut _ _ n12 (Heap.get?_push_of_some _ (hH2 ▸ Heap.get?_push_size _ rfl))⟩
  have fresh : ∀ a, s₁.heap.objs.size ≤ a → s₁.heap.get? a = none := fun a ha => by
    cases e : s₁.heap.get? a with
    | none => rfl
    | some o' => exact absurd (Heap.lt_size e) (Nat.not_lt.mpr ha)
  have hit2 : h₁.IsListIter s₁.heap.objs.size ax 0 := hit1.at fun o e => old _ o e
  have up2 : ∀ b o, s₁.heap.get? b = some o → h₁.get? b = some o := fun b o e => old b o (up1 b o e)
  have loop : codeAny (model prog w) A (.compLoop (two (.Name y pe) (.Name x px) i1 (.Name y py) i2 scope pos) 0 (.ref s₁.heap.objs.size) (.ref H1.objs.size) (compEnvC scope cl H2.objs.size env))
      (compPost (model prog w) A E none Q (.ref H1.objs.size) H2.objs.size) { s₁ with heap := h₁, toks := s₁.toks + ([] : List (Str × Value)).length } := by
    refine outer_loop (cenv := compEnvC scope cl H2.objs.size env) (f := f) hh (lookup_relabel_local hx) (lookup_relabel_local hy) (by simp [compEnvC, relabel, hkind]) (by simp [compEnvC, relabel, hkind]) hyd (Nat.ne_of_lt hax)
      n12 (Ne.symm ns1) (Ne.symm na1) (Ne.symm ns2) (Ne.symm na2) (hfold _) hit2 (hl.at fun o e => up2 _ o e) hi hacc hns₁
      (fun a t s₂ m₂ ha hn hm hk => heval _ a t s₂ m₂ _ (by rw [sz2, sz1]; exact Nat.le_succ_of_le (Nat.le_succ _)) ha hn hm fun b o e => hk b o (below b o e).1 (below b o e).2.1 (below b o e).2.2 (up2 b o e)) hsz ?_
    intro h' tk m' ys hn' hpl hys hk
    exact ⟨m', hn', fun h'' hs'' => hQ _ ys h'' tk (fresh _ (by rw [sz1]; exact Nat.le_succ _)) (hpl.extBut hs''.extBut n12) hys fun b o e =>
      hs''.extBut b o (below b o e).1 (hk b o (below b o e).1 (below b o e).2.1 (below b o e).2.2 (up2 b o e))⟩
  exact codeAny_compStart_list loop (wpAny_pyIter_listiter hit2 loop)

open PySem.Builtin PySem.Builtin.Str in
/-- str.split by a separator: one new object, nothing else -/
theorem split_push {x y : Str} {t u : Tok} {Q : Value → Shared → Prop} (hy : (y.length == 0) = false) (hsz : x.length + 2 ≤ sizeLine)
    (h : ∀ l k, l.map (·.1) = Txt.split x y → Q (.ref s.heap.objs.size) { s with heap := s.heap.push { cls := .type "list", data := .seq (strValues l).toArray }, toks := k }) :
    wpAny (model prog w) A (call (.builtin "str.split") [.str x t, .str y u]) Q E s := by
  have room : (partsBetween x (occurrences x y 0 x.length (x.length + 1)) y.length).length ≤ sizeLine := by
    have := StrLaws.occ_length_le x y 0 x.length (x.length + 1)
    rw [length_partsBetween]
    omega
  by_cases c1 : (decide (x.length < y.length) || decide (strKind x < strKind y)) = true
  · exact call_meets F.slot_str_split (typeIs_str _ _ _) F.entry_str_split (F.args_str_split_2 _ _) (meets_str_split_cannot_occur x y t u c1) (h [(x, t)] s.toks (if_pos c1).symm)
  · have c1' := Bool.eq_false_iff.mpr c1
    by_cases c2 : (occurrences x y 0 x.length (x.length + 1)).isEmpty = true
    · exact call_meets F.slot_str_split (typeIs_str _ _ _) F.entry_str_split (F.args_str_split_2 _ _) (meets_str_split_not_found x y t u c1' hy c2) (h [(x, t)] s.toks ((if_neg c1).trans (if_pos c2)).symm)
    · have c2' := Bool.eq_false_iff.mpr c2
      refine call_meets F.slot_str_split (typeIs_str _ _ _) F.entry_str_split (F.args_str_split_2 _ _) (meets_str_split_sep x y t u c1' hy c2' (by omega) room) ?_
      have q := h (numbered s.toks (partsBetween x (occurrences x y 0 x.length (x.length + 1)) y.length)) (s.toks + (partsBetween x (occurrences x y 0 x.length (x.length + 1)) y.length).length) ((numbered_texts _ _).trans ((if_neg c1).trans (if_neg c2)).symm)
      rw [← strsFrom_eq] at q
      exact q

theorem split_texts {x y : Str} {t u : Tok} (hy : (y.length == 0) = false) (hsz : x.length + 2 ≤ sizeLine) : wpAny (model prog w) A (call (.builtin "str.split") [.str x t, .str y u]) (NewTexts s (Txt.split x y)) E s := by
  refine split_push hy hsz fun l k e => ⟨⟨s.heap.objs.size, _, rfl, ?_, ⟨_, Heap.get?_push_size _ rfl, rfl, _, rfl⟩, e ▸ strsAre_of_values l⟩, _, k, rfl, fun b o q => Heap.get?_push_of_some _ q⟩
  cases e : s.heap.get? s.heap.objs.size with
  | none => rfl
  | some o => exact absurd (Heap.lt_size e) (Nat.lt_irrefl _)

/-- what an element's evaluation leaves: its value, and all else as it was -/
def Elt (F : Value → Value → Prop) (v : Value) (s₂ : Shared) (y : Value) (s₃ : Shared) : Prop := F v y ∧ Keeps s₂ s₃
def OnePack (F : Value → Value → Prop) (prog : Program) (w : World) (A : Around) (env : Env) (scope : Scope) (cl : List (Str × Addr)) (x : Str) (elt : PySem.Expr) (Q : Value → Shared → Prop) (xv : Value) (s₁ : Shared) : Prop :=
  ∃ ax vs, xv = .ref ax ∧ s₁.heap.IsList ax vs ∧ vs.size ≤ sizeLine ∧
      (∀ C v s₂ m₂ E', s₁.heap.objs.size ≤ C → v ∈ vs.toList → s₂.heap.Ns C m₂ → m₂ x = some v → (∀ b o, s₁.heap.get? b = some o → s₂.heap.get? b = some o) →
        wpAny (model prog w) A (eval elt (compEnvC scope cl C env)) (Elt F v s₂) E' s₂) ∧
      (∀ D ys h' tk, s₁.heap.get? D = none → h'.PlainList D ys → Paired F vs.toList ys.toList → (∀ b o, s₁.heap.get? b = some o → h'.get? b = some o) → Q (.ref D) { s₁ with heap := h', toks := tk })
/-- [elt for x in SOURCE]: over any list; elt makes at most new things -/
theorem one_comp (F : Value → Value → Prop) {env : Env} {i1 elt : PySem.Expr} {x : Str} {px : Pos} {scope : Scope} {cl : List (Str × Addr)} {pos : Pos} {Q : Value → Shared → Prop}
    (hh : A.handled = none) (hclos : closureFor scope env = pure cl) (hcell : ∀ z ∈ scope.names, z.2 ≠ .cell) (hkind : scope.kind = .function)
    (hnames : ∀ z ∈ scope.names, z.2 = .local → scope.names.lookup z.1 = some .local) (hx : scope.names.lookup x = some .local) (hs : ∀ v, foldedSetIterable i1 env v = pure v)
    (h : wpAny (model prog w) A (eval i1 env) (OnePack F prog w A env scope cl x elt Q) E s) :
    wpAny (model prog w) A (eval (.ListComp elt [⟨.Name x px, i1, [], 0⟩] scope pos) env) Q E s := by
  refine wpAny_ListComp_free (fun _ => true) F hclos hcell hkind hnames hx (wpAny_mono h (fun xv s₁ h₁ => ?_) fun _ _ e => e) hs
  obtain ⟨ax, vs, rfl, hl, hsz, helt, hQ⟩ := h₁
  have hlt : ax < s₁.heap.objs.size := by obtain ⟨_, e, _⟩ := hl; exact Heap.lt_size e
  have up : ∀ (h₃ : Heap), (∀ b o, b ∉ [s₁.heap.objs.size] → (s₁.heap.push { cls := .type "list_iterator", data := .fields #[.ref ax, .int 0 0] }).get? b = some o → h₃.get? b = some o) → ∀ b o, s₁.heap.get? b = some o → h₃.get? b = some o :=
    fun h₃ hk b o e => hk b o (fun hm => Nat.ne_of_lt (Heap.lt_size e) (List.mem_singleton.mp hm)) (Heap.get?_push_of_some _ e)
  refine wpAny_pyIter_list hl ⟨s₁.heap.objs.size, [s₁.heap.objs.size, ax], [s₁.heap.objs.size], vs.size, _, _, rfl, Walks.list hh _ _ (Nat.ne_of_lt hlt) vs, hsz, ⟨⟨_, Heap.get?_push_size _ rfl, rfl, rfl⟩, hl.push _⟩, ?_, ⟨?_, ?_⟩, ?_⟩
  · intro b hb
    show b < (s₁.heap.push _).objs.size
    rw [Heap.size_push]
    rcases List.mem_cons.mp hb with rfl | hb
    · exact Nat.lt_succ_self _
    · rw [List.mem_singleton.mp hb]; exact Nat.lt_succ_of_lt hlt
  · intro C i v s₃ m₃ E' _ _ _ _ _ _
    exact wpAny_pure ⟨rfl, s₃.heap, s₃.toks, rfl, fun _ _ e => e⟩
  · intro C i v s₃ m₃ E' hC hP _ hn hm hk _
    refine helt C v s₃ m₃ E' (Nat.le_of_succ_le (by simpa [Heap.size_push] using hC)) ?_ hn hm (up _ hk)
    exact Array.mem_toList_iff.mpr (Array.mem_of_getElem? hP)
  · intro D h' tk ys vs' hnew _ hpl hlen hP hF hk
    have e : vs' = vs.toList := by
      refine List.ext_getElem? fun j => ?_
      by_cases hj : j < vs'.length
      · have := hP j _ (List.getElem?_eq_getElem hj)
        rw [List.getElem?_eq_getElem hj, Array.getElem?_toList, this]
      · rw [List.getElem?_eq_none (by omega), List.getElem?_eq_none (by rw [Array.length_toList]; omega)]
    subst e
    have e2 : List.filter (fun _ => true) vs.toList = vs.toList := List.filter_eq_self.mpr fun _ _ => rfl
    rw [e2] at hF
    refine hQ D ys h' tk ?_ hpl hF (up _ hk)
    cases e : s₁.heap.get? D with
    | none => rfl
    | some o => rw [Heap.get?_push_of_some _ e] at hnew; cases hnew

/-- a test that is not met leaves all as it was -/
def Unmet (s₂ : Shared) (ok : Bool) (s₃ : Shared) : Prop := ok = false ∧ Keeps s₂ s₃
def NonePack (prog : Program) (w : World) (A : Around) (env : Env) (scope : Scope) (cl : List (Str × Addr)) (x : Str) (test : PySem.Expr) (Q : Value → Shared → Prop) (xv : Value) (s₁ : Shared) : Prop :=
  ∃ r a b t u v, ∃ n : Nat, xv = .ref r ∧ IsRange s₁.heap r a b 1 t u v ∧ Builtin.Range.small a b 1 = true ∧ Builtin.Range.rangeSize a b 1 = (n : Int) ∧ n ≤ sizeLine ∧
      (∀ C (k : Int) tk s₂ m₂ E', s₁.heap.objs.size ≤ C → a ≤ k → k < a + n → s₂.heap.Ns C m₂ → m₂ x = some (.int k tk) → (∀ b o, s₁.heap.get? b = some o → s₂.heap.get? b = some o) →
        wpAny (model prog w) A (isTrue test (compEnvC scope cl C env) (eval test (compEnvC scope cl C env))) (Unmet s₂) E' s₂) ∧
      (∀ D h' tk, s₁.heap.get? D = none → h'.PlainList D #[] → (∀ b o, s₁.heap.get? b = some o → h'.get? b = some o) → Q (.ref D) { s₁ with heap := h', toks := tk })
/-- [elt for x in range(..) if test]: where no int of the range meets the test, an empty list -/
theorem none_comp {env : Env} {i1 elt test : PySem.Expr} {x : Str} {px : Pos} {scope : Scope} {cl : List (Str × Addr)} {pos : Pos} {Q : Value → Shared → Prop}
    (hh : A.handled = none) (hclos : closureFor scope env = pure cl) (hcell : ∀ z ∈ scope.names, z.2 ≠ .cell) (hkind : scope.kind = .function)
    (hnames : ∀ z ∈ scope.names, z.2 = .local → scope.names.lookup z.1 = some .local) (hx : scope.names.lookup x = some .local) (hs : ∀ v, foldedSetIterable i1 env v = pure v)
    (h : wpAny (model prog w) A (eval i1 env) (NonePack prog w A env scope cl x test Q) E s) :
    wpAny (model prog w) A (eval (.ListComp elt [⟨.Name x px, i1, [test], 0⟩] scope pos) env) Q E s := by
  refine wpAny_ListComp_free (fun _ => false) (fun _ _ => True) hclos hcell hkind hnames hx (wpAny_mono h (fun xv s₁ h₁ => ?_) fun _ _ e => e) hs
  obtain ⟨r, a, b, t, u, v, n, rfl, hr, hsmall, hn, hsz, htest, hQ⟩ := h₁
  have W : Walks prog w A s₁.heap.objs.size [s₁.heap.objs.size] [s₁.heap.objs.size] n (fun i v => i < n ∧ ∃ t, v = .int (a + i * 1) t)
      (fun i h => IsRangeIter h s₁.heap.objs.size (a + (i : Nat) * 1) ((n : Int) - (i : Nat)) 1) := (Walks.range hh _ a 1 n).bound
  have up : ∀ (h₃ : Heap), (∀ c o, c ∉ [s₁.heap.objs.size] → (s₁.heap.push { cls := .type "range_iterator", data := .fields #[rawInt a, rawInt (Builtin.Range.rangeSize a b 1), rawInt 1] }).get? c = some o → h₃.get? c = some o) → ∀ c o, s₁.heap.get? c = some o → h₃.get? c = some o :=
    fun h₃ hk c o e => hk c o (fun hm => Nat.ne_of_lt (Heap.lt_size e) (List.mem_singleton.mp hm)) (Heap.get?_push_of_some _ e)
  refine wpAny_pyIter_range hr hsmall ⟨_, _, _, n, _, _, rfl, W, hsz, (by show IsRangeIter _ _ _ _ _; rw [hn]; simpa using Heap.get?_push_size _ rfl), ?_, ⟨?_, ?_⟩, ?_⟩
  · intro c hc
    show c < (s₁.heap.push _).objs.size
    rw [Heap.size_push, List.mem_singleton.mp hc]
    exact Nat.lt_succ_self _
  · rintro C i v s₃ m₃ E' hC ⟨hi, tk, rfl⟩ hn' hm hk _
    rw [List.forIn_cons]
    refine wpAny_bind ?_
    simp only [if_true]
    have ek : a + (i : Int) * 1 = a + (i : Int) := by omega
    rw [ek] at hm
    refine wpAny_bind (wpAny_mono (htest C (a + i) tk s₃ m₃ E' (Nat.le_of_succ_le (by simpa [Heap.size_push] using hC)) (by omega) (by omega) hn' hm (up _ hk)) (fun ok s₄ h₄ => ?_) fun _ _ e => e)
    obtain ⟨rfl, hk4⟩ := h₄
    exact wpAny_pure (wpAny_pure ⟨rfl, hk4⟩)
  · intro C i v s₃ m₃ E' _ _ hf
    cases hf
  · intro D h' tk ys vs' hnew _ hpl _ _ hF hk
    have e2 : List.filter (fun _ => false) vs' = [] := List.filter_eq_nil_iff.mpr fun _ _ => by simp
    rw [e2] at hF
    have e3 : ys = #[] := by
      have q : ys.toList = [] := by
        generalize ys.toList = l at hF
        cases hF
        rfl
      exact Array.toList_inj.mp q
    subst e3
    refine hQ D h' tk ?_ hpl (up _ hk)
    cases e : s₁.heap.get? D with
    | none => rfl
    | some o => rw [Heap.get?_push_of_some _ e] at hnew; cases hnew
end

/-! texts as lists of codes -/
def J (c : Nat) : List (List Nat) → List Nat
  | [] => []
  | [x] => x
  | x :: y :: r => x ++ c :: J c (y :: r)
theorem cut {c : Nat} : ∀ {x y a b : List Nat}, c ∉ x → c ∉ y → x ++ c :: a = y ++ c :: b → x = y ∧ a = b
  | [], [], a, b, _, _, e => ⟨rfl, (List.cons.inj e).2⟩
  | [], d :: y, a, b, _, h, e => absurd (List.mem_cons.mpr (.inl (List.cons.inj e).1)) h
  | d :: x, [], a, b, h, _, e => absurd (List.mem_cons.mpr (.inl (List.cons.inj e).1.symm)) h
  | d :: x, d' :: y, a, b, h, h', e => by
    obtain ⟨e1, e2⟩ := List.cons.inj e
    obtain ⟨q1, q2⟩ := cut (fun m => h (.tail _ m)) (fun m => h' (.tail _ m)) e2
    exact ⟨by rw [e1, q1], q2⟩
theorem J_uniq {c : Nat} : ∀ {xs ys : List (List Nat)}, xs ≠ [] → ys ≠ [] → (∀ p ∈ xs, c ∉ p) → (∀ p ∈ ys, c ∉ p) → J c xs = J c ys → xs = ys
  | [], _, h, _, _, _, _ => absurd rfl h
  | _, [], _, h, _, _, _ => absurd rfl h
  | [x], [y], _, _, _, _, e => by
    have e' : x = y := e
    rw [e']
  | [x], y :: y2 :: r, _, _, h, _, e => by
    have e' : x = y ++ c :: J c (y2 :: r) := e
    exact absurd (e' ▸ List.mem_append_right _ (.head _) : c ∈ x) (h x (.head _))
  | x :: x2 :: r, [y], _, _, _, h, e => by
    have e' : x ++ c :: J c (x2 :: r) = y := e
    exact absurd (e' ▸ List.mem_append_right _ (.head _) : c ∈ y) (h y (.head _))
  | x :: x2 :: r, y :: y2 :: r', _, _, h, h', e => by
    obtain ⟨e1, e2⟩ := cut (h x (.head _)) (h' y (.head _)) (e : x ++ c :: J c (x2 :: r) = y ++ c :: J c (y2 :: r'))
    rw [e1, J_uniq (List.cons_ne_nil _ _) (List.cons_ne_nil _ _) (fun p hp => h p (.tail _ hp)) (fun p hp => h' p (.tail _ hp)) e2]
theorem join_codes (c : Nat) : ∀ xs : List Str, (Str.join ⟨#[c]⟩ xs).cps.toList = J c (xs.map fun x => x.cps.toList)
  | [] => rfl
  | [x] => rfl
  | x :: y :: r => by
    show (x ++ ⟨#[c]⟩ ++ Str.join ⟨#[c]⟩ (y :: r)).cps.toList = x.cps.toList ++ c :: J c ((y :: r).map fun x => x.cps.toList)
    rw [← join_codes c (y :: r)]
    simp [Str.cps_append]
theorem split_ne (x y : Str) : Txt.split x y ≠ [] := by
  unfold Txt.split
  split
  · exact List.cons_ne_nil _ _
  · split
    · exact List.cons_ne_nil _ _
    · intro e
      have := congrArg List.length e
      rw [PySem.length_partsBetween] at this
      simp at this
theorem codes_inj : ∀ {xs ys : List Str}, (xs.map fun x => x.cps.toList) = ys.map (fun x => x.cps.toList) → xs = ys
  | [], [], _ => rfl
  | [], _ :: _, e => by simp at e
  | _ :: _, [], e => by simp at e
  | x :: xs, y :: ys, e => by
    simp only [List.map_cons, List.cons.injEq] at e
    rw [codes_inj e.2, Str.ext' (Array.toList_inj.mp e.1)]
/-- what was joined is what splitting gives back -/
theorem split_join {c : Nat} {xs : List Str} (hne : xs ≠ []) (hf : ∀ p ∈ xs, c ∉ p.cps.toList) : Txt.split (Str.join ⟨#[c]⟩ xs) ⟨#[c]⟩ = xs := by
  refine codes_inj (J_uniq (c := c) ?_ ?_ ?_ ?_ ?_)
  · intro e
    exact split_ne _ _ (List.map_eq_nil_iff.mp e)
  · exact fun e => hne (List.map_eq_nil_iff.mp e)
  · intro p hp
    obtain ⟨q, hq, rfl⟩ := List.mem_map.mp hp
    exact StrLaws.split_free _ c q hq
  · intro p hp
    obtain ⟨q, hq, rfl⟩ := List.mem_map.mp hp
    exact hf q hq
  · rw [← join_codes, ← join_codes, StrLaws.join_split]
theorem join_snoc {sep z : Str} : ∀ {xs : List Str}, xs ≠ [] → Str.join sep (xs ++ [z]) = Str.join sep xs ++ sep ++ z
  | [], h => absurd rfl h
  | [x], _ => rfl
  | x :: y :: r, _ => by
    show x ++ sep ++ Str.join sep ((y :: r) ++ [z]) = x ++ sep ++ Str.join sep (y :: r) ++ sep ++ z
    rw [join_snoc (List.cons_ne_nil _ _)]
    simp only [Str.append_assoc]

abbrev dig (x : Int) : Str := Str.ofString (toString x)
theorem digits_codes {x : Int} (h : 0 ≤ x) : ∀ c ∈ (dig x).cps.toList, 48 ≤ c ∧ c ≤ 57 := by
  obtain ⟨n, rfl⟩ := Int.eq_ofNat_of_zero_le h
  intro c hc
  rw [KIN.signs_num] at hc
  obtain ⟨ch, hch, e⟩ := List.mem_map.mp hc
  have q := Nat.isDigit_of_mem_toDigits (by decide) (by decide) hch
  rw [← e]
  simp only [Char.isDigit, Bool.and_eq_true, decide_eq_true_eq] at q
  exact ⟨UInt32.le_iff_toNat_le.mp q.1, UInt32.le_iff_toNat_le.mp q.2⟩
theorem nl_is : Str.ofString "\n" = ⟨#[10]⟩ := by decide +kernel
theorem sp_is : Str.ofString " " = ⟨#[32]⟩ := by decide +kernel
theorem nil_len : (Str.ofString "").length = 0 := by decide +kernel
theorem nil_of_len {x : Str} (h : x.length = 0) : x = Str.ofString "" := by
  refine Str.ext' ?_
  have e : (Str.ofString "").cps = #[] := by decide +kernel
  rw [e]
  exact Array.eq_empty_of_size_eq_zero h
/-- the line of a group of samples -/
def lineOf (g : List Int) : Str := Str.join (Str.ofString " ") (g.map dig)
theorem lineOf_nil : lineOf [] = Str.ofString "" := by decide +kernel
theorem lineOf_one (x : Int) : lineOf [x] = dig x := rfl
theorem lineOf_snoc {g : List Int} (h : g ≠ []) (x : Int) : lineOf (g ++ [x]) = lineOf g ++ Str.ofString " " ++ dig x := by
  unfold lineOf
  rw [List.map_append]
  exact join_snoc (fun e => h (List.map_eq_nil_iff.mp e))
theorem lineOf_len {g : List Int} (h : g ≠ []) (hb : ∀ x ∈ g, 0 ≤ x) : 1 ≤ (lineOf g).length := by
  match g, h with
  | [x], _ => exact KLn.one_le (hb x (.head _))
  | x :: y :: r, _ =>
    show 1 ≤ (dig x ++ Str.ofString " " ++ Str.join (Str.ofString " ") ((y :: r).map dig)).length
    rw [Str.length_append, Str.length_append]
    have : 1 ≤ (dig x).length := KLn.one_le (hb x (.head _))
    omega
theorem lineOf_codes {g : List Int} (hb : ∀ x ∈ g, 0 ≤ x) : ∀ c ∈ (lineOf g).cps.toList, c = 32 ∨ (48 ≤ c ∧ c ≤ 57) := by
  intro c hc
  unfold lineOf at hc
  rw [sp_is, join_codes] at hc
  have key : ∀ l : List Int, (∀ x ∈ l, 0 ≤ x) → ∀ c ∈ J 32 ((l.map dig).map fun x => x.cps.toList), c = 32 ∨ (48 ≤ c ∧ c ≤ 57) := by
    intro l
    induction l with
    | nil => intro _ c hc; cases hc
    | cons x r ih =>
      intro hl c hc
      cases r with
      | nil => exact .inr (digits_codes (hl x (.head _)) c hc)
      | cons y r =>
        have hc' : c ∈ (dig x).cps.toList ++ 32 :: J 32 (((y :: r).map dig).map fun x => x.cps.toList) := hc
        rcases List.mem_append.mp hc' with q | q
        · exact .inr (digits_codes (hl x (.head _)) c q)
        · rcases List.mem_cons.mp q with rfl | q
          · exact .inl rfl
          · exact ih (fun z hz => hl z (.tail _ hz)) c q
  exact key g hb c hc
theorem split_line {g : List Int} (h : g ≠ []) (hb : ∀ x ∈ g, 0 ≤ x) : Txt.split (lineOf g) (Str.ofString " ") = g.map dig := by
  unfold lineOf
  rw [sp_is]
  refine split_join (fun e => h (List.map_eq_nil_iff.mp e)) fun p hp hc => ?_
  obtain ⟨x, hx, rfl⟩ := List.mem_map.mp hp
  have := digits_codes (hb x hx) _ hc
  omega

/-- the samples by lines: the lines that are closed, the line at hand -/
def groupStep (c : List (List Int) × List Int) (x : Int) : List (List Int) × List Int :=
  if c.2 = [] then (c.1, [x])
  else if (70 : Int) < ((lineOf c.2).length : Int) + 1 + ((dig x).length : Int) then (c.1 ++ [c.2], [x])
  else (c.1, c.2 ++ [x])
def groups (xs : List Int) : List (List Int) × List Int := xs.foldl groupStep ([], [])
theorem groups_snoc (xs : List Int) (x : Int) : groups (xs ++ [x]) = groupStep (groups xs) x := by
  unfold groups
  rw [List.foldl_append]
  rfl
/-- b could not stand on a's line -/
def Full (a b : List Int) : Prop := (70 : Int) < ((lineOf a).length : Int) + 1 + ((dig (b.headD 0)).length : Int)
def Chained (l : List (List Int)) : Prop := ∀ k a b, l[k]? = some a → l[k + 1]? = some b → Full a b
theorem chained_one (g : List Int) : Chained [g] := fun k a b _ hb => by simp at hb
theorem chained_snoc {l : List (List Int)} {g h : List Int} (c : Chained (l ++ [g])) (f : Full g h) : Chained (l ++ [g] ++ [h]) := by
  intro k a b ha hb
  have hk : k + 1 < (l ++ [g] ++ [h]).length := (List.getElem?_eq_some_iff.mp hb).1
  simp only [List.length_append, List.length_cons, List.length_nil] at hk
  rw [List.getElem?_append_left (by simp; omega)] at ha
  by_cases hk2 : k + 1 < (l ++ [g]).length
  · rw [List.getElem?_append_left hk2] at hb
    exact c k a b ha hb
  · have e : k = l.length := by simp at hk2; omega
    subst e
    simp at ha hb
    rw [← ha, ← hb]
    exact f
theorem chained_last {l : List (List Int)} {g h : List Int} (c : Chained (l ++ [g])) (e : h.headD 0 = g.headD 0) : Chained (l ++ [h]) := by
  intro k a b ha hb
  have hk : k + 1 < (l ++ [h]).length := (List.getElem?_eq_some_iff.mp hb).1
  simp only [List.length_append, List.length_cons, List.length_nil] at hk
  rw [List.getElem?_append_left (by omega)] at ha
  have ha' : (l ++ [g])[k]? = some a := by rw [List.getElem?_append_left (by omega)]; exact ha
  by_cases hk2 : k + 1 < l.length
  · rw [List.getElem?_append_left hk2] at hb
    exact c k a b ha' (by rw [List.getElem?_append_left hk2]; exact hb)
  · have e2 : k + 1 = l.length := by omega
    rw [List.getElem?_append_right (by omega), e2, Nat.sub_self] at hb
    have eb : h = b := by simpa using hb
    have q := c k a g ha' (by rw [List.getElem?_append_right (by omega), e2, Nat.sub_self]; rfl)
    unfold Full at q ⊢
    rw [← eb, e]
    exact q
theorem headD_append {g : List Int} (h : g ≠ []) (x : Int) : (g ++ [x]).headD 0 = g.headD 0 := by
  cases g with
  | nil => exact absurd rfl h
  | cons a r => rfl

structure Grouped (ns : List Int) : Prop where
  flat : (groups ns).1.flatten ++ (groups ns).2 = ns
  full : ∀ g ∈ (groups ns).1, g ≠ []
  here : (groups ns).2 = [] → ns = []
  rows : (greedy ns).1 = (groups ns).1.map lineOf
  line : (greedy ns).2 = lineOf (groups ns).2
  chain : Chained ((groups ns).1 ++ [(groups ns).2])
theorem grouped (ns : List Int) : (∀ x ∈ ns, 0 ≤ x) → Grouped ns := by
  refine snoc_ind (P := fun ns => (∀ x ∈ ns, 0 ≤ x) → Grouped ns) ?_ ?_ ns
  · intro _
    exact ⟨rfl, (fun g hg => nomatch hg), fun _ => rfl, rfl, lineOf_nil.symm, chained_one _⟩
  · intro xs x ih hb
    have hb' : ∀ y ∈ xs, 0 ≤ y := fun y hy => hb y (List.mem_append_left _ hy)
    obtain ⟨i1, i2, i3, i4, i5, i6⟩ := ih hb'
    have hg : ∀ y ∈ (groups xs).2, 0 ≤ y := fun y hy => hb' y (by rw [← i1]; exact List.mem_append_right _ hy)
    have eg := groups_snoc xs x
    have er := greedy_snoc xs x
    unfold groupStep at eg
    unfold greedyStep at er
    rw [i5] at er
    by_cases c1 : (groups xs).2 = []
    · have hx := i3 c1
      subst hx
      rw [if_pos c1] at eg
      rw [c1, if_pos lineOf_nil] at er
      constructor
      · rw [eg]; rfl
      · rw [eg]; exact i2
      · rw [eg]; intro e; exact absurd e (List.cons_ne_nil _ _)
      · rw [eg, er]; exact i4
      · rw [eg, er]; rfl
      · rw [eg]; exact chained_one _
    · have hne : lineOf (groups xs).2 ≠ Str.ofString "" := fun e => by
        have := lineOf_len c1 hg
        rw [e, nil_len] at this
        omega
      rw [if_neg c1] at eg
      rw [if_neg hne] at er
      by_cases c2 : (70 : Int) < ((lineOf (groups xs).2).length : Int) + 1 + ((dig x).length : Int)
      · rw [if_pos c2] at eg er
        constructor
        · rw [eg]; show ((groups xs).1 ++ [(groups xs).2]).flatten ++ [x] = xs ++ [x]
          rw [List.flatten_append]
          simp [i1]
        · rw [eg]
          intro g hg
          rcases List.mem_append.mp hg with q | q
          · exact i2 g q
          · rw [List.mem_singleton.mp q]; exact c1
        · rw [eg]; intro e; exact absurd e (List.cons_ne_nil _ _)
        · rw [eg, er]; show (greedy xs).1 ++ [lineOf (groups xs).2] = ((groups xs).1 ++ [(groups xs).2]).map lineOf
          rw [i4, List.map_append]; rfl
        · rw [eg, er]; rfl
        · rw [eg]; exact chained_snoc i6 c2
      · rw [if_neg c2] at eg er
        constructor
        · rw [eg]; show (groups xs).1.flatten ++ ((groups xs).2 ++ [x]) = xs ++ [x]
          rw [← List.append_assoc, i1]
        · rw [eg]; exact i2
        · rw [eg]; intro e; exact absurd e (by simp)
        · rw [eg, er]; exact i4
        · rw [eg, er]; exact (lineOf_snoc c1 x).symm
        · rw [eg]; exact chained_last i6 (headD_append c1 x)

theorem split_text {ns : List Int} (hb : ∀ x ∈ ns, 0 ≤ x) : Txt.split (textOf ns) (Str.ofString "\n") = linesOf ns ++ [Str.ofString ""] := by
  have G := grouped ns hb
  have hl : linesOf ns = ((groups ns).1 ++ [(groups ns).2]).map lineOf := by
    unfold linesOf
    rw [G.rows, G.line, List.map_append]
    rfl
  have e : textOf ns = Str.join (Str.ofString "\n") (linesOf ns ++ [Str.ofString ""]) := by
    unfold textOf
    rw [join_snoc (by unfold linesOf; simp)]
    have e1 : Txt.join (Str.ofString "\n") (linesOf ns) = Str.join (Str.ofString "\n") (linesOf ns) := StrLaws.glued_eq_join _ _
    have e2 : Str.ofString "" = Str.empty := by decide +kernel
    rw [e1, e2, Str.append_empty]
  rw [e, nl_is]
  refine split_join (by simp) fun p hp hc => ?_
  rcases List.mem_append.mp hp with q | q
  · rw [hl] at q
    obtain ⟨g, hg, rfl⟩ := List.mem_map.mp q
    have hg0 : ∀ x ∈ g, 0 ≤ x := by
      intro x hx
      refine hb x ?_
      rw [← G.flat]
      rcases List.mem_append.mp hg with r | r
      · exact List.mem_append_left _ (List.mem_flatten.mpr ⟨g, r, hx⟩)
      · rw [List.mem_singleton.mp r] at hx
        exact List.mem_append_right _ hx
    have := lineOf_codes hg0 _ hc
    omega
  · rw [List.mem_singleton.mp q] at hc
    have e : (Str.ofString "").cps.toList = [] := by decide +kernel
    rw [e] at hc
    cases hc
/-- what the law asks of the lines, in plain words -/
structure LinesOk (ns : List Int) (ys : List Str) : Prop where
  flat : ys.flatMap (fun y => Txt.split y (Str.ofString " ")) = ns.map fun n => Str.ofString (toString n)
  short : ∀ y ∈ ys, y.length ≤ 70
  few : ys.length ≤ ns.length + 1
  some : ys ≠ []
  parts : ∀ y ∈ ys, Txt.split y (Str.ofString " ") ≠ []
  full : ∀ k a b, ys[k]? = .some a → ys[k + 1]? = .some b → (70 : Int) < (a.length : Int) + 1 + (((Txt.split b (Str.ofString " ")).headD (Str.ofString "")).length : Int)
theorem lines_ok {ns : List Int} (hb : ∀ x ∈ ns, 0 ≤ x ∧ x ≤ 65535) (hne : ns ≠ []) : LinesOk ns (linesOf ns) := by
  have hb0 : ∀ x ∈ ns, 0 ≤ x := fun x hx => (hb x hx).1
  have G := grouped ns hb0
  obtain ⟨s1, s2, s3⟩ := greedy_short ns hb
  have hl : linesOf ns = ((groups ns).1 ++ [(groups ns).2]).map lineOf := by
    unfold linesOf
    rw [G.rows, G.line, List.map_append]
    rfl
  have hg : ∀ g ∈ (groups ns).1 ++ [(groups ns).2], g ≠ [] ∧ ∀ x ∈ g, 0 ≤ x := by
    intro g hg
    have h2 : (groups ns).2 ≠ [] := fun e => hne (G.here e)
    rcases List.mem_append.mp hg with r | r
    · exact ⟨G.full g r, fun x hx => hb0 x (by rw [← G.flat]; exact List.mem_append_left _ (List.mem_flatten.mpr ⟨g, r, hx⟩))⟩
    · rw [List.mem_singleton.mp r]
      exact ⟨h2, fun x hx => hb0 x (by rw [← G.flat]; exact List.mem_append_right _ hx)⟩
  constructor
  · have key : ∀ l : List (List Int), (∀ g ∈ l, g ≠ [] ∧ ∀ x ∈ g, 0 ≤ x) → (l.map lineOf).flatMap (fun y => Txt.split y (Str.ofString " ")) = l.flatten.map dig := by
      intro l
      induction l with
      | nil => intro _; rfl
      | cons g r ih =>
        intro h
        obtain ⟨h1, h2⟩ := h g (.head _)
        rw [List.map_cons, List.flatMap_cons, ih fun q hq => h q (.tail _ hq), split_line h1 h2, List.flatten_cons, List.map_append]
    rw [hl, key _ hg, List.flatten_append]
    have e : (groups ns).1.flatten ++ [(groups ns).2].flatten = ns := by simpa using G.flat
    rw [e]
  · intro y hy
    rcases List.mem_append.mp hy with q | q
    · exact s1 y q
    · rw [List.mem_singleton.mp q]; exact s2
  · unfold linesOf
    rw [List.length_append]
    simp only [List.length_cons, List.length_nil]
    omega
  · unfold linesOf; simp
  · exact fun y _ => split_ne _ _
  · intro k a b ha hb'
    rw [hl, List.getElem?_map] at ha hb'
    obtain ⟨ga, ha1, ha2⟩ := Option.map_eq_some_iff.mp ha
    obtain ⟨gb, hb1, hb2⟩ := Option.map_eq_some_iff.mp hb'
    have f := G.chain k ga gb ha1 hb1
    obtain ⟨n1, n2⟩ := hg gb (List.mem_of_getElem? hb1)
    rw [← ha2, ← hb2, split_line n1 n2]
    have e : ((gb.map dig).headD (Str.ofString "")) = dig (gb.headD 0) := by
      cases gb with
      | nil => exact absurd rfl n1
      | cons x r => rfl
    rw [e]
    exact f
theorem LinesOk.head {ns : List Int} {ys : List Str} (h : LinesOk ns ys) (hb : ∀ x ∈ ns, 0 ≤ x ∧ x ≤ 65535) {y : Str} (hy : y ∈ ys) : ((Txt.split y (Str.ofString " ")).headD (Str.ofString "")).length ≤ 10 := by
  have hne := h.parts y hy
  have hm : (Txt.split y (Str.ofString " ")).headD (Str.ofString "") ∈ Txt.split y (Str.ofString " ") := by
    generalize Txt.split y (Str.ofString " ") = l at hne ⊢
    cases l with
    | nil => exact absurd rfl hne
    | cons a r => exact .head _
  have hm2 : (Txt.split y (Str.ofString " ")).headD (Str.ofString "") ∈ ys.flatMap (fun y => Txt.split y (Str.ofString " ")) := List.mem_flatMap.mpr ⟨y, hy, hm⟩
  rw [h.flat] at hm2
  obtain ⟨x, hx, e⟩ := List.mem_map.mp hm2
  rw [← e]
  exact digits_len (hb x hx)
theorem text_short {ns : List Int} (hb : ∀ x ∈ ns, 0 ≤ x ∧ x ≤ 65535) (hl : ns.length ≤ 41) : (textOf ns).length ≤ 9000 := by
  have := join_ok2 (rows := (greedy ns).1) (here := (greedy ns).2) rfl hb hl
  unfold textOf linesOf
  rw [Str.length_append]
  have e : (Str.ofString "\n").length = 1 := by decide +kernel
  omega

section
def lawBody : List Stmt := match PySem.Challenge.pw_xm0792_01.main.body.getLast? with
  | some (.FunctionDef _ _ body _ _ _ _ _ _ _) => body
  | _ => []
def lawScope : Scope := match PySem.Challenge.pw_xm0792_01.main.body.getLast? with
  | some (.FunctionDef _ _ _ _ _ _ scope _ _ _) => scope
  | _ => PySem.Challenge.pw_xm0792_01.main.scope
/-- the frame of law behind its loop -/
abbrev tailM (m : Str → Option Value) (text : Str) (t : Tok) (ls : Addr) : Str → Option Value :=
  fun y => if y = Str.ofString "text" then some (.str text t) else if y = Str.ofString "samples" then some (.ref ls) else m y

section
variable {prog : Program} {w : World} {A : Around} {E : Value → Shared → Prop} {s : Shared} {h₀ : Heap} {L : Addr} {m : PySem.Str → Option Value} {news : List (Addr × Obj)} {x y : PySem.Str} {t u : Tok} {Q : Value → Shared → Prop}
theorem split_use {ps : List PySem.Str} (hF : Fr h₀ L s.heap m) (hN : News h₀ L s.heap news) (hy : (y.length == 0) = false) (hp : Txt.split x y = ps)
    (h : ∀ D vs h' k, StrsAre vs ps → Fr h₀ L h' m → News h₀ L h' ((D, listOf vs.toArray 0) :: news) → (∀ p ∈ news, p.1 < D) → Q (.ref D) { s with heap := h', toks := k }) (hsz : x.length + 2 ≤ sizeLine) :
    wpAny (model prog w) A (call (.builtin "str.split") [.str x t, .str y u]) Q E s :=
  KSpl.split1 hF hN hy (fun D l h' k e a F N o => h D (strValues l) h' k (hp ▸ e ▸ a) F N o) hsz
/-- the last of a list of texts that ends with the empty one -/
theorem last_use {value slice : PySem.Expr} {l : Addr} {vs : List Value} {ys : List PySem.Str} {z : PySem.Str} (hl : s.heap.IsList l vs.toArray) (hi : StrsAre vs (ys ++ [z])) (h : ∀ t, Q (.str z t) s)
    (hs : subscripted slice false (.ref l) (.int (-1) u) = operate [.ref l, .int (-1) u] (getItem (.ref l) (.int (-1) u))) :
    wpAny (model prog w) A (subscriptTail value slice (.ref l) (.int (-1) u)) Q E s := by
  have hsz : vs.length = ys.length + 1 := by rw [hi.length]; simp
  obtain ⟨t, ht⟩ := hi.get ys.length z (by simp)
  exact subscriptTail_builtinR hl.typeIs slot_list_getitem.lookup (wpAny_getItem_list_neg (Q := fun r s' => r = _ ∧ Q r s') hl (by decide) (by rw [List.size_toArray]; omega) (by decide) (by rw [List.size_toArray]; simpa [show ((-1 : Int) + ((vs.length : Nat) : Int)).toNat = ys.length by omega] using ht) ⟨rfl, h t⟩) hs
def IntText (v y : Value) : Prop := ∃ n t u, v = .int n t ∧ y = .str (Str.ofString (toString n)) u
theorem int_of {vs : List Value} {ns : List Int} (h : IntsAre vs ns) : ∀ v ∈ vs, ∃ n t, v = .int n t ∧ n ∈ ns := by
  induction h with
  | nil => intro v hv; cases hv
  | cons n t _ ih =>
    intro v hv
    rcases List.mem_cons.mp hv with rfl | hv
    · exact ⟨n, t, rfl, .head _⟩
    · obtain ⟨n', t', e, hm⟩ := ih v hv
      exact ⟨n', t', e, .tail _ hm⟩
theorem texts_of {vs : List Value} {ns : List Int} (h : IntsAre vs ns) : ∀ {ys : List Value}, Paired IntText vs ys → StrsAre ys (ns.map fun n => Str.ofString (toString n)) := by
  induction h with
  | nil => intro ys hp; cases hp; exact .nil
  | cons n t _ ih =>
    intro ys hp
    cases hp with
    | cons hf hr =>
      obtain ⟨n', t', u, e, rfl⟩ := hf
      cases e
      exact .cons _ u (ih hr)
theorem texts_same : ∀ ts : List Str, PySem.Spec.sameAll (ts.map PyData.str) (ts.map PyData.str) = true
  | [] => by simp [PySem.Spec.sameAll]
  | t :: r => by simp [PySem.Spec.sameAll, PySem.Spec.same, texts_same r]
theorem texts_depth : ∀ ts : List Str, PyData.depthAll (ts.map PyData.str) = 0
  | [] => rfl
  | _ :: r => by simp [PyData.depthAll, PyData.depth, texts_depth r]
theorem texts_shaped {ts : List Str} (h : ts.all PyData.strOk = true) : SeqAt.shaped (.list (ts.map PyData.str)) = true := by
  simp only [SeqAt.shaped, PyData.canLay0, PyData.depth, canLayAll_strs', h, texts_depth]
  decide
/-- two lists of the same texts are not unequal -/
theorem ne_texts {a b : Addr} {xs us : List Value} {ts : List Str} (ha : s.heap.IsList a xs.toArray) (hb : s.heap.IsList b us.toArray) (hi : StrsAre xs ts) (hj : StrsAre us ts) (hok : ts.all PyData.strOk = true) (hu : A.units + 64 < cLine)
    (h : Q (.bool false) s) : wpAny (model prog w) A (compareOp .NotEq (.ref a) (.ref b)) Q E s :=
  ne_dataH_same (reads_newData ha (StrsAre.carried hi)) (reads_newData hb (StrsAre.carried hj)) (texts_shaped hok) (texts_shaped hok) hu
    (SeqAt.noMix_of_shape (.list .str) rfl _ _ (has_list_strs _) (has_list_strs _)) (by simp only [PySem.Spec.same, texts_same]; exact h)
theorem texts_sound {ns : List Int} (hns : ∀ x ∈ ns, 0 ≤ x ∧ x ≤ 65535) : (ns.map fun n => Str.ofString (toString n)).all PyData.strOk = true := by
  refine List.all_eq_true.mpr fun y hy => ?_
  obtain ⟨x, hx, rfl⟩ := List.mem_map.mp hy
  refine Array.all_eq_true_iff_forall_mem.mpr fun c hc => decide_eq_true ?_
  have := digits_codes (hns x hx).1 c (Array.mem_toList_iff.mpr hc)
  omega
def TextLen (v y : Value) : Prop := ∃ a t u, v = .str a t ∧ y = .int ((a.length : Nat) : Int) u
theorem str_of {vs : List Value} {ys : List PySem.Str} (h : StrsAre vs ys) : ∀ v ∈ vs, ∃ a t, v = .str a t ∧ a ∈ ys := by
  induction h with
  | nil => intro v hv; cases hv
  | cons a t _ ih =>
    intro v hv
    rcases List.mem_cons.mp hv with rfl | hv
    · exact ⟨a, t, rfl, .head _⟩
    · obtain ⟨a', t', e, hm⟩ := ih v hv
      exact ⟨a', t', e, .tail _ hm⟩
theorem lens_of {vs : List Value} {ys : List PySem.Str} (h : StrsAre vs ys) : ∀ {us : List Value}, Paired TextLen vs us → IntsAre us (ys.map fun a => ((a.length : Nat) : Int)) := by
  induction h with
  | nil => intro us hp; cases hp; exact .nil
  | cons a t _ ih =>
    intro us hp
    cases hp with
    | cons hf hr =>
      obtain ⟨a', t', u, e, rfl⟩ := hf
      cases e
      exact .cons _ u (ih hr)
/-- the greatest of a list of ints that are all at most b -/
theorem max_use {l : Addr} {us : List Value} {ns : List Int} {b : Int} (hh : A.handled = none) (F : Fr h₀ L s.heap m) (N : News h₀ L s.heap news) (hl : s.heap.IsList l us.toArray) (hi : IntsAre us ns) (hne : 0 < ns.length) (hb : ∀ a ∈ ns, a ≤ b)
    (h : ∀ (M : Int), M ≤ b → ∀ t h' tk, Fr h₀ L h' m → News h₀ L h' news → Q (.int M t) { s with heap := h', toks := tk }) : wpAny (model prog w) A (call (.builtin "max") [.ref l]) Q E s :=
  max_list_N hh F N hl hi hne fun h' M t tk F' N' hm _ => h M (hb M hm) t h' tk F' N'
theorem len_use {l : Addr} {vs : List Value} {ys : List PySem.Str} {z : PySem.Str} (hl : s.heap.IsList l vs.toArray) (hi : StrsAre vs (ys ++ [z])) (hf : ys.length ≤ 100) (h : ∀ t tk, Q (.int ((ys.length : Int) + 1) t) { s with toks := tk }) :
    wpAny (model prog w) A (call (.builtin "len") [.ref l]) Q E s := by
  have e : vs.toArray.size = ys.length + 1 := by rw [List.size_toArray, hi.length]; simp
  refine len_list hl (by rw [e]; omega) ?_
  rw [e]
  exact h _ _
/-- an item of a list of texts -/
theorem item_use {value slice : PySem.Expr} {l : Addr} {vs : List Value} {ys : List PySem.Str} {z a : PySem.Str} {k : Int} (hl : s.heap.IsList l vs.toArray) (hi : StrsAre vs (ys ++ [z])) (h0 : 0 ≤ k) (hf : k < 2 ^ 63) (hk : ys[k.toNat]? = some a) (h : ∀ t, Q (.str a t) s)
    (hs : subscripted slice false (.ref l) (.int k u) = operate [.ref l, .int k u] (getItem (.ref l) (.int k u))) :
    wpAny (model prog w) A (subscriptTail value slice (.ref l) (.int k u)) Q E s := by
  have hlt : k.toNat < ys.length := (List.getElem?_eq_some_iff.mp hk).1
  obtain ⟨t, ht⟩ := hi.get k.toNat a (by rw [List.getElem?_append_left hlt]; exact hk)
  exact subscriptTail_builtinR hl.typeIs slot_list_getitem.lookup (wpAny_getItem_list (Q := fun r s' => r = _ ∧ Q r s') hl h0 hf (by simpa using ht) ⟨rfl, h t⟩) hs
/-- the first of the texts that splitting has just made -/
theorem head_use {value slice : PySem.Expr} {l9 : List (PySem.Str × Tok)} {ts : List PySem.Str} {k : Nat} (e : l9.map (·.1) = ts) (hne : ts ≠ [])
    (h : ∀ t, Q (.str (ts.headD (PySem.Str.ofString "")) t) { s with heap := s.heap.push { cls := .type "list", data := .seq (strValues l9).toArray }, toks := k })
    (hs : subscripted slice false (.ref s.heap.objs.size) (.int 0 u) = operate [.ref s.heap.objs.size, .int 0 u] (getItem (.ref s.heap.objs.size) (.int 0 u)))
    (ht : ∀ r, letTemporaryGo value (.ref s.heap.objs.size) r = pure ()) :
    wpAny (model prog w) A (subscriptTail value slice (.ref s.heap.objs.size) (.int 0 u)) Q E { s with heap := s.heap.push { cls := .type "list", data := .seq (strValues l9).toArray }, toks := k } := by
  subst e
  have hl : (s.heap.push { cls := .type "list", data := .seq (strValues l9).toArray }).IsList s.heap.objs.size (strValues l9).toArray := ⟨_, Heap.get?_push_size _ rfl, rfl, _, rfl⟩
  cases l9 with
  | nil => exact absurd rfl hne
  | cons p r => exact subscriptTail_ops hl.typeIs list_getitem_lookup (wpAny_getItem_list hl (by decide) (by decide) rfl (h p.2)) hs ht
/-- a list that stands since h goes onto the ledger -/
theorem news_new {h h' : Heap} {D : Addr} {zs : Array Value} (F : Fr h₀ L h m) (N : News h₀ L h news) (hD : h.get? D = none) (hpl : h'.PlainList D zs) (hk : ∀ b o, h.get? b = some o → h'.get? b = some o) :
    ∃ n, Fr h₀ L h' m ∧ News h₀ L h' ((D, listOf zs.toList.toArray n) :: news) := by
  obtain ⟨n, e⟩ := hpl
  refine ⟨n, F.keeps hk, fun p hp => ?_⟩
  rcases List.mem_cons.mp hp with rfl | hp
  · refine ⟨by rw [Array.toArray_toList]; exact e, fun q => ?_, ?_⟩
    · obtain ⟨_, _, _, ho, _⟩ := F.ns
      change D = L at q
      rw [q, ho] at hD
      cases hD
    · cases q : h₀.get? D with
      | none => rfl
      | some o => rw [F.keep _ _ q] at hD; cases hD
  · exact News.grown N hk p hp
theorem init_pick (vs : List Value) : (slicePick vs.toArray none (some (-1)) none).toList = vs.take (vs.length - 1) := by
  have e : sliceBounds none (some (-1)) none vs.toArray.size = (((0 : Nat) : Int), ((vs.toArray.size - 1 : Nat) : Int), 1) := by
    simp only [sliceBounds, Option.getD_none, show (1 : Int) > 0 by decide, if_true, if_pos (show (-1 : Int) < 0 by decide)]
    congr 1
    congr 1
    omega
  rw [kmk_pick_nat _ e]
  show (vs.drop 0).take (vs.toArray.size - 1 - 0) = _
  simp
/-- all but the last of a list of texts, by [:-1] -/
theorem init_use {value slice : PySem.Expr} {l : Addr} {vs : List Value} {ys : List PySem.Str} {z : PySem.Str} {tm : Tok} (F : Fr h₀ L s.heap m) (N : News h₀ L s.heap news) (hl : s.heap.IsList l vs.toArray) (hi : StrsAre vs (ys ++ [z]))
    (h : ∀ D ws h', StrsAre ws ys → Fr h₀ L h' m → News h₀ L h' ((D, listOf ws.toArray 0) :: news) → (∀ p ∈ news, p.1 < D) → Q (.ref D) { s with heap := h' })
    (hs : subscripted slice false (.ref l) (.ref s.heap.objs.size) = operate [.ref s.heap.objs.size, .ref l] (getItem (.ref l) (.ref s.heap.objs.size)))
    (ht : ∀ r, letTemporaryGo value (.ref l) r = pure ()) (hsz : vs.toArray.size ≤ sizeLine) :
    wpAny (model prog w) A (subscriptTail value slice (.ref l) (.ref s.heap.objs.size)) Q E { s with heap := s.heap.push { cls := .type "slice", data := .fields #[.none, .int (-1) tm, .none] } } := by
  have hlen := hi.length
  refine slice_list (lo := none) (hi := some (-1)) F N hl .none (.int _ _) (fun h' F' N' => ?_) hs ht hsz
  have e := init_pick vs
  have iS : StrsAre (vs.take (vs.length - 1)) ys := by
    have q := StrsAre.take' hi (vs.length - 1)
    have e2 : vs.length - 1 = ys.length := by rw [hlen]; simp
    rw [e2] at q ⊢
    rwa [List.take_left] at q
  refine h _ (vs.take (vs.length - 1)) h' iS F' ?_ fun p hp => Nat.lt_succ_of_lt (Heap.lt_size (N p hp).1)
  rw [← e, Array.toArray_toList]
  exact N'
end
local macro_rules | `(tactic| walk_at "subscriptTail Name Slice ref ref") => `(tactic| (k_here; (with_reducible show wpAny _ _ (subscriptTail _ (PySem.Expr.Slice _ _ none _) (Value.ref _) (Value.ref _)) _ _ _); k_dflt (refine' init_use ?F ?N ?l ?i ?_ ?s ?t ?z; (case F => k_asm); (case N => k_asm); (case l => is_list); (case i => assumption); (case s => with_unfolding_all rfl); (case t => (intro _; with_unfolding_all rfl)); (case z => (rw [List.size_toArray, StrsAre.length (by assumption), PySem.sizeLine_eq, List.length_append]; simp only [List.length_cons, List.length_nil]; omega))); intro D' ws' h' iS' F' N' l1; (try k_lt l1)))
local macro_rules | `(tactic| walk_at "call builtin:str.split") => `(tactic| (k_here; (with_reducible show wpAny _ _ (call (Value.builtin "str.split") [Value.str _ _, Value.str (PySem.Str.ofString "\n") _]) _ _ _); k_dflt (refine' split_use ?k1 ?k2 ?k3 ?k4 ?_ ?k5; (case k1 => k_asm); (case k2 => k_asm); (case k3 => decide); (case k4 => assumption); (case k5 => (rw [PySem.sizeLine_eq]; omega)); k_whole; intro D' vs' h' tk' iS' F' N' l1; (try k_lt l1); (try dsimp only); (try k_fold))))
local macro_rules | `(tactic| walk_at "subscriptTail Name UnaryOp ref int") => `(tactic| (k_here; (with_reducible show wpAny _ _ (subscriptTail _ _ (Value.ref _) (Value.int _ _)) _ _ _); k_dflt (refine' last_use ?k1 ?k2 ?_ ?k3; (case k1 => is_list); (case k2 => assumption); (case k3 => with_unfolding_all rfl); k_whole; intro t')))
local macro_rules | `(tactic| walk_at "eval ListComp") => `(tactic| (k_here; (with_reducible show wpAny _ _ (eval (PySem.Expr.ListComp _ [⟨PySem.Expr.Name (PySem.Str.ofString "line") _, _, [], 0⟩, _] _ _) _) _ _ _); k_dflt (refine nested_comp (by rfl) (by rfl) (by decide) (by rfl) (by decide) (by rfl) (by rfl) (by decide) (fun _ _ => by rfl) (fun _ => by rfl) ?_)))
local macro_rules | `(tactic| walk_at "eval ListComp") => `(tactic| (k_here; (with_reducible show wpAny _ _ (eval (PySem.Expr.ListComp _ [⟨PySem.Expr.Name (PySem.Str.ofString "sample") _, _, [], 0⟩] _ _) _) _ _ _); k_dflt (refine one_comp IntText (by rfl) (by rfl) (by decide) (by rfl) (by decide) (by rfl) (fun _ => by rfl) ?_)))
local macro_rules | `(tactic| walk_at "eval ListComp") => `(tactic| (k_here; (with_reducible show wpAny _ _ (eval (PySem.Expr.ListComp _ [⟨PySem.Expr.Name (PySem.Str.ofString "line") _, _, [], 0⟩] _ _) _) _ _ _); k_dflt (refine one_comp TextLen (by rfl) (by rfl) (by decide) (by rfl) (by decide) (by rfl) (fun _ => by rfl) ?_)))
local macro_rules | `(tactic| walk_at "eval ListComp") => `(tactic| (k_here; (with_reducible show wpAny _ _ (eval (PySem.Expr.ListComp _ [⟨PySem.Expr.Name (PySem.Str.ofString "k") _, _, [_], 0⟩] _ _) _) _ _ _); k_dflt (refine none_comp (by rfl) (by rfl) (by decide) (by rfl) (by decide) (by rfl) (fun _ => by rfl) ?_)))
local macro_rules | `(tactic| walk_at "compareOp NotEq ref ref") => `(tactic| (k_here; (with_reducible show wpAny _ _ (compareOp CmpOp.NotEq (Value.ref _) (Value.ref _)) _ _ _); k_dflt (refine' ne_texts ?a ?b ?c ?d ?e ?f ?_; (case a => is_list); (case b => is_list); (case c => assumption); (case d => assumption); (case e => exact texts_sound (by assumption)); (case f => (dsimp only [ktrTop]; omega)); k_whole)))
local macro_rules | `(tactic| walk_at "call builtin:max") => `(tactic| (k_here; (with_reducible show wpAny _ _ (call (Value.builtin _) [Value.ref _]) _ _ _); k_dflt (refine' max_use (b := 70) ?a ?b ?c ?d ?e ?f ?g ?_; (case a => rfl); (case b => k_asm); (case c => k_asm); (case d => is_list); (case e => assumption); (case f => (rw [List.length_map, List.length_append]; simp only [List.length_cons, List.length_nil]; omega)); (case g => assumption); k_whole; intro M' hM' t' h' tk' F' N'; (try dsimp only); (try k_fold))))
local macro_rules | `(tactic| walk_at "call builtin:len") => `(tactic| (k_here; (with_reducible show wpAny _ _ (call (Value.builtin _) [Value.ref _]) _ _ _); k_dflt (refine' len_use ?a ?b ?c ?_; (case a => is_list); (case b => assumption); (case c => omega); k_whole; intro t' tk'; (try dsimp only); (try k_fold))))
local macro_rules | `(tactic| walk_at "subscriptTail") => `(tactic| (k_here; (with_reducible show wpAny _ _ (subscriptTail _ _ (Value.ref _) (Value.int _ _)) _ _ _); k_dflt (refine' item_use ?a ?b ?c ?d ?e ?_ ?f; (case a => is_list); (case b => assumption); (case c => omega); (case d => omega); (case e => assumption); (case f => with_unfolding_all rfl); k_whole; intro t')))
local macro_rules | `(tactic| walk_at "subscriptTail Name Name ref int") => `(tactic| (k_here; (with_reducible show wpAny _ _ (subscriptTail _ _ (Value.ref _) (Value.int _ _)) _ _ _); k_dflt (refine' item_use ?a ?b ?c ?d ?e ?_ ?f; (case a => is_list); (case b => assumption); (case c => omega); (case d => omega); (case e => assumption); (case f => with_unfolding_all rfl); k_whole; intro t')))
local macro_rules | `(tactic| walk_at "subscriptTail Name BinOp ref int") => `(tactic| (k_here; (with_reducible show wpAny _ _ (subscriptTail _ _ (Value.ref _) (Value.int _ _)) _ _ _); k_dflt (refine' item_use ?a ?b ?c ?d ?e ?_ ?f; (case a => is_list); (case b => assumption); (case c => omega); (case d => omega); (case e => assumption); (case f => with_unfolding_all rfl); k_whole; intro t')))
local macro_rules | `(tactic| walk_at "call builtin:str.split") => `(tactic| (k_here; (with_reducible show wpAny _ _ (call (Value.builtin "str.split") [Value.str _ _, Value.str (PySem.Str.ofString " ") _]) _ _ _); k_dflt (refine' split_push ?a ?b ?_; (case a => decide); (case b => (rw [PySem.sizeLine_eq]; omega)); k_whole; intro l9 tk9 e9)))
local macro_rules | `(tactic| walk_at "subscriptTail Name Constant ref int") => `(tactic| (k_here; (with_reducible show wpAny _ _ (subscriptTail _ _ (Value.ref _) (Value.int _ _)) _ _ _); k_dflt (refine' head_use ?a ?b ?_ ?c ?d; (case a => assumption); (case b => assumption); (case c => with_unfolding_all rfl); (case d => (intro _; with_unfolding_all rfl)); k_whole; intro t')))
set_option maxRecDepth 100000 in
set_option maxHeartbeats 8000000 in
theorem tail_core (w : World) (s₀ : Shared) (mg mb : Str → Option Value) : 
    ∀ (dp un : Nat) (gd : Option (List Code)) (fa : Addr) (cd : Value) (outer : List Env) (A₀ : Around) (base h₀ : Heap) (L : Addr) (m : Str → Option Value) (s : Shared) (ls : Addr) (vs : List Value) (ns : List Int) (c : Nat) (o : Obj) (text : Str) (t : Tok) (ys : List Str)
    (Q : Flow → Shared → Prop) (E : Value → Shared → Prop),
    Below A₀ base outer h₀ → Fr h₀ L s.heap (tailM m text t ls) → (hd.heap_39 w.params).In h₀ → News h₀ L s.heap [(ls, listOf vs.toArray c), (L + 1, o)] → o.data = Data.cell none → LTop s₀ mg mb h₀ → ls ≠ L + 1 →
    dp + 1 < recursionLimit → un + 100 < cLine → Txt.split text (Str.ofString "\n") = ys ++ [Str.ofString ""] → text.length ≤ 9000 → LinesOk ns ys →
    IntsAre vs ns → ns.length ≤ 41 → (∀ x ∈ ns, 0 ≤ x ∧ x ≤ 65535) →
    (∀ h' tk m' news', Fr h₀ L h' m' → News h₀ L h' news' → Q (.ret (.bool true)) { s with heap := h', toks := tk }) →
    wpAny (model PySem.Challenge.rw_xm0792_01.row.prog w) (ktrTop dp un gd (Str.ofString "law") lawScope L fa cd (cellsFrom (L + 1) lawScope.names []) outer) (execs (lawBody.drop 5) (envOfC (Str.ofString "law") lawScope L fa cd)) Q E s := by
  w_top off
  k_with_none
  k_fill
  intro dp un gd fa cd outer A₀ base h₀ L m s ls vs ns c o text t ys Q E B F X N ho T hne hd hu ht htl hOk hI hlen hns hret
  have hyl : ys.length ≤ 42 := Nat.le_trans hOk.few (by omega)
  have hflat := hOk.flat
  have hy70 := hOk.short
  have hys1 : ∀ a ∈ ys ++ [Str.ofString ""], a.length ≤ 70 := fun a ha => by
    rcases List.mem_append.mp ha with q | q
    · exact hy70 a q
    · rw [List.mem_singleton.mp q]; decide +kernel
  with_unfolding_all show wpAny _ _ (execs [_, _, _, _] (envOfC _ _ _ _ _)) _ _ _
  k_steps
  refine ⟨_, _, ys, fun y => Txt.split y (Str.ofString " "), rfl, by is_list, by assumption, by rw [hflat, List.length_map, PySem.sizeLine_eq]; omega, ?_, ?_⟩
  · intro C a t s₂ m₂ E' hC ha hn hm hk
    refine MethodCall_ (wpAny_Name (wpAny_loadName_local (by rfl) (by rfl) hn hm ?_) (by decide))
    walk1
    walk1
    walk1
    walk1
    walk1
    exact split_texts (by decide) (by rw [PySem.sizeLine_eq]; have := hy70 a ha; omega)
  · intro D zs h' tk hD hpl hzs hk
    (rename Fr h₀ _ _ _ => F3); (rename News h₀ _ _ _ => N3)
    obtain ⟨n3, F4, N4⟩ := news_new F3 N3 hD hpl hk
    clear F3 N3 hpl hD hk
    k_steps
    refine ⟨_, _, rfl, by is_list, by rw [List.size_toArray, hI.length, PySem.sizeLine_eq]; omega, ?_, ?_⟩
    · intro C v s₂ m₂ E' hC hv hn hm hk
      obtain ⟨n, t, rfl, hn9⟩ := int_of hI v (by simpa using hv)
      have hb9 := hns n hn9
      k_with "call type:str" => (refine P.str_of_int (shown (N := 2 ^ 1920) (by omega) (by omega) (Int.le_refl _)) ?_)
      k_steps
      exact ⟨⟨n, t, _, rfl, rfl⟩, s₂.heap, _, rfl, fun _ _ e => e⟩
    · intro D2 zt h' tk hD hpl hzt hk
      (rename Fr h₀ _ _ _ => F3); (rename News h₀ _ _ _ => N3)
      obtain ⟨n4, F5, N5⟩ := news_new F3 N3 hD hpl hk
      clear F3 N3 hpl hD hk
      have hz2 := texts_of hI (by simpa using hzt)
      rw [hflat] at hzs
      k_steps
      refine ⟨_, _, rfl, by is_list, by rw [List.size_toArray, StrsAre.length (by assumption : StrsAre _ (ys ++ [Str.ofString ""])), PySem.sizeLine_eq, List.length_append]; simp only [List.length_cons, List.length_nil]; omega, ?_, ?_⟩
      · intro C v s₂ m₂ E' hC hv hn hm hk
        obtain ⟨a, t, rfl, ha⟩ := str_of (by assumption : StrsAre _ (ys ++ [Str.ofString ""])) v (by simpa using hv)
        have hb9 : a.length ≤ 70 := hys1 a ha
        k_steps
        exact ⟨⟨a, t, _, rfl, rfl⟩, s₂.heap, _, rfl, fun _ _ e => e⟩
      · intro D3 zl h' tk hD hpl hzl hk
        (rename Fr h₀ _ _ _ => F3); (rename News h₀ _ _ _ => N3)
        obtain ⟨n5, F6, N6⟩ := news_new F3 N3 hD hpl hk
        clear F3 N3 hpl hD hk
        have hz3 := lens_of (by assumption : StrsAre _ (ys ++ [Str.ofString ""])) (by simpa using hzl)
        have hmax : ∀ a ∈ (ys ++ [Str.ofString ""]).map (fun a => ((a.length : Nat) : Int)), a ≤ 70 := by
          intro b hb
          obtain ⟨a, ha, rfl⟩ := List.mem_map.mp hb
          have := hys1 a ha
          omega
        k_steps
        refine ⟨_, _, _, _, _, _, _, rfl, by assumption, small_one (by omega) (by omega) (by omega) (by omega), rangeSize_nat _ _, by rw [PySem.sizeLine_eq]; omega, ?_, ?_⟩
        · intro C k tk s₂ m₂ E' hC hk0 hk1 hn hm hk
          have hyn : ys.length ≠ 0 := fun e => hOk.some (List.length_eq_zero_iff.mp e)
          have hk2 : k < ys.length := by omega
          obtain ⟨a, ha⟩ : ∃ a, ys[(k - 1).toNat]? = some a := ⟨_, List.getElem?_eq_getElem (by omega)⟩
          obtain ⟨b, hb⟩ : ∃ b, ys[k.toNat]? = some b := ⟨_, List.getElem?_eq_getElem (by omega)⟩
          have hfull := hOk.full (k - 1).toNat a b ha (by rw [show (k - 1).toNat + 1 = k.toNat by omega]; exact hb)
          have ha7 := hy70 a (List.mem_of_getElem? ha)
          have hb7 := hy70 b (List.mem_of_getElem? hb)
          have hparts := hOk.parts b (List.mem_of_getElem? hb)
          have hhead := hOk.head hns (List.mem_of_getElem? hb)
          k_steps
          have e1 : (Str.ofString " ").length = 1 := by decide +kernel
          exact ⟨decide_eq_false (by omega), _, _, rfl, fun _ _ e => Heap.get?_push_of_some _ e⟩
        · intro D4 h' tk hD hpl hk
          (rename Fr h₀ _ _ _ => F3); (rename News h₀ _ _ _ => N3)
          obtain ⟨n6, F7, N7⟩ := news_new F3 N3 hD hpl hk
          clear F3 N3 hpl hD hk
          k_steps
          (rename Fr h₀ _ _ _ => F9); (rename News h₀ _ _ _ => N9)
          exact hret _ _ _ _ F9 N9

theorem fr_tail {h₀ h : Heap} {L : Addr} {m : Str → Option Value} {text : Str} {t : Tok} {ls : Addr} (F : Fr h₀ L h m) (h1 : m (Str.ofString "text") = some (.str text t)) (h2 : m (Str.ofString "samples") = some (.ref ls)) : Fr h₀ L h (tailM m text t ls) := by
  have e : tailM m text t ls = m := by
    funext y
    show (if y = Str.ofString "text" then some (.str text t) else if y = Str.ofString "samples" then some (.ref ls) else m y) = m y
    by_cases c1 : y = Str.ofString "text"
    · rw [if_pos c1, c1, h1]
    · rw [if_neg c1]
      by_cases c2 : y = Str.ofString "samples"
      · rw [if_pos c2, c2, h2]
      · rw [if_neg c2]
  rw [e]
  exact F
theorem tail_use {w : World} {s₀ : Shared} {mg mb : Str → Option Value} {dp un : Nat} {gd : Option (List Code)} {fa : Addr} {cd : Value} {outer : List Env} {A₀ : Around} {base h₀ : Heap} {L : Addr} {m : Str → Option Value} {s : Shared} {ls : Addr} {vs : List Value} {ns : List Int} {c : Nat} {o : Obj} {t : Tok} {news : List (Addr × Obj)}
    {Q : Flow → Shared → Prop} {E : Value → Shared → Prop} (B : Below A₀ base outer h₀) (F : Fr h₀ L s.heap m) (X : (hd.heap_39 w.params).In h₀) (N : News h₀ L s.heap news) (T : LTop s₀ mg mb h₀)
    (ht : m (Str.ofString "text") = some (.str (textOf ns) t)) (hs : m (Str.ofString "samples") = some (.ref ls)) (hm1 : (ls, listOf vs.toArray c) ∈ news) (hm2 : (L + 1, o) ∈ news) (ho : o.data = Data.cell none)
    (hd : dp + 1 < recursionLimit) (hu : un + 100 < cLine) (hI : IntsAre vs ns) (hlen : ns.length ≤ 41) (hnil : decide (ns = []) = false) (hns : ∀ x ∈ ns, 0 ≤ x ∧ x ≤ 65535)
    (hret : ∀ h' tk m' news', Fr h₀ L h' m' → News h₀ L h' news' → Q (.ret (.bool true)) { s with heap := h', toks := tk }) :
    wpAny (model PySem.Challenge.rw_xm0792_01.row.prog w) (ktrTop dp un gd (Str.ofString "law") lawScope L fa cd (cellsFrom (L + 1) lawScope.names []) outer) (execs (lawBody.drop 5) (envOfC (Str.ofString "law") lawScope L fa cd)) Q E s := by
  refine tail_core w s₀ mg mb dp un gd fa cd outer A₀ base h₀ L m s ls vs ns c o (textOf ns) t (linesOf ns) Q E B (fr_tail F ht hs) X (fun p hp => N p ?_) ho T ?_ hd hu (split_text fun x hx => (hns x hx).1) (text_short hns hlen) (lines_ok hns (of_decide_eq_false hnil)) hI hlen hns hret
  · rcases List.mem_cons.mp hp with rfl | hp
    · exact hm1
    · rw [List.mem_singleton.mp hp]; exact hm2
  · intro e
    have a := (N _ hm1).1
    have b := (N _ hm2).1
    change s.heap.get? ls = _ at a
    change s.heap.get? (L + 1) = _ at b
    rw [e, b] at a
    have e2 := congrArg Obj.data (Option.some.inj a)
    rw [ho] at e2
    cases e2
end

section
def TurnP (pre loom samples : List Int) : Prop := Loom loom ∧ samples.length = pre.length ∧ ∀ x ∈ samples, 0 ≤ x ∧ x ≤ 65535
theorem TurnP.loom {pre loom samples : List Int} (h : TurnP pre loom samples) : Loom loom := h.1
theorem turn_start {va vb : Int} (h1 : 0 ≤ va) (h2 : 0 ≤ vb) (h3 : vb < 70000) : TurnP [] [va, vb] [] ∧ ([] : List Int).length = ([] : List Int).length :=
  ⟨⟨⟨rfl, h1, h2, h3⟩, rfl, fun _ h => nomatch h⟩, rfl⟩
theorem turn_end {pre loom samples : List Int} {va vb x k : Int} (h : TurnP pre loom samples) (h1 : 0 ≤ va) (h2 : 0 ≤ vb) (h3 : vb < 70000) (hx : 0 ≤ x) (hxx : x ≤ 65535) :
    TurnP (pre ++ [k]) [va, vb] (samples ++ [x]) ∧ (samples ++ [x]).length = (pre ++ [k]).length := by
  have e : (samples ++ [x]).length = (pre ++ [k]).length := by simp only [List.length_append, List.length_cons, List.length_nil, h.2.1]
  refine ⟨⟨⟨rfl, h1, h2, h3⟩, e, fun y hy => ?_⟩, e⟩
  rcases List.mem_append.mp hy with q | q
  · exact h.2.2 y q
  · rw [List.mem_singleton.mp q]; exact ⟨hx, hxx⟩
local macro_rules | `(tactic| walk_at "call ref") => `(tactic| (k_here; (with_reducible show wpAny _ _ (call (Value.ref 28) [Value.ref _]) _ _ _); k_dflt (refine' loom_use ?k1 ?k2 ?k3 ?k4 ?k5 ?kK ?kl ?ki ?kn ?kd ?ku ?_; (case k1 => k_asm); (case k2 => k_asm); (case k3 => k_asm); (case k4 => k_asm); (case k5 => k_asm); (case kK => exact rfl); (case kl => k_asm); (case ki => k_asm); (case kn => omega); (case kd => ktr_room); (case ku => ktr_units); k_whole; intro va' vb' ta' tb' l' h' tk' hva' hvb' hvb2' F' N' l1; (try k_lt l1); (try dsimp only); (try k_fold))))
local macro_rules | `(tactic| walk_at "call ref") => `(tactic| (k_here; (with_reducible show wpAny _ _ (call (Value.ref 35) [Value.ref _, Value.int _ _]) _ _ _); k_dflt (refine' weft_use ?k1 ?k2 ?k3 ?k4 ?k5 ?kK ?kU ?ki ?kL ?km ?kn ?kd ?ku ?_; (case k1 => k_asm); (case k2 => k_asm); (case k3 => k_asm); (case k4 => k_asm); (case k5 => k_asm); (case kK => exact rfl); (case kU => k_updF); (case ki => l_ints); (case kL => first | assumption | exact TurnP.loom (by assumption) | exact ⟨rfl, by assumption, by assumption, by assumption⟩); (case km => first | decide | omega); (case kn => first | decide | omega); (case kd => ktr_room); (case ku => ktr_units); k_whole; intro r' tr' va' vb' ta' tb' h' tk' hr0' hr1' hva' hvb' hvb2' F' N'; (try dsimp only); (try k_fold))))
theorem TurnP.ints {pre loom samples : List Int} (h : TurnP pre loom samples) : ∀ x ∈ samples, 0 ≤ x ∧ x ≤ 65535 := h.2.2
theorem TurnP.short {b : Int} {loom samples : List Int} (h : TurnP (rangeKs 0 (b - 0).toNat) loom samples) (hb : b < 41) : samples.length ≤ 41 := by
  have := h.2.1
  rw [rangeKs_length] at this
  omega
local macro_rules | `(tactic| walk_at "call ref") => `(tactic| (k_here; (with_reducible show wpAny _ _ (call (Value.ref 21) [Value.ref _]) _ _ _); k_dflt (refine' rows_use ?k1 ?k2 ?k3 ?k4 ?k5 ?kK ?kU ?ki ?kl ?km ?kd ?ku ?_; (case k1 => k_asm); (case k2 => k_asm); (case k3 => k_asm); (case k4 => k_asm); (case k5 => k_asm); (case kK => exact rfl); (case kU => k_updF); (case ki => l_ints); (case kl => exact TurnP.short (by assumption) (by assumption)); (case km => exact TurnP.ints (by assumption)); (case kd => ktr_room); (case ku => ktr_units); k_whole; intro tr' h' tk' F' N'; (try dsimp only); (try k_fold))))
local macro_rules | `(tactic| walk_at "execs cons") => `(tactic| (k_here; (with_reducible show wpAny _ _ (execs (Stmt.Assign [PySem.Expr.Name (Str.ofString "lines") _] _ _ :: _) _) _ _ _); k_dflt (refine' tail_use ?k1 ?k2 ?k3 ?k4 ?k5 ?kt ?ks ?ka ?kb ?kc ?kd ?ku ?ki ?kl ?kn ?km ?_; (case k1 => k_asm); (case k2 => k_asm); (case k3 => k_asm); (case k4 => k_asm); (case k5 => k_asm); (case kt => exact rfl); (case ks => exact rfl); (case ka => k_mem); (case kb => k_mem); (case kc => assumption); (case kd => ktr_room); (case ku => ktr_units); (case ki => l_ints); (case kl => exact TurnP.short (by assumption) (by assumption)); (case kn => assumption); (case km => exact TurnP.ints (by assumption)); k_whole; intro h' tk' m' news' F' N'; (try dsimp only))))
local macro_rules | `(tactic| walk_at "binaryOp Pow int int") => `(tactic| (k_here; (with_reducible show wpAny _ _ (binaryOp Operator.Pow (Value.int 10 _) (Value.int _ _)) _ _ _); k_dflt (refine' pow_use ?k1 ?k2 ?_; (case k1 => omega); (case k2 => omega); k_whole; intro P' hP' hPP' tP' tk'; (try dsimp only); (try k_fold))))
local macro_rules | `(tactic| walk_at "call builtin:min") => `(tactic| (k_here; (with_reducible show wpAny _ _ (call (Value.builtin "min") [Value.int 65535 _, Value.int _ _]) _ _ _); k_dflt (refine' min_use ?k0 ?k1 ?k2 ?k3 ?_; (case k0 => rfl); (case k1 => k_asm); (case k2 => k_asm); (case k3 => omega); k_whole; intro x' hx' hxx' tx' h' tk' F' N'; (try dsimp only); (try k_fold))))
local macro_rules | `(tactic| walk_at "pyIter ref") => `(tactic| (k_here; k_state (fun pre loom samples => TurnP pre loom samples ∧ samples.length = pre.length) "loom" "samples"))
set_option maxRecDepth 100000 in
set_option maxHeartbeats 8000000 in
theorem law_holds : PySem.Challenge.rw_xm0792_01.Holds := Mine.hd (by
  k_with_none
  k_with "pyIter ref" => k_state (fun pre loom samples => TurnP pre loom samples ∧ samples.length = pre.length) "loom" "samples"
  k_with "state" => first
    | exact turn_start (by assumption) (by assumption) (by assumption)
    | exact turn_end (by assumption) (by assumption) (by assumption) (by assumption) (by omega) (by omega)
  k_go0; (all_goals try k_fold)
  (rename Fr _ _ _ _ => F1)
  (rename _ = Data.cell _ => c1)
  (rename CellsAre _ _ _ => c2); clear c2
  (rename Heap.CodeRec _ _ _ => c3); clear c3
  (rename Dflts _ _ _ _ _ _ => c4); clear c4
  (rename Hook.says _ _ _ => c5); clear c5
  (rename Ground _ _ _ _ _ _ _ _ _ => c5); clear c5
  (rename Flt.MathXP _ _ _ => c5); clear c5
  (rename LooseAre _ _ _ => c5); clear c5
  (rename Glob _ _ _ _ _ _ _ _ => c5); clear c5
  (rename Tables _ _ _ _ => c5); clear c5
  (rename TopE _ _ _ _ => c5); clear c5
  (rename TopW _ _ _ => c5); clear c5
  (rename BMod _ _ _ _ _ => c5); clear c5
  (rename ReadsAll _ _ _ _ => c5); clear c5
  (rename Well _ _ _ _ => c5); clear c5
  (rename Reads _ _ _ _ => c5); clear c5
  (rename ReadsAllW _ _ _ _ _ _ => c5); clear c5
  (rename Heap.IsList _ _ _ => cL)
  have c6 := F1
  with_unfolding_all replace F1 : Fr _ _ _ (fun y => if y = Str.ofString "script" then some (Value.ref _) else none) := F1
  with_unfolding_all replace c1 : _ = Data.cell none := c1
  clear c6
  k_steps)
end
end Mine

theorem PySem.Challenge.cw_xm0792_01_holds : PySem.Challenge.rw_xm0792_01.Holds := by
  exact Mine.law_holds
