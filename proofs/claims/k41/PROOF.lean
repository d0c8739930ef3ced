import PyProof.Rows.All
import HandS.ForMost
import PySem.Challenge.RW_saidcounts_k41_whole_fewest_sayings
import HandS.IsInst
import HandS.Strs
import HandS.SetFor
import HandS.Wide
import HandS.Style
import HandS.Walk
import KE.GoesMore
import HandS.TupAny
set_option Elab.async false
set_option linter.all false
set_option maxRecDepth 100000
set_option maxHeartbeats 4000000
namespace Sc
open PySem PySem.Spec PyProof.Rows L2
abbrev pg : PySem.Program := PySem.Challenge.pw_saidcounts_k41_whole_fewest_sayings
def topS (i : Nat) : Stmt := pg.main.body.getD i (.Pass ⟨0, 0, 0, 0⟩)
abbrev s_is_int : Stmt := topS 7
abbrev s_is_from : Stmt := topS 8
abbrev s_need_word : Stmt := topS 9
abbrev s_runs_of : Stmt := topS 11
abbrev s_marks_of : Stmt := topS 12
abbrev s_word_of : Stmt := topS 13
abbrev s_core_of : Stmt := topS 14
abbrev s_gaps_of : Stmt := topS 15
abbrev s_sums_of : Stmt := topS 16
abbrev s_grown : Stmt := topS 17
abbrev s_need_two : Stmt := topS 19
abbrev s_grows_to : Stmt := topS 20
abbrev s_is_saying : Stmt := topS 21
abbrev s_need_bound : Stmt := topS 24
abbrev s_turns_for : Stmt := topS 25
abbrev s_fewest_sayings : Stmt := topS 26
abbrev s_row_for : Stmt := topS 27
abbrev s_sayings_to : Stmt := topS 28
abbrev s_stops_on_the_way : Stmt := topS 29
abbrev s__law_taken : Stmt := topS 31
abbrev s__law_alike : Stmt := topS 32
abbrev s__law_word : Stmt := topS 33
abbrev s__law_ends : Stmt := topS 34
abbrev s__law_marks : Stmt := topS 35
abbrev s__law_made : Stmt := topS 36
abbrev s__law_core : Stmt := topS 37
abbrev s__law_gaps : Stmt := topS 38
abbrev s__law_grown : Stmt := topS 39
abbrev s__law_row_said : Stmt := topS 40
abbrev s__law_power : Stmt := topS 41
abbrev s_law : Stmt := topS 42
theorem sc_is_int : FnScope ["value"] ["value"] (defScope s_is_int) :=
  ⟨rfl, rfl, rfl, by decide +kernel, rfl, by decide +kernel, by decide +kernel⟩
theorem sc_is_from : FnScope ["value", "least", "most"] ["value", "least", "most"] (defScope s_is_from) :=
  ⟨rfl, rfl, rfl, by decide +kernel, rfl, by decide +kernel, by decide +kernel⟩
theorem sc_need_word : FnScope ["value", "place", "sign"] ["value"] (defScope s_need_word) :=
  ⟨rfl, rfl, rfl, by decide +kernel, rfl, by decide +kernel, by decide +kernel⟩
theorem sc_runs_of : FnScope ["word", "known", "found", "letter"] ["word"] (defScope s_runs_of) :=
  ⟨rfl, rfl, rfl, by decide +kernel, rfl, by decide +kernel, by decide +kernel⟩
theorem sc_marks_of : FnScope ["word", "letter", "count"] ["word"] (defScope s_marks_of) :=
  ⟨rfl, rfl, rfl, by decide +kernel, rfl, by decide +kernel, by decide +kernel⟩
theorem sc_word_of : FnScope ["runs", "known", "found", "letter", "count"] ["runs"] (defScope s_word_of) :=
  ⟨rfl, rfl, rfl, by decide +kernel, rfl, by decide +kernel, by decide +kernel⟩
theorem sc_core_of : FnScope ["word", "marks", "letter", "count"] ["word"] (defScope s_core_of) :=
  ⟨rfl, rfl, rfl, by decide +kernel, rfl, by decide +kernel, by decide +kernel⟩
theorem sc_gaps_of : FnScope ["word", "marks", "at"] ["word"] (defScope s_gaps_of) :=
  ⟨rfl, rfl, rfl, by decide +kernel, rfl, by decide +kernel, by decide +kernel⟩
theorem sc_sums_of : FnScope ["told", "found", "one"] ["told"] (defScope s_sums_of) :=
  ⟨rfl, rfl, rfl, by decide +kernel, rfl, by decide +kernel, by decide +kernel⟩
theorem sc_grown : FnScope ["word", "told", "sums", "letter", "rank"] ["word", "told"] (defScope s_grown) :=
  ⟨rfl, rfl, rfl, by decide +kernel, rfl, by decide +kernel, by decide +kernel⟩
theorem sc_need_two : FnScope ["one", "other"] ["one", "other"] (defScope s_need_two) :=
  ⟨rfl, rfl, rfl, by decide +kernel, rfl, by decide +kernel, by decide +kernel⟩
theorem sc_grows_to : FnScope ["one", "other", "a", "b"] ["one", "other"] (defScope s_grows_to) :=
  ⟨rfl, rfl, rfl, by decide +kernel, rfl, by decide +kernel, by decide +kernel⟩
theorem sc_is_saying : FnScope ["one", "other"] ["one", "other"] (defScope s_is_saying) :=
  ⟨rfl, rfl, rfl, by decide +kernel, rfl, by decide +kernel, by decide +kernel⟩
theorem sc_need_bound : FnScope ["value"] ["value"] (defScope s_need_bound) :=
  ⟨rfl, rfl, rfl, by decide +kernel, rfl, by decide +kernel, by decide +kernel⟩
theorem sc_turns_for : FnScope ["gap", "goal", "bound", "many", "now"] ["gap", "goal", "bound"] (defScope s_turns_for) :=
  ⟨rfl, rfl, rfl, by decide +kernel, rfl, by decide +kernel, by decide +kernel⟩
theorem sc_fewest_sayings : FnScope ["one", "other", "bound", "a", "b"] ["one", "other", "bound"] (defScope s_fewest_sayings) :=
  ⟨rfl, rfl, rfl, by decide +kernel, rfl, by decide +kernel, by decide +kernel⟩
theorem sc_row_for : FnScope ["gaps", "goals", "bound", "found", "gap", "goal", "whole", "more", "row", "at", "step"] ["gaps", "goals", "bound"] (defScope s_row_for) :=
  ⟨rfl, rfl, rfl, by decide +kernel, rfl, by decide +kernel, by decide +kernel⟩
theorem sc_sayings_to : FnScope ["one", "other", "bound", "now", "goals", "found", "gap", "goal"] ["one", "other", "bound"] (defScope s_sayings_to) :=
  ⟨rfl, rfl, rfl, by decide +kernel, rfl, by decide +kernel, by decide +kernel⟩
theorem sc_stops_on_the_way : FnScope ["one", "other", "bound", "now", "goals", "found", "gap", "goal"] ["one", "other", "bound"] (defScope s_stops_on_the_way) :=
  ⟨rfl, rfl, rfl, by decide +kernel, rfl, by decide +kernel, by decide +kernel⟩
theorem sc__law_taken : FnScope ["_law_row", "_law_many", "_law_found", "_law_cell"] ["_law_row", "_law_many"] (defScope s__law_taken) :=
  ⟨rfl, rfl, rfl, by decide +kernel, rfl, by decide +kernel, by decide +kernel⟩
theorem sc__law_alike : FnScope ["_law_found", "_law_due", "_law_k"] ["_law_found", "_law_due"] (defScope s__law_alike) :=
  ⟨rfl, rfl, rfl, by decide +kernel, rfl, by decide +kernel, by decide +kernel⟩
theorem sc__law_word : FnScope ["_law_row", "_law_most", "_law_many", "_law_found", "_law_last", "_law_turn"] ["_law_row", "_law_most", "_law_many"] (defScope s__law_word) :=
  ⟨rfl, rfl, rfl, by decide +kernel, rfl, by decide +kernel, by decide +kernel⟩
theorem sc__law_ends : FnScope ["_law_word_here", "_law_found", "_law_at"] ["_law_word_here"] (defScope s__law_ends) :=
  ⟨rfl, rfl, rfl, by decide +kernel, rfl, by decide +kernel, by decide +kernel⟩
theorem sc__law_marks : FnScope ["_law_word_here", "_law_letter", "_law_count"] ["_law_word_here"] (defScope s__law_marks) :=
  ⟨rfl, rfl, rfl, by decide +kernel, rfl, by decide +kernel, by decide +kernel⟩
theorem sc__law_made : FnScope ["_law_ends_here", "_law_found", "_law_known", "_law_letter", "_law_count"] ["_law_ends_here"] (defScope s__law_made) :=
  ⟨rfl, rfl, rfl, by decide +kernel, rfl, by decide +kernel, by decide +kernel⟩
theorem sc__law_core : FnScope ["_law_word_here", "_law_ranks", "_law_letter", "_law_count"] ["_law_word_here"] (defScope s__law_core) :=
  ⟨rfl, rfl, rfl, by decide +kernel, rfl, by decide +kernel, by decide +kernel⟩
theorem sc__law_gaps : FnScope ["_law_word_here", "_law_ranks", "_law_at"] ["_law_word_here"] (defScope s__law_gaps) :=
  ⟨rfl, rfl, rfl, by decide +kernel, rfl, by decide +kernel, by decide +kernel⟩
theorem sc__law_grown : FnScope ["_law_bare", "_law_widths", "_law_sums", "_law_one", "_law_letter", "_law_rank"] ["_law_bare", "_law_widths"] (defScope s__law_grown) :=
  ⟨rfl, rfl, rfl, by decide +kernel, rfl, by decide +kernel, by decide +kernel⟩
theorem sc__law_row_said : FnScope ["_law_told", "_law_word_here", "_law_found", "_law_known", "_law_letter"] ["_law_told", "_law_word_here"] (defScope s__law_row_said) :=
  ⟨rfl, rfl, rfl, by decide +kernel, rfl, by decide +kernel, by decide +kernel⟩
theorem sc__law_power : FnScope ["_law_one", "_law_times", "_law_found", "_law_turn"] ["_law_one", "_law_times"] (defScope s__law_power) :=
  ⟨rfl, rfl, rfl, by decide +kernel, rfl, by decide +kernel, by decide +kernel⟩
theorem sc_law : FnScope ["_law_script", "_law_row", "_law_core_here", "_law_first", "_law_second", "_law_one", "_law_other", "_law_bound", "_law_due", "_law_rows", "_law_stops", "_law_now", "_law_at", "_law_gaps_here", "_law_start", "_law_spot", "_law_part", "_law_gap", "_law_number"] ["_law_script"] (defScope s_law) :=
  ⟨rfl, rfl, rfl, by decide +kernel, rfl, by decide +kernel, by decide +kernel⟩
end Sc
/-! rules that the layer lacks: set(list of ints), enumerate(text), text * int, sum and sorted of a tuple of ints -/
namespace Sc
open PySem PySem.Spec PyProof.Rows L2

/-! ### text * int -/
/-- a word of these letters -/
def S (l : List Nat) : Str := ⟨l.toArray⟩
theorem S_len (l : List Nat) : (S l).length = l.length := by simp [S, Str.length]
theorem S_inj {a b : List Nat} (h : S a = S b) : a = b := by
  have e : (S a).cps.toList = (S b).cps.toList := by rw [h]
  simpa [S] using e
theorem S_app (a b : List Nat) : S a ++ S b = S (a ++ b) := by
  apply TL.ext_tl
  rw [TL.tl_append]
  simp [S, TL.tl]
theorem rep_fold (c : Nat) : ∀ (n : Nat) (acc : Array Nat), (List.replicate n #[c]).foldl (· ++ ·) acc = acc ++ (List.replicate n c).toArray
  | 0, acc => by simp
  | n + 1, acc => by
    rw [List.replicate_succ, List.foldl_cons, rep_fold c n, List.replicate_succ]
    apply Array.ext'
    simp
def rTimes : R2 := fun x y H Q => ∃ (c n : Nat), x = .str (S [c]) ∧ y = .int (n : Int) ∧ n ≤ 100000 ∧ Q (.str (S (List.replicate n c))) H
theorem op_times {X : Cx} : OpR X (binaryOp .Mult) rTimes := by
  intro pins s σ H x y v u Q I rx ry h
  obtain ⟨c, n, rfl, rfl, hn, q⟩ := h
  obtain ⟨t, rfl⟩ := rx
  obtain ⟨t2, rfl⟩ := ry
  have hsz : (S [c]).length = 1 := rfl
  refine PySem.P.mul_str ?_ (fun _ _ => ?_) (fun _ _ => ?_) ?_
  · have a1 : ¬ ((n : Int) < -2 ^ 63) := by omega
    have a2 : ¬ ((n : Int) ≥ 2 ^ 63) := by omega
    rw [decide_eq_false a1, decide_eq_false a2]
    rfl
  · rw [hsz]
    have hq : (1 : Int) ≤ (2 ^ 63 - 1) / (n : Int) := by
      by_cases hz : n = 0
      · subst hz
        rename_i h1 h2
        exact absurd (by decide) h1
      · exact (Int.le_ediv_iff_mul_le (by omega)).mpr (by omega)
    have hq' : ((1 : Nat) : Int) ≤ (2 ^ 63 - 1) / (n : Int) := hq
    omega
  · rw [hsz]
    show Builtin.Str.tooLong (1 * (n : Int).toNat) = false
    unfold Builtin.Str.tooLong
    rw [Int.toNat_natCast, Nat.one_mul]
    have : ¬ n > sizeLine := by rw [sizeLine_eq]; omega
    simp [sizeLine_eq]
    omega
  · by_cases h0 : n = 0
    · subst h0
      rw [if_pos (by decide)]
      refine ⟨by decide, ?_⟩
      exact ⟨.str (S []), H, I.tok _, ⟨_, rfl⟩, q⟩
    · rw [if_neg (by omega)]
      by_cases h1 : n = 1
      · subst h1
        rw [if_pos (by rfl)]
        exact ⟨.str (S [c]), H, I, ⟨_, rfl⟩, q⟩
      · have e1 : (((n : Int) == 1) || (S [c]).length == 0) = false := by
          rw [hsz]
          have : ((n : Int) == 1) = false := by
            rw [beq_eq_false_iff_ne]
            omega
          rw [this]
          rfl
        rw [if_neg (by rw [e1]; exact Bool.false_ne_true)]
        refine ⟨?_, ?_⟩
        · have e2 : (List.replicate (n : Int).toNat (S [c]).cps).foldl (· ++ ·) #[] = (List.replicate n c).toArray := by
            rw [Int.toNat_natCast]
            show (List.replicate n #[c]).foldl (· ++ ·) #[] = _
            rw [rep_fold]
            simp
          rw [e2]
          show (List.replicate n c).toArray.size ≤ sizeLine
          rw [List.size_toArray, List.length_replicate, sizeLine_eq]
          omega
        · have e2 : (List.replicate (n : Int).toNat (S [c]).cps).foldl (· ++ ·) #[] = (List.replicate n c).toArray := by
            rw [Int.toNat_natCast]
            show (List.replicate n #[c]).foldl (· ++ ·) #[] = _
            rw [rep_fold]
            simp
          rw [e2]
          exact ⟨.str (S (List.replicate n c)), H, I.tok _, ⟨_, rfl⟩, q⟩

/-! ### sum(t), sorted(t) of a tuple of ints -/
section
variable {X : Cx}
def rSumT (K : PySem.W.Frag) : List V → Hp → VK → Prop := fun vs H Q => ∃ (a : Addr) (ns : List Int), vs = [V.ref a] ∧ SqT K H a (ns.map V.int) ∧ Q (.int ns.sum) H
theorem preSum_ints (ns : List Int) : ∀ n, n ≤ ns.length → preSum (fun i => ns.getD i 0) n = (ns.take n).sum
  | 0, _ => by simp [preSum]
  | n + 1, h => by
    have hn : n < ns.length := h
    have ih := preSum_ints ns n (Nat.le_of_lt hn)
    have e : preSum (fun i => ns.getD i 0) (n + 1) = preSum (fun i => ns.getD i 0) n + ns.getD n 0 := rfl
    rw [e, ih, List.take_add_one, List.sum_append, List.getD_eq_getElem?_getD, List.getElem?_eq_getElem hn]
    simp
theorem cr_sumT (hcalm : X.calm = true) : CallR X (.builtin "sum") (rSumT X.K) := by
  intro pins s σ H vs us Q I r h
  obtain ⟨a, ns, rfl, hs, q⟩ := h
  obtain ⟨its, rv, ht, _⟩ := I.tuple hs
  rw [Vals.ref1 r]
  have hnone : X.A.in1.handled = none := I.ok.hd hcalm
  have hal : a < s.heap.objs.size := ht.lt
  have hints := rv.ints
  have hlen : its.toArray.size = ns.length := by
    rw [List.size_toArray, ← rv.length, List.length_map]
  refine call_sum_walkG (wpAny_pyIter_tuple (show s.heap.IsTuple a its.toArray from ht) ?_)
  refine ⟨s.heap.objs.size, [s.heap.objs.size, a], [s.heap.objs.size], its.toArray.size, _, _, fun i => ns.getD i 0, rfl, Walks.tuple hnone _ a (Nat.ne_of_lt hal) its.toArray, ?_, ?_, ?_, ?_⟩
  · exact ⟨⟨_, Heap.get?_push_size _ rfl, rfl, rfl⟩, (show s.heap.IsTuple a its.toArray from ht).push _⟩
  · intro b hb
    have hsz : (s.heap.push { cls := .type "tuple_iterator", data := .fields #[.ref a, .int 0 0] }).objs.size = s.heap.objs.size + 1 := Heap.size_push ..
    show b < (s.heap.push _).objs.size
    rw [Heap.size_push]
    rcases List.mem_cons.mp hb with e | hb
    · rw [e]; exact Nat.lt_succ_self _
    · have e : b = a := by simpa using hb
      rw [e]; exact Nat.lt_succ_of_lt hal
  · intro i v hv
    have hi : its[i]? = some v := by simpa using hv
    exact IntsAre.int_at hints i v hi
  · intro h' tk t' hk
    have e : preSum (fun i => ns.getD i 0) its.toArray.size = ns.sum := by
      rw [hlen, preSum_ints ns ns.length (Nat.le_refl _), List.take_length]
    rw [e]
    refine ⟨.int ns.sum, H, I.kept (t' := tk) fun b o hb => hk b o (fun z => ?_) (Heap.get?_push_of_some _ hb), ⟨_, rfl⟩, q⟩
    have z' : b = s.heap.objs.size := by simpa using z
    rw [z'] at hb
    exact absurd (Heap.lt_size hb) (Nat.lt_irrefl _)
def rSortT (K : PySem.W.Frag) : List V → Hp → VK → Prop := fun vs H Q => ∃ (a : Addr) (ns : List Int), vs = [V.ref a] ∧ SqT K H a (ns.map V.int) ∧ ns.length < 64 ∧
  ∀ (ms : List Int) (p : Addr), ms.Perm ns → ms.Pairwise (· ≤ ·) → H p = none → Q (.ref p) (upd H p (.lst (ms.map V.int)))
theorem cr_sortT : CallR X (.builtin "sorted") (rSortT X.K) := by
  intro pins s σ H vs us Q I r h
  obtain ⟨a, ns, rfl, hs, hfew, q⟩ := h
  obtain ⟨its, rv, ht, hz⟩ := I.tuple hs
  rw [Vals.ref1 r]
  have hints := rv.ints
  have hlen : its.length = ns.length := by rw [← rv.length, List.length_map]
  obtain ⟨o, ho, hc, n, hd⟩ := id ht
  refine Calls.call_function_entry kind_sorted plain_sorted entry_sorted (args_sorted1 _) ?_
  unfold Builtin.«sorted»
  refine wpAny_bind (m := checkCount "sorted" 1 1 _) (wpAny_pure ?_)
  refine wpAny_bind (wpAny_collect_seq a (.inr rfl) ho hc hd (fun h1 hk1 => ?_) (by rw [List.size_toArray, hlen, sizeLine_eq]; omega))
  have I1 : Inv X pins σ H { s with heap := h1 } := I.kept (t' := s.toks) hk1
  have hp : H h1.objs.size = none := I1.hok.fresh (Nat.le_refl _)
  have hin : IntsAre its.toArray.toList ns := by simpa using hints
  refine wpAny_bind (wpAny_newList ?_ (by simp only [Array.length_toList, List.size_toArray]; rw [hlen, sizeLine_eq]; omega))
  have hoL : (h1.push { cls := .type "list", data := .seq its.toArray.toList.toArray }).get? h1.objs.size = some (seqObj "list" its.toArray.toList.toArray 0) := Heap.get?_push_size _ rfl
  refine wpAny_bind (wpAny_holding (wpAny_call_entry slot_list_sort ⟨_, hoL, rfl⟩ entry_list_sort (list_sort_tree hoL hin (by simp only [Array.length_toList, List.size_toArray]; omega) fun out ms a1 a2 a3 => ⟨_, rfl, ?_⟩) (args_list_sort _)))
  refine wpAny_pure ⟨_, rfl, ?_⟩
  obtain ⟨ep, hat⟩ := sortedHeap_at (out := out) hoL
  have hml : (ms.map V.int).length ≤ sizeLine := by rw [List.length_map, a2.length_eq, sizeLine_eq]; omega
  refine ⟨.ref h1.objs.size, upd H h1.objs.size (.lst (ms.map V.int)), I1.laid (t' := s.toks) (fun b u hb => ?_) (Nat.le_refl _) ⟨hml, out.toList, ep, vals_of_ints a1, hat⟩, rfl, q ms _ a2 a3 hp⟩
  have hbl : b < h1.objs.size := Heap.lt_size hb
  rw [sortedHeap_old (Nat.ne_of_lt hbl) (by rw [Heap.size_push]; exact Nat.lt_succ_of_lt hbl)]
  exact Heap.get?_push_of_some _ hb

/-! ### enumerate(text) -/
/-- the text's signs, each in a new pair with its place -/
def ItEs (z : Str) : It :=
  ⟨fun i _ => i < z.cps.size, fun i H v H' => ∃ T c, v = .ref T ∧ H T = none ∧ H' = upd H T (.tup [.int (i : Nat), .str ⟨#[c]⟩]) ∧ z.cps[i]? = some c, fun i _ => i = z.cps.size⟩
theorem turn_enumS {P : Program} {w : World} {K : PySem.W.Frag} {elts : List Expr} {kk : Nat} {tpos : Pos} (z : Str) (t : Tok) (e it : Addr) :
    Turn P w K (.Tuple elts kk tpos) (ItEs z) [e, it] e (fun i h => (∃ old, IsEnum h e it ((i : Nat) : Int) old) ∧ h.IsStrIter it (strIterType z) z t i ∧ e ≠ it) where
  mem := by simp
  obj := fun i h st b hb => by
    obtain ⟨⟨old, h1⟩, ⟨o, h2, _, h3⟩, _⟩ := st
    rcases (show b = e ∨ b = it by simpa using hb) with y | y
    · subst y
      exact ⟨_, h1, fun v x => nomatch x⟩
    · subst y
      exact ⟨o, h2, fun v x => by rw [h3] at x; cases x⟩
  keep := fun i h h' st k => by
    obtain ⟨⟨old, h1⟩, ⟨o, h2, h3⟩, h4⟩ := st
    exact ⟨⟨old, k e (by simp) _ h1⟩, ⟨o, k it (by simp) o h2, h3⟩, h4⟩
  item := by
    intro X hP hw hK hcalm i pins s σ H E I hf st hg
    subst hP hw hK
    obtain ⟨⟨old, he⟩, hit, hne⟩ := st
    have D := Draws.text (prog := X.prog) (w := X.w) (A := X.A.in1) (I.ok.hd hcalm) it z t
    have he1 : e < s.heap.objs.size := Heap.lt_size he
    have hi1 : it < s.heap.objs.size := by obtain ⟨_, y, _⟩ := hit; exact Heap.lt_size y
    refine wpAny_pyNext_enum_itemD D he hit hg hne (by simpa using hne) fun x h' tk hx ho hit' hT hsz hk => ?_
    obtain ⟨c, u, hc, rfl⟩ := hx
    refine ⟨_, rfl, wpAny_letOwnedTupleGo_enum (s := { s with heap := h', toks := tk + 1 }) ho fun h2 he2 sb => ?_⟩
    have hT2 := (sb.2 _ (Nat.ne_of_gt he1)).trans hT
    have new : ObjOk X.prog X.w (upd H s.heap.objs.size (.tup [.int (i : Nat), .str ⟨#[c]⟩])) h2 s.heap.objs.size (.tup [.int (i : Nat), .str ⟨#[c]⟩]) :=
      ⟨by show 2 ≤ sizeLine; decide, [.int i tk, .str ⟨#[c]⟩ u], .cons ⟨_, rfl⟩ (.cons ⟨_, rfl⟩ .nil), ⟨_, hT2, rfl, _, rfl⟩⟩
    have I1 : Inv X pins σ (upd H s.heap.objs.size (.tup [.int (i : Nat), .str ⟨#[c]⟩])) { s with heap := h2, toks := tk + 1 } :=
      I.turnedNew (ch := [e, it]) (fun b ob hb y => (sb.2 b (fun z' => hb (by simp [z']))).trans (hk b ob (fun z' => hb (by simp [z'])) (fun z' => hb (by simp [z'])) y)) hf (Nat.le_refl _) new
    refine ⟨.ref s.heap.objs.size, _, I1, rfl, ⟨_, c, rfl, I.hok.fresh (Nat.le_refl _), rfl, hc⟩, ⟨⟨Value.str ⟨#[c]⟩ u, ?_⟩, ?_, hne⟩, fun b hb => ?_⟩
    · have e1 : ((i + 1 : Nat) : Int) = (i : Int) + 1 := by omega
      rw [e1]
      exact he2
    · obtain ⟨oo, y1, y2⟩ := hit'
      exact ⟨oo, (sb.2 it (Ne.symm hne)).trans y1, y2⟩
    · have hb1 : b < s.heap.objs.size := by
        rcases (show b = e ∨ b = it by simpa using hb) with y | y
        · rw [y]; exact he1
        · rw [y]; exact hi1
      rw [upd_ne (Nat.ne_of_lt hb1)]
      exact (hf b hb).1
  done := by
    intro X hP hw hK hcalm i pins s σ H E I hf st hg
    subst hP hw hK
    obtain ⟨⟨old, he⟩, hit, hne⟩ := st
    have D := Draws.text (prog := X.prog) (w := X.w) (A := X.A.in1) (I.ok.hd hcalm) it z t
    obtain ⟨f0, f1, f2, f3, f4, f5⟩ := hf it (by simp)
    have hgo : i = z.cps.size := hg
    subst hgo
    exact wpAny_pyNext_enum_endD D he hit fun h' eb => ⟨rfl, I.turned (t' := s.toks) (fun b o hb y => eb b o hb y) f0 f1 f3 f4 f5⟩
  self := fun A i s Q E st h => by
    obtain ⟨⟨_, he⟩, _⟩ := st
    exact wpAny_pyIter_enum he h
def iEnumS (ta : TA) : TI := fun σ H R => ta σ H fun vs H1 => ∃ z, vs = [.str z] ∧ R (ItEs z) H1
theorem pi_enumS {e : Expr} {ta : TA} {p pos tpos : Pos} {elts : List Expr} {kk : Nat} (hg : Gl X "enumerate") (hm : X.mg "enumerate" = none) (ha : PA X [e] ta) (one : starEach [e] X.env = [(false, eval e X.env)] := by rfl) :
    PI X (.Tuple elts kk tpos) (.Call (.Name "enumerate" p) [e] [] pos) (iEnumS ta) := by
  constructor
  intro pins s σ H R I h
  refine Call_ (ld_blt I hg hm boot_enumerate (PyProof.Rows.callWith_type1 (thn (ha.run pos pins s σ H _ I h) fun us s1 ⟨vs, H1, I1, r1, q1⟩ => ?_) one rfl))
  obtain ⟨z, rfl, q⟩ := q1
  obtain ⟨u, rfl, ru⟩ := vals1 r1
  obtain ⟨t, rfl⟩ := ru
  refine call_enumerate_str fun h' he hit hsz hk => wpAny_pyIter_enum he ?_
  have I2 : Inv X pins σ H1 { s1 with heap := h' } := I1.kept (t' := s1.toks) hk
  refine ⟨s1.heap.objs.size + 1, [s1.heap.objs.size + 1, s1.heap.objs.size], _, _, H1, rfl, I2, turn_enumS z t (s1.heap.objs.size + 1) s1.heap.objs.size, ⟨⟨.none, he⟩, hit, Nat.succ_ne_self _⟩, fun b hb => ?_, q⟩
  have hle : s1.heap.objs.size ≤ b := by
    rcases (show b = s1.heap.objs.size + 1 ∨ b = s1.heap.objs.size by simpa using hb) with y | y
    · rw [y]; exact Nat.le_add_right _ _
    · rw [y]; exact Nat.le_refl _
  exact I1.fpOk hle (I1.hok.fresh hle)
theorem walk_enumS {z : Str} : Walk (ItEs z) z.cps.size (fun _ => True) (fun i H v H' => ∃ T c, v = .ref T ∧ H T = none ∧ H' = upd H T (.tup [.int (i : Nat), .str ⟨#[c]⟩]) ∧ z.cps[i]? = some c) :=
  ⟨fun _ _ hi _ => hi, fun _ _ => rfl, fun _ _ _ _ _ _ y => y⟩
end

/-! ### set(xs) of a list of ints -/
section
variable {P : Program} {w : World} {A : Around} {E : Value → Shared → Prop} {s : Shared}
abbrev set0 (w : World) : Obj := { cls := .type "set", dict := none, data := .set #[] 0 (.fresh 0 0 (!w.params.followText "set-order")) }
theorem call_set_listI {l : Addr} {vals : Array Value} (ns : List Int) {Q : Value → Shared → Prop} (calm : A.handled = none) (hl : s.heap.IsList l vals) (hi : IntsAre vals.toList ns) (room : ns.length + 1 < scanBound)
    (fin : ∀ (h' : Heap) (tk c : Nat), SetR w h' s.heap.objs.size (fun j => decide (j ∈ ns)) c → c ≤ ns.length → (∀ b o, s.heap.get? b = some o → h'.get? b = some o) → Q (.ref s.heap.objs.size) { s with heap := h', toks := tk }) :
    wpAny (model P w) A (call (.type "set") [.ref l]) Q E s := by
  have hvn : vals.size = ns.length := by
    have y := IntsAre.length hi
    rwa [Array.length_toList] at y
  obtain ⟨c, tl, hmro⟩ := F.called_set.mro
  have hmade := F.called_set.made
  have hsub := F.called_set.sub
  refine wpAny_call (codeAny_of_tree ?_)
  show wpAny _ _ (callAny (.type "set") _) _ _ _
  refine wpAny_pure ⟨Code.quiet_builtin _ (by decide +kernel), codeAny_builtin F.entry_type_call ?_⟩
  rw [Around.under_plain (weight_type_call_type "set" [.ref l] []) rfl]
  have k1 := F.called_set.notType
  have k2 := F.called_set.canCreate
  have k3 := F.typeCall_set_1 (.ref l)
  repeat (any_goals (first | assumption | wp_step))
  refine codeAny_mono (code_set_led1 (.ref l) (E := E) (Q₁ := fun obj s1 => obj = .ref s.heap.objs.size ∧ s1 = { s with heap := s.heap.push (set0 w) }) ⟨rfl, rfl⟩) fun r s1 hr => ?_
  cases r with
  | error e => exact hr
  | ok fl =>
    cases fl with
    | ret obj =>
      obtain ⟨rfl, rfl⟩ := hr
      have hS : (s.heap.push (set0 w)).get? s.heap.objs.size = some (set0 w) := Heap.get?_push_size _ rfl
      have hT : Shared.TypeIs { s with heap := s.heap.push (set0 w) } (.ref s.heap.objs.size) "set" := ⟨_, hS, rfl⟩
      have k4 := F.called_set.init.lookup
      have k5 := F.called_set.init.bind (.ref s.heap.objs.size)
      repeat (any_goals (first | assumption | wp_step))
      refine codeAny_mono (codeAny_call_builtin (R := wants (fun r s2 => r = .none ∧ ∃ h' tk c, s2 = { s with heap := h', toks := tk } ∧ SetR w h' s.heap.objs.size (fun j => decide (j ∈ ns)) c ∧ c ≤ ns.length ∧
          (∀ b o, s.heap.get? b = some o → h'.get? b = some o)) E) F.called_set.init.plain F.entry_set_init (check_set_init_1 hT ?_)) fun r2 s2 hr2 => ?_
      · obtain ⟨ol, hol, hcl, nl, hdl⟩ := hl
        obtain ⟨ocls, odict, odata, oslots⟩ := ol
        simp only at hcl hdl
        subst hcl hdl
        have hol2 : (s.heap.push (set0 w)).get? l = some { cls := .type "list", dict := odict, data := .seq vals nl, slots := oslots } := Heap.get?_push_of_some _ hol
        have k6 := F.sub_list_set
        have k7 := F.sub_list_frozenset
        have k8 : (Value.type "list" == Value.type "dict") = false := by decide
        have hl1 : (s.heap.push (set0 w)).IsList l vals := ⟨_, hol2, rfl, nl, rfl⟩
        unfold Builtin.«set.__init__» noKeywords Builtin.Frozenset.updateFrom
        generalize hPI : pyIter = PI
        wp_walk
        subst hPI
        refine wpAny_pyIter_list hl1 ?_
        refine wpAny_bind (wpAny_runValue ?_)
        have hlS : l < s.heap.objs.size := Heap.lt_size hol
        have calm3 : A.in1.in1.in1.handled = none := by simp [calm]
        have hz1 : (s.heap.push (set0 w)).objs.size = s.heap.objs.size + 1 := Heap.size_push ..
        have hlne : l ≠ (s.heap.push (set0 w)).objs.size := by
          rw [hz1]
          exact Nat.ne_of_lt (Nat.lt_succ_of_lt hlS)
        have hSf : s.heap.objs.size ∉ [(s.heap.push (set0 w)).objs.size, l] := by
          rw [hz1]
          simp only [List.mem_cons, List.not_mem_nil, or_false, not_or]
          exact ⟨Nat.ne_of_lt (Nat.lt_succ_self _), Nat.ne_of_gt hlS⟩
        have hval : ∀ (i : Nat) (v : Value), vals[i]? = some v → ∃ k t, ns[i]? = some k ∧ v = .int k t := fun i v hv => by
          have hlt : i < ns.length := by
            rw [← hvn]
            exact (Array.getElem?_eq_some_iff.mp hv).1
          obtain ⟨t, e⟩ := PyProof.Rows.IntsAre.int_at hi i v (by rw [Array.getElem?_toList]; exact hv)
          refine ⟨ns[i], t, List.getElem?_eq_getElem hlt, ?_⟩
          rw [e, List.getD_eq_getElem?_getD, List.getElem?_eq_getElem hlt]
          rfl
        refine set_update_ints ((Walks.list calm3 _ l hlne vals).toS) s.heap.objs.size hSf ns hvn room hval (vals.size - 0) 0 _ (by omega) (Nat.zero_le _)
          ⟨⟨_, Heap.get?_push_size _ rfl, rfl, rfl⟩, hl1.push _⟩ ?hS0 ?hR
        case hS0 => exact ⟨0, Nat.le_refl 0, setR_new_at (Heap.get?_push_of_some _ hS)⟩
        case hR =>
          intro s' c' hm hc' hS'
          obtain ⟨h', g2, d', tk', os'⟩ := s'
          have eg : g2 = s.gens := hm.gens
          have ed : d' = s.drawn := hm.drawn
          have eo : os' = s.os := hm.os
          subst eg ed eo
          show wpAny _ _ _ _ _ _
          refine wpAny_pure ?_
          show wpAny _ _ (ret Value.none) _ _ _
          rw [hvn] at hc'
          refine wpAny_pure ⟨rfl, h', tk', c', rfl, hS', hc', fun b o e => ?_⟩
          have b0 : b < s.heap.objs.size := Heap.lt_size e
          refine hm.heap b o ?_ (Heap.get?_push_of_some _ (Heap.get?_push_of_some _ e))
          simp only [List.mem_cons, List.not_mem_nil, or_false, not_or]
          refine ⟨Nat.ne_of_lt b0, ?_⟩
          rw [hz1]
          exact Nat.ne_of_lt (Nat.lt_succ_of_lt b0)
      · cases r2 with
        | error e => exact hr2
        | ok fl2 =>
          cases fl2 with
          | ret r =>
            obtain ⟨rfl, h', tk, c', rfl, hS', hc', hk'⟩ := hr2
            repeat (any_goals (first | assumption | wp_step))
            exact fin _ _ _ hS' hc' hk'
          | _ => exact hr2.elim
    | _ => exact hr.elim
end
section
variable {X : Cx}
def rSetL (K : PySem.W.Frag) (w : World) : List V → Hp → VK → Prop := fun vs H Q => ∃ (a : Addr) (ns : List Int), vs = [V.ref a] ∧ SqL K H a (ns.map V.int) ∧ ns.length ≤ 60 ∧
  ∀ (p : Addr) (c : Nat), H p = none → c ≤ ns.length → Q (.ref p) (upd H p (SetO w p (fun j => decide (j ∈ ns)) c))
theorem cr_setL (hcalm : X.calm = true) : CallR X (.type "set") (rSetL X.K X.w) := by
  intro pins s σ H vs us Q I r h
  obtain ⟨a, ns, rfl, hs, hfew, q⟩ := h
  obtain ⟨its, rv, pl, _⟩ := I.list hs
  rw [Vals.ref1 r]
  refine call_set_listI ns (I.ok.hd hcalm) pl.isList (by simpa using rv.ints) (by unfold scanBound; omega) fun h' tk c hR hc hk => ?_
  exact ⟨.ref s.heap.objs.size, upd H s.heap.objs.size (SetO X.w s.heap.objs.size (fun j => decide (j ∈ ns)) c), I.laid (t' := tk) hk (Nat.le_refl _) (setO_new hR), rfl, q _ c (I.hok.fresh (Nat.le_refl _)) hc⟩
end
end Sc
/-! the mathematics: runs of a word, the word of runs -/
namespace Sc
abbrev Kn := Nat → Nat
def k0 : Kn := fun _ => 0
def put (k : Kn) (c n : Nat) : Kn := fun d => if d = c then n else k d
theorem put_same (k : Kn) (c n : Nat) : put k c n c = n := by simp [put]
theorem put_ne (k : Kn) {c d : Nat} (n : Nat) (h : d ≠ c) : put k c n d = k d := by simp [put, h]
theorem put_put (k : Kn) (c n m : Nat) : put (put k c n) c m = put k c m := by
  funext d
  unfold put
  split <;> rfl
/-- the runs of a word: (letter, how often it stood up to the end of the run) -/
def rn (k : Kn) : List Nat → List (Nat × Nat)
  | [] => []
  | [c] => [(c, k c + 1)]
  | c :: d :: r => if c = d then rn (put k c (k c + 1)) (d :: r) else (c, k c + 1) :: rn (put k c (k c + 1)) (d :: r)
/-- the word with some runs -/
def mk (k : Kn) : List (Nat × Nat) → List Nat
  | [] => []
  | (c, n) :: R => List.replicate (n - k c) c ++ mk (put k c n) R
/-- runs that some word has -/
def Pr (k : Kn) : List (Nat × Nat) → Prop
  | [] => True
  | (c, n) :: R => k c < n ∧ (∀ m R', R ≠ (c, m) :: R') ∧ Pr (put k c n) R

theorem rn_two (k : Kn) (c d : Nat) (r : List Nat) : rn k (c :: d :: r) = if c = d then rn (put k c (k c + 1)) (d :: r) else (c, k c + 1) :: rn (put k c (k c + 1)) (d :: r) := rfl
theorem mk_cons (k : Kn) (c n : Nat) (R : List (Nat × Nat)) : mk k ((c, n) :: R) = List.replicate (n - k c) c ++ mk (put k c n) R := rfl
theorem rn_cons (k : Kn) (c : Nat) (r : List Nat) : ∃ n R, rn k (c :: r) = (c, n) :: R ∧ k c < n := by
  induction r generalizing k c with
  | nil => exact ⟨_, _, rfl, Nat.lt_succ_self _⟩
  | cons d r ih =>
    unfold rn
    by_cases h : c = d
    · subst h
      rw [if_pos rfl]
      obtain ⟨n, R, e, hn⟩ := ih (put k c (k c + 1)) c
      rw [put_same] at hn
      exact ⟨n, R, e, by omega⟩
    · rw [if_neg h]
      exact ⟨_, _, rfl, Nat.lt_succ_self _⟩
theorem rn_pr (k : Kn) (w : List Nat) : Pr k (rn k w) := by
  induction w generalizing k with
  | nil => trivial
  | cons c r ih =>
    cases r with
    | nil => exact ⟨Nat.lt_succ_self _, fun m R' h => (nomatch h), trivial⟩
    | cons d r =>
      unfold rn
      have q := ih (put k c (k c + 1))
      by_cases h : c = d
      · subst h
        rw [if_pos rfl]
        obtain ⟨n, R, e, hn⟩ := rn_cons (put k c (k c + 1)) c r
        rw [e] at q ⊢
        obtain ⟨q1, q2, q3⟩ := q
        rw [put_same] at q1
        rw [put_put] at q3
        exact ⟨by omega, q2, q3⟩
      · rw [if_neg h]
        refine ⟨Nat.lt_succ_self _, fun m R' e => ?_, q⟩
        obtain ⟨n, R, e2, _⟩ := rn_cons (put k c (k c + 1)) d r
        rw [e2] at e
        injection e with e1 _
        injection e1 with e1 _
        exact h e1.symm
theorem mk_rn (k : Kn) (w : List Nat) : mk k (rn k w) = w := by
  induction w generalizing k with
  | nil => rfl
  | cons c r ih =>
    cases r with
    | nil =>
      show List.replicate (k c + 1 - k c) c ++ [] = [c]
      rw [Nat.add_sub_cancel_left]
      rfl
    | cons d r =>
      unfold rn
      have q := ih (put k c (k c + 1))
      by_cases h : c = d
      · subst h
        rw [if_pos rfl]
        obtain ⟨n, R, e, hn⟩ := rn_cons (put k c (k c + 1)) c r
        rw [e] at q ⊢
        rw [put_same] at hn
        unfold mk at q ⊢
        rw [put_same, put_put] at q
        have e2 : n - k c = (n - (k c + 1)) + 1 := by omega
        rw [e2, List.replicate_succ, List.cons_append, q]
      · rw [if_neg h]
        unfold mk
        rw [q, Nat.add_sub_cancel_left]
        rfl
/-- a block of one letter ahead of another letter -/
theorem rn_rep (k : Kn) (c j : Nat) (r : List Nat) (h : ∀ r', r ≠ c :: r') : rn k (List.replicate (j + 1) c ++ r) = (c, k c + j + 1) :: rn (put k c (k c + j + 1)) r := by
  induction j generalizing k with
  | zero =>
    cases r with
    | nil => rfl
    | cons d r =>
      have hd : c ≠ d := fun e => h r (by rw [e])
      show rn k (c :: d :: r) = _
      rw [rn_two, if_neg hd]
  | succ j ih =>
    show rn k (c :: c :: (List.replicate j c ++ r)) = _
    rw [rn_two, if_pos rfl]
    have q := ih (put k c (k c + 1))
    rw [put_same, put_put] at q
    have e1 : k c + 1 + j + 1 = k c + (j + 1) + 1 := by omega
    rw [e1] at q
    exact q
theorem mk_head (k : Kn) (R : List (Nat × Nat)) (p : Pr k R) (c : Nat) (h : ∀ m R', R ≠ (c, m) :: R') : ∀ r', mk k R ≠ c :: r' := by
  intro r' e
  cases R with
  | nil => exact nomatch e
  | cons a R =>
    obtain ⟨d, n⟩ := a
    obtain ⟨q1, _, _⟩ := p
    unfold mk at e
    have e2 : n - k d = (n - k d - 1) + 1 := by omega
    rw [e2, List.replicate_succ, List.cons_append] at e
    injection e with e1 _
    exact h n R (by rw [e1])
theorem rn_mk (k : Kn) (R : List (Nat × Nat)) (p : Pr k R) : rn k (mk k R) = R := by
  induction R generalizing k with
  | nil => rfl
  | cons a R ih =>
    obtain ⟨c, n⟩ := a
    obtain ⟨q1, q2, q3⟩ := p
    unfold mk
    have e2 : n - k c = (n - k c - 1) + 1 := by omega
    rw [e2, rn_rep _ _ _ _ (mk_head _ R q3 c q2)]
    have e3 : k c + (n - k c - 1) + 1 = n := by omega
    rw [e3, ih _ q3]
theorem rn_len (k : Kn) (w : List Nat) : (rn k w).length ≤ w.length := by
  induction w generalizing k with
  | nil => exact Nat.le_refl _
  | cons c r ih =>
    cases r with
    | nil => exact Nat.le_refl _
    | cons d r =>
      unfold rn
      have q := ih (put k c (k c + 1))
      by_cases h : c = d
      · rw [if_pos h]
        exact Nat.le_succ_of_le q
      · rw [if_neg h]
        exact Nat.succ_le_succ q
/-- letters of the runs are letters of the word -/
theorem rn_mem (k : Kn) (w : List Nat) : ∀ p ∈ rn k w, p.1 ∈ w := by
  induction w generalizing k with
  | nil => intro p hp; exact nomatch hp
  | cons c r ih =>
    cases r with
    | nil =>
      intro p hp
      have e : p = (c, k c + 1) := by simpa [rn] using hp
      rw [e]
      exact List.mem_cons_self
    | cons d r =>
      intro p hp
      unfold rn at hp
      by_cases h : c = d
      · rw [if_pos h] at hp
        exact List.mem_cons_of_mem _ (ih _ p hp)
      · rw [if_neg h] at hp
        rcases List.mem_cons.mp hp with e | hp
        · rw [e]
          exact List.mem_cons_self
        · exact List.mem_cons_of_mem _ (ih _ p hp)
theorem mk_mem (k : Kn) (R : List (Nat × Nat)) : ∀ c ∈ mk k R, ∃ n, (c, n) ∈ R := by
  induction R generalizing k with
  | nil => intro c hc; exact nomatch hc
  | cons a R ih =>
    obtain ⟨d, n⟩ := a
    intro c hc
    unfold mk at hc
    rcases List.mem_append.mp hc with h | h
    · have e := (List.mem_replicate.mp h).2
      exact ⟨n, by rw [e]; exact List.mem_cons_self⟩
    · obtain ⟨m, hm⟩ := ih _ c h
      exact ⟨m, List.mem_cons_of_mem _ hm⟩
theorem mk_count (k : Kn) (R : List (Nat × Nat)) (p : Pr k R) (c n : Nat) (h : (c, n) ∈ R) : n - k c ≤ (mk k R).length ∧ k c < n := by
  induction R generalizing k with
  | nil => exact nomatch h
  | cons a R ih =>
    obtain ⟨d, m⟩ := a
    obtain ⟨q1, q2, q3⟩ := p
    unfold mk
    rw [List.length_append, List.length_replicate]
    rcases List.mem_cons.mp h with e | h
    · injection e with e1 e2
      subst e1 e2
      exact ⟨by omega, q1⟩
    · obtain ⟨i1, i2⟩ := ih _ q3 h
      by_cases e : c = d
      · subst e
        rw [put_same] at i1 i2
        exact ⟨by omega, by omega⟩
      · rw [put_ne _ _ e] at i1 i2
        exact ⟨by omega, i2⟩
/-- counts mapped by a rising function -/
def mp (f : Nat → Nat) (R : List (Nat × Nat)) : List (Nat × Nat) := R.map fun p => (p.1, f p.2)
theorem put_map (f : Nat → Nat) (k : Kn) (c n : Nat) : put (fun d => f (k d)) c (f n) = fun d => f (put k c n d) := by
  funext d
  unfold put
  split <;> rfl
/-- f rises on the numbers that G holds of -/
def Ris (G : Nat → Prop) (f : Nat → Nat) : Prop := ∀ a b, G a → G b → a < b → f a < f b
theorem mp_pr (G : Nat → Prop) (f : Nat → Nat) (hf : Ris G f) (R : List (Nat × Nat)) (k : Kn) (hk : ∀ c, G (k c)) (hR : ∀ p ∈ R, G p.2) (p : Pr k R) : Pr (fun d => f (k d)) (mp f R) := by
  induction R generalizing k with
  | nil => trivial
  | cons a R ih =>
    obtain ⟨c, n⟩ := a
    obtain ⟨q1, q2, q3⟩ := p
    have hn : G n := hR (c, n) List.mem_cons_self
    refine ⟨hf _ _ (hk c) hn q1, fun m R' e => ?_, ?_⟩
    · cases R with
      | nil => exact nomatch e
      | cons b R =>
        obtain ⟨d, n2⟩ := b
        injection e with e1 _
        injection e1 with e1 _
        have e2 : d = c := e1
        exact q2 n2 R (by rw [e2])
    · rw [put_map]
      refine ih _ (fun d => ?_) (fun p hp => hR p (List.mem_cons_of_mem _ hp)) q3
      unfold put
      split
      · exact hn
      · exact hk d
theorem mp_len (G : Nat → Prop) (f : Nat → Nat) (B : Nat) (hf : ∀ a b, G a → G b → a < b → f b - f a ≤ B * (b - a)) (R : List (Nat × Nat)) (k : Kn) (hk : ∀ c, G (k c)) (hR : ∀ p ∈ R, G p.2) (p : Pr k R) :
    (mk (fun d => f (k d)) (mp f R)).length ≤ B * (mk k R).length := by
  induction R generalizing k with
  | nil => exact Nat.zero_le _
  | cons a R ih =>
    obtain ⟨c, n⟩ := a
    obtain ⟨q1, q2, q3⟩ := p
    have hn : G n := hR (c, n) List.mem_cons_self
    have i := ih (put k c n) (fun d => by
      unfold put
      split
      · exact hn
      · exact hk d) (fun p hp => hR p (List.mem_cons_of_mem _ hp)) q3
    show (List.replicate (f n - f (k c)) c ++ mk (put (fun d => f (k d)) c (f n)) (mp f R)).length ≤ _
    rw [put_map, List.length_append, List.length_replicate]
    rw [mk_cons, List.length_append, List.length_replicate, Nat.mul_add]
    have j := hf _ _ (hk c) hn q1
    omega
theorem mp_mp (f g : Nat → Nat) (R : List (Nat × Nat)) : mp g (mp f R) = mp (fun n => g (f n)) R := by
  unfold mp
  rw [List.map_map]
  rfl
theorem mp_congr (f g : Nat → Nat) (R : List (Nat × Nat)) (h : ∀ p ∈ R, f p.2 = g p.2) : mp f R = mp g R := by
  unfold mp
  exact List.map_congr_left fun p hp => by rw [h p hp]
theorem mp_id (f : Nat → Nat) (R : List (Nat × Nat)) (h : ∀ p ∈ R, f p.2 = p.2) : mp f R = R := by
  rw [mp_congr f (fun n => n) R h]
  unfold mp
  exact List.map_id' R
/-- said by a row: each letter as often as the row tells for the time that it comes -/
def sd (row : List Nat) (k : Kn) : List Nat → List Nat
  | [] => []
  | c :: r => List.replicate (row.getD (k c) 0) c ++ sd row (put k c (k c + 1)) r
theorem sd_cons (row : List Nat) (k : Kn) (c : Nat) (r : List Nat) : sd row k (c :: r) = List.replicate (row.getD (k c) 0) c ++ sd row (put k c (k c + 1)) r := rfl
/-- the sum of the first numbers -/
def sm (g : List Nat) (i : Nat) : Nat := (g.take i).sum
theorem sm_zero (g : List Nat) : sm g 0 = 0 := by simp [sm]
theorem sm_succ (g : List Nat) (i : Nat) : sm g (i + 1) = sm g i + g.getD i 0 := by
  unfold sm
  rw [List.take_add_one, List.sum_append, List.getD_eq_getElem?_getD]
  cases g[i]? <;> simp
theorem sm_mono (g : List Nat) (a b : Nat) (h : a ≤ b) : sm g a ≤ sm g b := by
  induction b with
  | zero => 
    have : a = 0 := by omega
    subst this
    exact Nat.le_refl _
  | succ b ih =>
    by_cases e : a = b + 1
    · subst e
      exact Nat.le_refl _
    · rw [sm_succ]
      have := ih (by omega)
      omega
theorem sd_rep (row : List Nat) (k : Kn) (c j : Nat) (r : List Nat) : sd row k (List.replicate j c ++ r) = List.replicate (sm row (k c + j) - sm row (k c)) c ++ sd row (put k c (k c + j)) r := by
  induction j generalizing k with
  | zero =>
    have e : put k c (k c + 0) = k := by
      funext d
      unfold put
      split
      · rename_i h
        rw [h]
        rfl
      · rfl
    rw [e]
    simp
  | succ j ih =>
    rw [List.replicate_succ, List.cons_append, sd_cons, ih, put_same, put_put, ← List.append_assoc, List.replicate_append_replicate]
    have e1 : k c + 1 + j = k c + (j + 1) := by omega
    rw [e1]
    have e2 : row.getD (k c) 0 + (sm row (k c + (j + 1)) - sm row (k c + 1)) = sm row (k c + (j + 1)) - sm row (k c) := by
      have m1 := sm_mono row (k c + 1) (k c + (j + 1)) (by omega)
      have m2 := sm_succ row (k c)
      omega
    rw [e2]
theorem sd_mk (row : List Nat) (k : Kn) (R : List (Nat × Nat)) (p : Pr k R) : sd row k (mk k R) = mk (fun d => sm row (k d)) (mp (sm row) R) := by
  induction R generalizing k with
  | nil => rfl
  | cons a R ih =>
    obtain ⟨c, n⟩ := a
    obtain ⟨q1, q2, q3⟩ := p
    unfold mk
    rw [sd_rep]
    have e : k c + (n - k c) = n := by omega
    rw [e, ih _ q3]
    show _ = List.replicate (sm row n - sm row (k c)) c ++ mk (put (fun d => sm row (k d)) c (sm row n)) (mp (sm row) R)
    rw [put_map]
end Sc
/-! the mathematics: marks, cores, gaps, words by gaps -/
namespace Sc
theorem max_ge : ∀ (l : List Nat) (x : Nat), x ∈ l → x ≤ l.foldr max 0
  | [], _, h => nomatch h
  | a :: r, x, h => by
    rw [List.foldr_cons]
    rcases List.mem_cons.mp h with e | h
    · rw [e]
      exact Nat.le_max_left _ _
    · exact Nat.le_trans (max_ge r x h) (Nat.le_max_right _ _)
/-- 0 and the numbers of a list, each once, ascending -/
def mks (l : List Nat) : List Nat := (List.range (l.foldr max 0 + 1)).filter fun k => k == 0 || l.contains k
theorem mks_asc (l : List Nat) : (mks l).Pairwise (· < ·) := List.Pairwise.filter _ List.pairwise_lt_range
theorem mem_mks {l : List Nat} {x : Nat} : x ∈ mks l ↔ x = 0 ∨ x ∈ l := by
  unfold mks
  rw [List.mem_filter, List.mem_range, Bool.or_eq_true, beq_iff_eq, List.contains_iff_mem]
  constructor
  · exact fun h => h.2
  · intro h
    refine ⟨?_, h⟩
    rcases h with e | h
    · omega
    · exact Nat.lt_succ_of_le (max_ge l x h)
theorem asc_one {α : Type} {lt : α → α → Prop} (irr : ∀ a, ¬ lt a a) (tr : ∀ a b c, lt a b → lt b c → lt a c) : ∀ {l m : List α}, l.Pairwise lt → m.Pairwise lt → (∀ x, x ∈ l ↔ x ∈ m) → l = m
  | [], [], _, _, _ => rfl
  | [], b :: s, _, _, h => absurd ((h b).mpr List.mem_cons_self) (by simp)
  | a :: r, [], _, _, h => absurd ((h a).mp List.mem_cons_self) (by simp)
  | a :: r, b :: s, hl, hm, h => by
    obtain ⟨l1, l2⟩ := List.pairwise_cons.mp hl
    obtain ⟨m1, m2⟩ := List.pairwise_cons.mp hm
    have e : a = b := by
      rcases List.mem_cons.mp ((h a).mp List.mem_cons_self) with e | h1
      · exact e
      · rcases List.mem_cons.mp ((h b).mpr List.mem_cons_self) with e | h2
        · exact e.symm
        · exact absurd (tr _ _ _ (m1 a h1) (l1 b h2)) (irr b)
    subst e
    have hr : r = s := asc_one irr tr l2 m2 fun x => by
      constructor
      · intro hx
        rcases List.mem_cons.mp ((h x).mp (List.mem_cons_of_mem _ hx)) with e | h1
        · rw [e] at hx
          exact absurd (l1 a hx) (irr a)
        · exact h1
      · intro hx
        rcases List.mem_cons.mp ((h x).mpr (List.mem_cons_of_mem _ hx)) with e | h1
        · rw [e] at hx
          exact absurd (m1 a hx) (irr a)
        · exact h1
    rw [hr]
theorem asc_nat {l m : List Nat} (h1 : l.Pairwise (· < ·)) (h2 : m.Pairwise (· < ·)) (h : ∀ x, x ∈ l ↔ x ∈ m) : l = m := asc_one Nat.lt_irrefl (fun _ _ _ => Nat.lt_trans) h1 h2 h
theorem asc_int {l m : List Int} (h1 : l.Pairwise (· < ·)) (h2 : m.Pairwise (· < ·)) (h : ∀ x, x ∈ l ↔ x ∈ m) : l = m := asc_one Int.lt_irrefl (fun _ _ _ => Int.lt_trans) h1 h2 h
/-- numbers as Python's -/
def zs (l : List Nat) : List Int := l.map fun n : Nat => (n : Int)
theorem zs_len (l : List Nat) : (zs l).length = l.length := by simp [zs]
theorem mks_int {l : List Nat} {ns : List Int} (h1 : ns.Pairwise (· < ·)) (h : ∀ k : Int, k ∈ ns ↔ k ∈ zs (0 :: l)) : ns = zs (mks l) := by
  refine asc_int h1 ?_ fun x => ?_
  · unfold zs
    rw [List.pairwise_map]
    exact (mks_asc l).imp fun h => by omega
  · rw [h]
    unfold zs
    constructor
    · intro hx
      obtain ⟨n, hn, e⟩ := List.mem_map.mp hx
      exact List.mem_map.mpr ⟨n, mem_mks.mpr (List.mem_cons.mp hn), e⟩
    · intro hx
      obtain ⟨n, hn, e⟩ := List.mem_map.mp hx
      exact List.mem_map.mpr ⟨n, List.mem_cons.mpr (mem_mks.mp hn), e⟩
/-- the place of a number in a list -/
def ix (n : Nat) : List Nat → Nat
  | [] => 0
  | a :: r => if a = n then 0 else ix n r + 1
theorem ix_get : ∀ {M : List Nat} {n : Nat}, n ∈ M → M[ix n M]? = some n
  | [], _, h => nomatch h
  | a :: r, n, h => by
    unfold ix
    by_cases e : a = n
    · rw [if_pos e, e]
      rfl
    · rw [if_neg e, List.getElem?_cons_succ]
      rcases List.mem_cons.mp h with e2 | h
      · exact absurd e2.symm e
      · exact ix_get h
theorem ix_first : ∀ {M : List Nat} {n m : Nat}, m < ix n M → M[m]? ≠ some n
  | [], _, _, h => by simp
  | a :: r, n, m, h => by
    unfold ix at h
    by_cases e : a = n
    · rw [if_pos e] at h
      exact absurd h (Nat.not_lt_zero _)
    · rw [if_neg e] at h
      cases m with
      | zero =>
        intro q
        exact e (Option.some.inj q)
      | succ m =>
        rw [List.getElem?_cons_succ]
        exact ix_first (by omega)
theorem ix_lt {M : List Nat} {n : Nat} (h : n ∈ M) : ix n M < M.length := (List.getElem?_eq_some_iff.mp (ix_get h)).1
theorem asc_lt {M : List Nat} (ha : M.Pairwise (· < ·)) {i j a b : Nat} (hi : M[i]? = some a) (hj : M[j]? = some b) (h : a < b) : i < j := by
  obtain ⟨i1, e1⟩ := List.getElem?_eq_some_iff.mp hi
  obtain ⟨j1, e2⟩ := List.getElem?_eq_some_iff.mp hj
  rcases Nat.lt_trichotomy i j with c | c | c
  · exact c
  · subst c
    rw [e1] at e2
    omega
  · have q := List.pairwise_iff_getElem.mp ha j i j1 i1 c
    rw [e1, e2] at q
    omega
theorem asc_gap {M : List Nat} (ha : M.Pairwise (· < ·)) : ∀ (d i a b : Nat), M[i]? = some a → M[i + d]? = some b → d ≤ b - a
  | 0, _, _, _, _, _ => Nat.zero_le _
  | d + 1, i, a, b, hi, hj => by
    obtain ⟨j1, e2⟩ := List.getElem?_eq_some_iff.mp hj
    have hd : i + d < M.length := by omega
    have q := asc_gap ha d i a (M[i + d]) hi (List.getElem?_eq_getElem hd)
    have q2 := List.pairwise_iff_getElem.mp ha (i + d) (i + (d + 1)) hd j1 (by omega)
    rw [e2] at q2
    have q3 : a ≤ M[i + d] := by
      obtain ⟨i1, e1⟩ := List.getElem?_eq_some_iff.mp hi
      by_cases z : d = 0
      · subst z
        rw [← e1]
        exact Nat.le_refl _
      · have := List.pairwise_iff_getElem.mp ha i (i + d) i1 hd (by omega)
        rw [e1] at this
        omega
    omega
theorem ix_ris {M : List Nat} (ha : M.Pairwise (· < ·)) : Ris (fun n => n ∈ M) (fun n => ix n M) := fun a b h1 h2 h => asc_lt ha (ix_get h1) (ix_get h2) h
theorem ix_gap {M : List Nat} (ha : M.Pairwise (· < ·)) (a b : Nat) (h1 : a ∈ M) (h2 : b ∈ M) (h : a < b) : ix b M - ix a M ≤ 1 * (b - a) := by
  have q := asc_lt ha (ix_get h1) (ix_get h2) h
  have g1 := ix_get h1
  have g2 := ix_get h2
  have e : ix a M + (ix b M - ix a M) = ix b M := by omega
  rw [← e] at g2
  rw [Nat.one_mul]
  exact asc_gap ha _ _ _ _ g1 g2
theorem ix_at {M : List Nat} (ha : M.Pairwise (· < ·)) {i n : Nat} (h : M[i]? = some n) : ix n M = i := by
  have hm : n ∈ M := List.mem_of_getElem? h
  have g := ix_get hm
  obtain ⟨i1, e1⟩ := List.getElem?_eq_some_iff.mp h
  obtain ⟨j1, e2⟩ := List.getElem?_eq_some_iff.mp g
  rcases Nat.lt_trichotomy (ix n M) i with c | c | c
  · have q := List.pairwise_iff_getElem.mp ha _ _ j1 i1 c
    omega
  · exact c
  · have q := List.pairwise_iff_getElem.mp ha _ _ i1 j1 c
    omega
theorem asc_zero {M : List Nat} (ha : M.Pairwise (· < ·)) (h : 0 ∈ M) : M[0]? = some 0 := by
  cases M with
  | nil => exact nomatch h
  | cons a r =>
    rcases List.mem_cons.mp h with e | h
    · subst e
      rfl
    · have := (List.pairwise_cons.mp ha).1 0 h
      omega

/-! ### runs, marks, cores -/
def runs (w : List Nat) : List (Nat × Nat) := rn k0 w
def marks (w : List Nat) : List Nat := mks ((runs w).map (·.2))
def df (M : List Nat) : List Nat := (List.range (M.length - 1)).map fun i => M.getD (i + 1) 0 - M.getD i 0
def gaps (w : List Nat) : List Nat := df (marks w)
def core (w : List Nat) : List Nat := mk k0 (mp (fun n => ix n (marks w)) (runs w))
def grown (c g : List Nat) : List Nat := mk k0 (mp (sm g) (runs c))
/-- the runs of a core of m levels -/
structure CoreR (RC : List (Nat × Nat)) (m : Nat) : Prop where
  pr : Pr k0 RC
  all : ∀ j, j ≤ m ↔ j = 0 ∨ ∃ c, (c, j) ∈ RC
theorem core_pr (w : List Nat) : Pr k0 (mp (fun n => ix n (marks w)) (runs w)) := by
  have ha := mks_asc ((runs w).map (·.2))
  have h0 : 0 ∈ marks w := mem_mks.mpr (.inl rfl)
  have e : (fun d : Nat => ix (k0 d) (marks w)) = k0 := by
    funext d
    exact ix_at ha (asc_zero ha h0)
  have q := mp_pr (fun n => n ∈ marks w) (fun n => ix n (marks w)) (ix_ris ha) (runs w) k0 (fun _ => h0) (fun p hp => mem_mks.mpr (.inr (List.mem_map.mpr ⟨p, hp, rfl⟩))) (rn_pr k0 w)
  rw [e] at q
  exact q
theorem core_runs (w : List Nat) : runs (core w) = mp (fun n => ix n (marks w)) (runs w) := rn_mk k0 _ (core_pr w)
theorem core_ok (w : List Nat) : CoreR (runs (core w)) ((marks w).length - 1) := by
  have ha := mks_asc ((runs w).map (·.2))
  have h0 : 0 ∈ marks w := mem_mks.mpr (.inl rfl)
  refine ⟨?_, fun j => ?_⟩
  · rw [core_runs]
    exact core_pr w
  · rw [core_runs]
    have hlen : 0 < (marks w).length := List.length_pos_of_mem h0
    constructor
    · intro hj
      have hl : j < (marks w).length := by omega
      have hm : (marks w)[j]? = some (marks w)[j] := List.getElem?_eq_getElem hl
      rcases mem_mks.mp (List.getElem_mem hl) with e | h
      · refine .inl ?_
        have q := ix_at ha hm
        rw [e] at q
        rw [← q]
        exact ix_at ha (asc_zero ha h0)
      · obtain ⟨p, hp, e⟩ := List.mem_map.mp h
        refine .inr ⟨p.1, List.mem_map.mpr ⟨p, hp, ?_⟩⟩
        have q := ix_at ha hm
        rw [← e] at q
        exact Prod.ext rfl q
    · intro h
      rcases h with e | ⟨c, h⟩
      · omega
      · obtain ⟨p, hp, e⟩ := List.mem_map.mp h
        have hm : p.2 ∈ marks w := mem_mks.mpr (.inr (List.mem_map.mpr ⟨p, hp, rfl⟩))
        have q := ix_lt hm
        have e2 : ix p.2 (marks w) = j := congrArg Prod.snd e
        omega
theorem core_len (w : List Nat) : (core w).length ≤ w.length := by
  have ha := mks_asc ((runs w).map (·.2))
  have h0 : 0 ∈ marks w := mem_mks.mpr (.inl rfl)
  have e : (fun d : Nat => ix (k0 d) (marks w)) = k0 := by
    funext d
    exact ix_at ha (asc_zero ha h0)
  have q := mp_len (fun n => n ∈ marks w) (fun n => ix n (marks w)) 1 (ix_gap ha) (runs w) k0 (fun _ => h0) (fun p hp => mem_mks.mpr (.inr (List.mem_map.mpr ⟨p, hp, rfl⟩))) (rn_pr k0 w)
  rw [e, Nat.one_mul] at q
  have z := mk_rn k0 w
  unfold core
  unfold runs at q ⊢
  rw [z] at q
  exact q

/-! ### words by gaps -/
section
variable {c g : List Nat} {m : Nat}
theorem sm_ris (h1 : ∀ x ∈ g, 1 ≤ x) : Ris (fun n => n ≤ g.length) (sm g) := by
  intro a b _ hb h
  have q := sm_mono g (a + 1) b h
  rw [sm_succ, List.getD_eq_getElem?_getD, List.getElem?_eq_getElem (show a < g.length by omega)] at q
  have := h1 _ (List.getElem_mem (show a < g.length by omega))
  simp at q
  omega
theorem sm_all (g : List Nat) : sm g g.length = g.sum := by
  unfold sm
  rw [List.take_length]
theorem sm_lip (B : Nat) (hB : ∀ x ∈ g, x ≤ B) : ∀ (d a : Nat), sm g (a + d) - sm g a ≤ B * d
  | 0, _ => by simp
  | d + 1, a => by
    have q := sm_lip B hB d a
    have e : a + (d + 1) = (a + d) + 1 := by omega
    rw [e, sm_succ, Nat.mul_succ]
    have : g.getD (a + d) 0 ≤ B := by
      rw [List.getD_eq_getElem?_getD]
      cases z : g[a + d]? with
      | none => exact Nat.zero_le _
      | some x => exact hB x (List.mem_of_getElem? z)
    omega
theorem core_le (C : CoreR (runs c) m) : ∀ p ∈ runs c, p.2 ≤ m := fun p hp => (C.all p.2).mpr (.inr ⟨p.1, hp⟩)
theorem grown_pr (C : CoreR (runs c) m) (hl : g.length = m) (h1 : ∀ x ∈ g, 1 ≤ x) : Pr k0 (mp (sm g) (runs c)) := by
  have q := mp_pr (fun n => n ≤ g.length) (sm g) (sm_ris h1) (runs c) k0 (fun _ => Nat.zero_le _) (fun p hp => by rw [hl]; exact core_le C p hp) C.pr
  have e : (fun d : Nat => sm g (k0 d)) = k0 := by
    funext d
    exact sm_zero g
  rw [e] at q
  exact q
theorem grown_runs (C : CoreR (runs c) m) (hl : g.length = m) (h1 : ∀ x ∈ g, 1 ≤ x) : runs (grown c g) = mp (sm g) (runs c) := rn_mk k0 _ (grown_pr C hl h1)
theorem grown_asc (hl : g.length = m) (h1 : ∀ x ∈ g, 1 ≤ x) : ((List.range (m + 1)).map (sm g)).Pairwise (· < ·) := by
  rw [List.pairwise_map]
  refine List.Pairwise.imp_of_mem (fun {a b} ha hb h => ?_) List.pairwise_lt_range
  have a1 := List.mem_range.mp ha
  have b1 := List.mem_range.mp hb
  exact sm_ris h1 a b (by omega) (by omega) h
theorem grown_marks (C : CoreR (runs c) m) (hl : g.length = m) (h1 : ∀ x ∈ g, 1 ≤ x) : marks (grown c g) = (List.range (m + 1)).map (sm g) := by
  unfold marks
  rw [grown_runs C hl h1]
  refine asc_nat (mks_asc _) (grown_asc hl h1) fun x => ?_
  rw [mem_mks]
  constructor
  · intro h
    rcases h with e | h
    · exact List.mem_map.mpr ⟨0, List.mem_range.mpr (Nat.succ_pos _), by rw [sm_zero, e]⟩
    · obtain ⟨p, hp, e⟩ := List.mem_map.mp h
      obtain ⟨p', hp', e'⟩ := List.mem_map.mp hp
      refine List.mem_map.mpr ⟨p'.2, List.mem_range.mpr (Nat.lt_succ_of_le (core_le C p' hp')), ?_⟩
      rw [← e, ← e']
  · intro h
    obtain ⟨j, hj, e⟩ := List.mem_map.mp h
    rcases (C.all j).mp (Nat.le_of_lt_succ (List.mem_range.mp hj)) with z | ⟨d, hd⟩
    · rw [z, sm_zero] at e
      exact .inl e.symm
    · exact .inr (List.mem_map.mpr ⟨(d, sm g j), List.mem_map.mpr ⟨(d, j), hd, rfl⟩, e⟩)
theorem df_sums (g : List Nat) : df ((List.range (g.length + 1)).map (sm g)) = g := by
  unfold df
  apply List.ext_getElem
  · simp
  · intro i h1 h2
    have a1 : i < g.length := h2
    rw [List.getElem_map, List.getElem_range]
    rw [List.getD_eq_getElem?_getD, List.getD_eq_getElem?_getD, List.getElem?_map, List.getElem?_map, List.getElem?_range (by omega), List.getElem?_range (by omega)]
    show sm g (i + 1) - sm g i = g[i]
    rw [sm_succ, List.getD_eq_getElem?_getD, List.getElem?_eq_getElem a1]
    simp
theorem grown_gaps (C : CoreR (runs c) m) (hl : g.length = m) (h1 : ∀ x ∈ g, 1 ≤ x) : gaps (grown c g) = g := by
  unfold gaps
  rw [grown_marks C hl h1, ← hl, df_sums]
theorem grown_core (C : CoreR (runs c) m) (hl : g.length = m) (h1 : ∀ x ∈ g, 1 ≤ x) : core (grown c g) = c := by
  unfold core
  rw [grown_runs C hl h1, grown_marks C hl h1, mp_mp, mp_id, show mk k0 (runs c) = c from mk_rn k0 c]
  intro p hp
  refine ix_at (grown_asc hl h1) ?_
  rw [List.getElem?_map, List.getElem?_range (Nat.lt_succ_of_le (core_le C p hp))]
  rfl
theorem grown_len (C : CoreR (runs c) m) (hl : g.length = m) (B : Nat) (hB : ∀ x ∈ g, x ≤ B) : (grown c g).length ≤ B * c.length := by
  have q := mp_len (fun n => n ≤ g.length) (sm g) B (fun a b _ _ h => by
    have z := sm_lip B hB (b - a) a
    rw [show a + (b - a) = b by omega] at z
    exact z) (runs c) k0 (fun _ => Nat.zero_le _) (fun p hp => by rw [hl]; exact core_le C p hp) C.pr
  have e : (fun d : Nat => sm g (k0 d)) = k0 := by
    funext d
    exact sm_zero g
  have z := mk_rn k0 c
  unfold grown
  rw [e] at q
  unfold runs at q ⊢
  rw [z] at q
  exact q
theorem core_m (C : CoreR (runs c) m) : m ≤ c.length := by
  rcases (C.all m).mp (Nat.le_refl _) with e | ⟨d, h⟩
  · omega
  · have q := (mk_count k0 (runs c) C.pr d m h).1
    have z := mk_rn k0 c
    unfold runs at q
    rw [z] at q
    exact q
/-- said by a row that puts the sums of g to those of g' -/
theorem grown_said {g' row : List Nat} (C : CoreR (runs c) m) (hl : g.length = m) (h1 : ∀ x ∈ g, 1 ≤ x) (hr : ∀ i, i ≤ m → sm row (sm g i) = sm g' i) : sd row k0 (grown c g) = grown c g' := by
  unfold grown
  rw [sd_mk row k0 _ (grown_pr C hl h1), mp_mp]
  have e : (fun d : Nat => sm row (k0 d)) = k0 := by
    funext d
    exact sm_zero row
  rw [e, mp_congr _ (sm g') _ fun p hp => hr p.2 (core_le C p hp)]
theorem core_gaps_len (w : List Nat) : (gaps (core w)).length = (marks w).length - 1 := by
  have C := core_ok w
  have ha := mks_asc ((runs (core w)).map (·.2))
  unfold gaps df
  rw [List.length_map, List.length_range]
  have e : marks (core w) = List.range ((marks w).length - 1 + 1) := by
    refine asc_nat ha List.pairwise_lt_range fun x => ?_
    unfold marks
    rw [mem_mks, List.mem_range]
    constructor
    · intro h
      refine Nat.lt_succ_of_le ((C.all x).mpr ?_)
      rcases h with z | h
      · exact .inl z
      · obtain ⟨p, hp, e⟩ := List.mem_map.mp h
        exact .inr ⟨p.1, by rw [← e]; exact hp⟩
    · intro h
      rcases (C.all x).mp (Nat.le_of_lt_succ h) with z | ⟨d, h⟩
      · exact .inl z
      · exact .inr (List.mem_map.mpr ⟨_, h, rfl⟩)
  rw [e, List.length_range]
  omega
end
end Sc
/-! the mathematics: rows by a bound, the way of the gaps, the fewest sayings -/
namespace Sc
/-- a gap's numbers, each at most b + 1, as great as can be from the left -/
def blk (b : Nat) : Nat → Nat → List Nat
  | 0, _ => []
  | n + 1, more => (1 + min b more) :: blk b n (more - min b more)
theorem blk_succ (b n more : Nat) : blk b (n + 1) more = (1 + min b more) :: blk b n (more - min b more) := rfl
theorem blk_len (b n more : Nat) : (blk b n more).length = n := by
  induction n generalizing more with
  | zero => rfl
  | succ n ih => rw [blk_succ, List.length_cons, ih]
theorem blk_sum (b n more : Nat) (h : more ≤ n * b) : (blk b n more).sum = n + more := by
  induction n generalizing more with
  | zero =>
    have : more = 0 := by omega
    subst this
    rfl
  | succ n ih =>
    rw [Nat.succ_mul] at h
    rw [blk_succ, List.sum_cons, ih _ (by omega)]
    omega
theorem blk_le (b n more : Nat) : ∀ x ∈ blk b n more, x ≤ 1 + min b more := by
  induction n generalizing more with
  | zero => intro x hx; exact nomatch hx
  | succ n ih =>
    intro x hx
    rw [blk_succ] at hx
    rcases List.mem_cons.mp hx with e | hx
    · omega
    · have := ih _ x hx
      omega
theorem blk_ge (b n more : Nat) : ∀ x ∈ blk b n more, 1 ≤ x := by
  induction n generalizing more with
  | zero => intro x hx; exact nomatch hx
  | succ n ih =>
    intro x hx
    rw [blk_succ] at hx
    rcases List.mem_cons.mp hx with e | hx
    · omega
    · exact ih _ x hx
theorem blk_desc (b n more : Nat) : (blk b n more).Pairwise (fun x y => y ≤ x) := by
  induction n generalizing more with
  | zero => exact List.Pairwise.nil
  | succ n ih =>
    rw [blk_succ]
    refine List.pairwise_cons.mpr ⟨fun x hx => ?_, ih _⟩
    have := blk_le b n _ x hx
    omega
/-- strictly between 1 and b + 1 -/
def mid (b x : Nat) : Bool := decide (1 < x) && decide (x < b + 1)
theorem blk_mid (b n more : Nat) : ((blk b n more).filter (mid b)).length ≤ 1 := by
  induction n generalizing more with
  | zero => exact Nat.zero_le _
  | succ n ih =>
    rw [blk_succ]
    by_cases h : b ≤ more
    · have e : mid b (1 + min b more) = false := by
        unfold mid
        rw [Bool.and_eq_false_iff]
        right
        rw [decide_eq_false_iff_not]
        omega
      rw [List.filter_cons_of_neg (by rw [e]; exact Bool.false_ne_true)]
      exact ih _
    · have z : more - min b more = 0 := by omega
      rw [z]
      have e : (blk b n 0).filter (mid b) = [] := by
        rw [List.filter_eq_nil_iff]
        intro x hx q
        have h1 := blk_le b n 0 x hx
        unfold mid at q
        rw [Bool.and_eq_true, decide_eq_true_eq, decide_eq_true_eq] at q
        omega
      rw [List.filter_cons]
      split
      · rw [e]
        exact Nat.le_refl _
      · rw [e]
        exact Nat.zero_le _
/-- the row that lets gaps grow to goals, or as far as can be -/
def rowOf (b : Nat) (q : List (Nat × Nat)) : List Nat := q.flatMap fun p => blk (b - 1) p.1 (min p.2 (p.1 * b) - p.1)
/-- the gaps behind it -/
def nx (b : Nat) (q : List (Nat × Nat)) : List Nat := q.map fun p => min p.2 (p.1 * b)
theorem rowOf_cons (b : Nat) (p : Nat × Nat) (q : List (Nat × Nat)) : rowOf b (p :: q) = blk (b - 1) p.1 (min p.2 (p.1 * b) - p.1) ++ rowOf b q := rfl
theorem sm_nil (i : Nat) : sm [] i = 0 := by simp [sm]
theorem sm_cons (x : Nat) (g : List Nat) (i : Nat) : sm (x :: g) (i + 1) = x + sm g i := by simp [sm]
theorem sm_app (A B : List Nat) (j : Nat) : sm (A ++ B) (A.length + j) = A.sum + sm B j := by
  unfold sm
  rw [List.take_length_add_append, List.sum_append]
theorem piece_sum {b x y : Nat} (hb : 1 ≤ b) (h : x ≤ y) : (blk (b - 1) x (min y (x * b) - x)).sum = min y (x * b) := by
  obtain ⟨b, rfl⟩ : ∃ k, b = k + 1 := ⟨b - 1, by omega⟩
  have e : x * (b + 1) = x * b + x := Nat.mul_succ x b
  rw [blk_sum]
  · omega
  · rw [Nat.add_sub_cancel]
    omega
theorem row_sm {b : Nat} (hb : 1 ≤ b) : ∀ (q : List (Nat × Nat)) (i : Nat), (∀ p ∈ q, p.1 ≤ p.2) → i ≤ q.length → sm (rowOf b q) (sm (q.map (·.1)) i) = sm (nx b q) i
  | q, 0, _, _ => by rw [sm_zero, sm_zero, sm_zero]
  | [], i + 1, _, h => absurd h (by simp)
  | p :: q, i + 1, hq, h => by
    rw [rowOf_cons, List.map_cons, sm_cons]
    have e := row_sm hb q i (fun p hp => hq p (List.mem_cons_of_mem _ hp)) (by simpa using h)
    have l := blk_len (b - 1) p.1 (min p.2 (p.1 * b) - p.1)
    have a := sm_app (blk (b - 1) p.1 (min p.2 (p.1 * b) - p.1)) (rowOf b q) (sm (q.map (·.1)) i)
    rw [l] at a
    rw [a, e, piece_sum hb (hq p List.mem_cons_self)]
    show _ = sm (min p.2 (p.1 * b) :: nx b q) (i + 1)
    rw [sm_cons]
theorem row_part (b : Nat) : ∀ (q : List (Nat × Nat)) (i : Nat) (p : Nat × Nat), q[i]? = some p → ((rowOf b q).drop (sm (q.map (·.1)) i)).take p.1 = blk (b - 1) p.1 (min p.2 (p.1 * b) - p.1)
  | [], _, _, h => by simp at h
  | a :: q, 0, p, h => by
    have e : a = p := Option.some.inj h
    subst e
    rw [rowOf_cons, sm_zero, List.drop_zero, List.take_append_of_le_length (by rw [blk_len]; exact Nat.le_refl _), List.take_of_length_le (by rw [blk_len]; exact Nat.le_refl _)]
  | a :: q, i + 1, p, h => by
    rw [rowOf_cons, List.map_cons, sm_cons]
    have l := blk_len (b - 1) a.1 (min a.2 (a.1 * b) - a.1)
    have d : (blk (b - 1) a.1 (min a.2 (a.1 * b) - a.1) ++ rowOf b q).drop (a.1 + sm (q.map (·.1)) i) = (rowOf b q).drop (sm (q.map (·.1)) i) := by
      rw [← List.drop_drop, List.drop_left' l]
    rw [d]
    exact row_part b q i p h
theorem row_len (b : Nat) : ∀ q : List (Nat × Nat), (rowOf b q).length = (q.map (·.1)).sum
  | [] => rfl
  | p :: q => by
    rw [rowOf_cons, List.length_append, blk_len, row_len b q, List.map_cons, List.sum_cons]
theorem row_mem {b : Nat} (hb : 1 ≤ b) : ∀ (q : List (Nat × Nat)), ∀ x ∈ rowOf b q, 1 ≤ x ∧ x ≤ b
  | [], x, h => nomatch h
  | p :: q, x, h => by
    rw [rowOf_cons] at h
    rcases List.mem_append.mp h with h | h
    · have h1 := blk_le _ _ _ x h
      have h2 := blk_ge _ _ _ x h
      omega
    · exact row_mem hb q x h

/-! ### the way -/
/-- the gaps behind t sayings, from the pairs (gap, goal) -/
def att (b : Nat) (ps : List (Nat × Nat)) (t : Nat) : List Nat := ps.map fun p => min p.2 (p.1 * b ^ t)
theorem zip_map (f h : Nat × Nat → Nat) : ∀ ps : List (Nat × Nat), (ps.map f).zip (ps.map h) = ps.map fun p => (f p, h p)
  | [] => rfl
  | p :: ps => by rw [List.map_cons, List.map_cons, List.zip_cons_cons, zip_map f h ps]; rfl
theorem min_step (y x b : Nat) (hb : 1 ≤ b) : min y (min y x * b) = min y (x * b) := by
  by_cases h : y ≤ x
  · rw [Nat.min_eq_left h]
    have a1 : y ≤ y * b := Nat.le_mul_of_pos_right y hb
    have a2 : x ≤ x * b := Nat.le_mul_of_pos_right x hb
    omega
  · have e : min y x = x := by omega
    rw [e]
theorem att_len (b : Nat) (ps : List (Nat × Nat)) (t : Nat) : (att b ps t).length = ps.length := by simp [att]
theorem att_zip (b : Nat) (ps : List (Nat × Nat)) (t : Nat) : (att b ps t).zip (ps.map (·.2)) = ps.map fun p => (min p.2 (p.1 * b ^ t), p.2) := zip_map _ _ ps
theorem att_nx {b : Nat} (hb : 1 ≤ b) (ps : List (Nat × Nat)) (t : Nat) : nx b ((att b ps t).zip (ps.map (·.2))) = att b ps (t + 1) := by
  rw [att_zip]
  unfold nx att
  rw [List.map_map]
  refine List.map_congr_left fun p _ => ?_
  show min p.2 (min p.2 (p.1 * b ^ t) * b) = min p.2 (p.1 * b ^ (t + 1))
  rw [min_step _ _ _ hb, Nat.pow_succ, Nat.mul_assoc]
theorem att_zero (b : Nat) (ps : List (Nat × Nat)) (h : ∀ p ∈ ps, p.1 ≤ p.2) : att b ps 0 = ps.map (·.1) := by
  unfold att
  refine List.map_congr_left fun p hp => ?_
  have := h p hp
  rw [Nat.pow_zero, Nat.mul_one]
  omega
theorem att_end (b : Nat) (ps : List (Nat × Nat)) (t : Nat) : att b ps t = ps.map (·.2) ↔ ∀ p ∈ ps, p.2 ≤ p.1 * b ^ t := by
  unfold att
  rw [List.map_inj_left]
  constructor
  · intro h p hp
    have := h p hp
    omega
  · intro h p hp
    have := h p hp
    omega
theorem att_ge {b : Nat} (hb : 1 ≤ b) (ps : List (Nat × Nat)) (t : Nat) (h : ∀ p ∈ ps, 1 ≤ p.1 ∧ p.1 ≤ p.2) : ∀ x ∈ att b ps t, 1 ≤ x := by
  intro x hx
  obtain ⟨p, hp, e⟩ := List.mem_map.mp hx
  have h1 := h p hp
  have h2 : 1 ≤ p.1 * b ^ t := Nat.mul_pos h1.1 (Nat.pow_pos hb)
  omega
theorem att_le {b B : Nat} (ps : List (Nat × Nat)) (t : Nat) (h : ∀ p ∈ ps, p.2 ≤ B) : ∀ x ∈ att b ps t, x ≤ B := by
  intro x hx
  obtain ⟨p, hp, e⟩ := List.mem_map.mp hx
  have h1 := h p hp
  omega
/-- the fewest sayings -/
def Due (b : Nat) (ps : List (Nat × Nat)) (d : Nat) : Prop := (∀ p ∈ ps, p.2 ≤ p.1 * b ^ d) ∧ ∀ t, t < d → ∃ p ∈ ps, p.1 * b ^ t < p.2
theorem Due.one {b : Nat} {ps : List (Nat × Nat)} {d e : Nat} (h : Due b ps d) (h2 : Due b ps e) : d = e := by
  rcases Nat.lt_trichotomy d e with c | c | c
  · obtain ⟨p, hp, q⟩ := h2.2 d c
    have := h.1 p hp
    omega
  · exact c
  · obtain ⟨p, hp, q⟩ := h.2 e c
    have := h2.1 p hp
    omega
theorem pow_gt {b : Nat} (hb : 2 ≤ b) (t : Nat) : t < b ^ t := Nat.lt_pow_self hb
theorem due_lt {b x y t : Nat} (hb : 2 ≤ b) (hx : 1 ≤ x) (h : x * b ^ t < y) : t < y := by
  have h1 := pow_gt hb t
  have h2 : b ^ t ≤ x * b ^ t := Nat.le_mul_of_pos_left _ hx
  omega
/-- one gap's turns -/
def Trn (b x y d : Nat) : Prop := y ≤ x * b ^ d ∧ ∀ t, t < d → x * b ^ t < y
theorem Trn.mono {b x y d e : Nat} (hb : 1 ≤ b) (h : Trn b x y d) (l : d ≤ e) : y ≤ x * b ^ e := by
  have h1 : b ^ d ≤ b ^ e := Nat.pow_le_pow_right hb l
  exact Nat.le_trans h.1 (Nat.mul_le_mul_left x h1)
/-- the greatest of all turns, and 0 -/
theorem due_max {b : Nat} (hb : 1 ≤ b) {ps : List (Nat × Nat)} {ds : List Nat} (hl : ds.length = ps.length) (ht : ∀ (i : Nat) p d, ps[i]? = some p → ds[i]? = some d → Trn b p.1 p.2 d) {m : Nat} (hm : m ∈ 0 :: ds) (hg : ∀ d ∈ 0 :: ds, d ≤ m) : Due b ps m := by
  refine ⟨fun p hp => ?_, fun t h => ?_⟩
  · obtain ⟨i, hi, e⟩ := List.getElem_of_mem hp
    have hi2 : i < ds.length := by omega
    exact (ht i p ds[i] (by rw [← e]; exact List.getElem?_eq_getElem hi) (List.getElem?_eq_getElem hi2)).mono hb (hg _ (List.mem_cons_of_mem _ (List.getElem_mem hi2)))
  · rcases List.mem_cons.mp hm with e | hm
    · omega
    · obtain ⟨i, hi, e⟩ := List.getElem_of_mem hm
      have hi2 : i < ps.length := by omega
      refine ⟨ps[i], List.getElem_mem hi2, ?_⟩
      exact (ht i ps[i] m (List.getElem?_eq_getElem hi2) (by rw [← e]; exact List.getElem?_eq_getElem hi)).2 t h
end Sc
namespace Sc
open PySem PySem.Spec PyProof.Rows L2
/-- what the top has written: each def, the constants, the built-ins that are still so -/
structure Txt (K : PySem.W.Frag) (mg : Str → Option Value) : Prop where
  d_is_int : ∃ f fd, mg "is_int" = some (.ref f) ∧ Fun K "is_int" "is_int" s_is_int f fd
  d_is_from : ∃ f fd, mg "is_from" = some (.ref f) ∧ Fun K "is_from" "is_from" s_is_from f fd
  d_need_word : ∃ f fd, mg "need_word" = some (.ref f) ∧ Fun K "need_word" "need_word" s_need_word f fd
  d_runs_of : ∃ f fd, mg "runs_of" = some (.ref f) ∧ Fun K "runs_of" "runs_of" s_runs_of f fd
  d_marks_of : ∃ f fd, mg "marks_of" = some (.ref f) ∧ Fun K "marks_of" "marks_of" s_marks_of f fd
  d_word_of : ∃ f fd, mg "word_of" = some (.ref f) ∧ Fun K "word_of" "word_of" s_word_of f fd
  d_core_of : ∃ f fd, mg "core_of" = some (.ref f) ∧ Fun K "core_of" "core_of" s_core_of f fd
  d_gaps_of : ∃ f fd, mg "gaps_of" = some (.ref f) ∧ Fun K "gaps_of" "gaps_of" s_gaps_of f fd
  d_sums_of : ∃ f fd, mg "sums_of" = some (.ref f) ∧ Fun K "sums_of" "sums_of" s_sums_of f fd
  d_grown : ∃ f fd, mg "grown" = some (.ref f) ∧ Fun K "grown" "grown" s_grown f fd
  d_need_two : ∃ f fd, mg "need_two" = some (.ref f) ∧ Fun K "need_two" "need_two" s_need_two f fd
  d_grows_to : ∃ f fd, mg "grows_to" = some (.ref f) ∧ Fun K "grows_to" "grows_to" s_grows_to f fd
  d_is_saying : ∃ f fd, mg "is_saying" = some (.ref f) ∧ Fun K "is_saying" "is_saying" s_is_saying f fd
  d_need_bound : ∃ f fd, mg "need_bound" = some (.ref f) ∧ Fun K "need_bound" "need_bound" s_need_bound f fd
  d_turns_for : ∃ f fd, mg "turns_for" = some (.ref f) ∧ Fun K "turns_for" "turns_for" s_turns_for f fd
  d_fewest_sayings : ∃ f fd, mg "fewest_sayings" = some (.ref f) ∧ Fun K "fewest_sayings" "fewest_sayings" s_fewest_sayings f fd
  d_row_for : ∃ f fd, mg "row_for" = some (.ref f) ∧ Fun K "row_for" "row_for" s_row_for f fd
  d_sayings_to : ∃ f fd, mg "sayings_to" = some (.ref f) ∧ Fun K "sayings_to" "sayings_to" s_sayings_to f fd
  d_stops_on_the_way : ∃ f fd, mg "stops_on_the_way" = some (.ref f) ∧ Fun K "stops_on_the_way" "stops_on_the_way" s_stops_on_the_way f fd
  d__law_taken : ∃ f fd, mg "_law_taken" = some (.ref f) ∧ Fun K "_law_taken" "_law_taken" s__law_taken f fd
  d__law_alike : ∃ f fd, mg "_law_alike" = some (.ref f) ∧ Fun K "_law_alike" "_law_alike" s__law_alike f fd
  d__law_word : ∃ f fd, mg "_law_word" = some (.ref f) ∧ Fun K "_law_word" "_law_word" s__law_word f fd
  d__law_ends : ∃ f fd, mg "_law_ends" = some (.ref f) ∧ Fun K "_law_ends" "_law_ends" s__law_ends f fd
  d__law_marks : ∃ f fd, mg "_law_marks" = some (.ref f) ∧ Fun K "_law_marks" "_law_marks" s__law_marks f fd
  d__law_made : ∃ f fd, mg "_law_made" = some (.ref f) ∧ Fun K "_law_made" "_law_made" s__law_made f fd
  d__law_core : ∃ f fd, mg "_law_core" = some (.ref f) ∧ Fun K "_law_core" "_law_core" s__law_core f fd
  d__law_gaps : ∃ f fd, mg "_law_gaps" = some (.ref f) ∧ Fun K "_law_gaps" "_law_gaps" s__law_gaps f fd
  d__law_grown : ∃ f fd, mg "_law_grown" = some (.ref f) ∧ Fun K "_law_grown" "_law_grown" s__law_grown f fd
  d__law_row_said : ∃ f fd, mg "_law_row_said" = some (.ref f) ∧ Fun K "_law_row_said" "_law_row_said" s__law_row_said f fd
  d__law_power : ∃ f fd, mg "_law_power" = some (.ref f) ∧ Fun K "_law_power" "_law_power" s__law_power f fd
  d_law : ∃ f fd, mg "law" = some (.ref f) ∧ Fun K "law" "law" s_law f fd
  b_isinstance : mg "isinstance" = none
  b_len : mg "len" = none
  b_enumerate : mg "enumerate" = none
  b_sorted : mg "sorted" = none
  b_set : mg "set" = none
  b_range : mg "range" = none
  b_all : mg "all" = none
  b_zip : mg "zip" = none
  b_max : mg "max" = none
  b_min : mg "min" = none
  b_tuple : mg "tuple" = none
  b_sum : mg "sum" = none
  b_list : mg "list" = none
  b_int : mg "int" = none
  b_str : mg "str" = none
  b_bool : mg "bool" = none
  c_letters : ∃ t, mg "LETTERS" = some (.str (PySem.Str.ofString "abcd") t)
  c_word : ∃ t, mg "MOST_WORD" = some (.int 2000 t)
  c_bound : ∃ t, mg "MOST_BOUND" = some (.int 1000 t)
end Sc
namespace Sc
open PySem PySem.Spec PyProof.Rows L2
theorem same_upd {H : Hp} {p : Addr} {o : HO} (h : H p = none) : Same H (upd H p o) := fun b x e => by
  rw [upd_ne (ne_of_none e h)]
  exact e
theorem bT {p : Prop} [Decidable p] (h : p) : V.bl (decide p) = V.bl true := by rw [decide_eq_true h]
theorem bF {p : Prop} [Decidable p] (h : ¬ p) : V.bl (decide p) = V.bl false := by rw [decide_eq_false h]
theorem qT {Q : VK} {H : Hp} {p : Prop} [Decidable p] (h : p) (q : Q (.bl true) H) : Q (.bl (decide p)) H := by
  rw [decide_eq_true h]
  exact q
theorem qF {Q : VK} {H : Hp} {p : Prop} [Decidable p] (h : ¬ p) (q : Q (.bl false) H) : Q (.bl (decide p)) H := by
  rw [decide_eq_false h]
  exact q
theorem lineOk {n : Nat} (h : n ≤ 100000) : n ≤ sizeLine := by
  rw [sizeLine_eq]
  omega
section
variable {P : Program} {w : World} {K : PySem.W.Frag} {mg : Str → Option Value} {base : Heap}
/-! ### is_int, is_from -/
def spIsInt : Sp := fun vs H Q _ => ∃ n : Int, vs = [.int n] ∧ Q (.bl true) H
theorem ok_is_int (T : Txt K mg) {f : Addr} {fd : FuncData} (F : Fun K "is_int" "is_int" s_is_int f fd) : FnOk P w K mg base CX0 1 f fd ["value"] spIsInt := by
  refine F.ok sc_is_int (fun vs H Q E h => ?_) (fun cdv A outer s H vs Q E hr h => ?_)
  · obtain ⟨n, rfl, _⟩ := h
    rfl
  · obtain ⟨n, rfl, q⟩ := h
    refine ⟨_, pss_one (ps_ret (pe_and
      (pe_callB call_isi (by rfl) T.b_isinstance (by decide +kernel) (pa_cons (pv 0) (pa_cons (pe_bltn (v := .ty "int") (by rfl) T.b_int (by decide +kernel) rfl) pa_nil)))
      (pe_one (pe_not (pe_callB call_isi (by rfl) T.b_isinstance (by decide +kernel) (pa_cons (pv 0) (pa_cons (pe_bltn (v := .ty "bool") (by rfl) T.b_bool (by decide +kernel) rfl) pa_nil))))))), ?_⟩
    refine ⟨_, rfl, _, _, _, _, true, rfl, .ty _, .base (.int n), kit_ty (by decide +kernel), true, rfl, iteT ?_⟩
    exact ⟨_, rfl, _, _, _, _, false, rfl, .ty _, .base (.int n), kit_ty (by decide +kernel), false, rfl, q⟩
def spIsFrom : Sp := fun vs H Q _ => ∃ n a b : Int, vs = [.int n, .int a, .int b] ∧ a ≤ n ∧ n ≤ b ∧ Q (.bl true) H
theorem ok_is_from (T : Txt K mg) {f : Addr} {fd : FuncData} (F : Fun K "is_from" "is_from" s_is_from f fd) : FnOk P w K mg base CX0 2 f fd ["value", "least", "most"] spIsFrom := by
  obtain ⟨f1, fd1, g1, F1⟩ := T.d_is_int
  have G1 : FnOk P w K mg base CX0 1 f1 fd1 ["value"] spIsInt := ok_is_int T F1
  have b1 : Binds K fd1 ["value"] [] := F1.binds fun _ _ _ _ _ _ us hl => match us, hl with | [_], _ => rfl
  refine F.ok sc_is_from (fun vs H Q E h => ?_) (fun cdv A outer s H vs Q E hr h => ?_)
  · obtain ⟨n, a, b, rfl, _⟩ := h
    rfl
  · obtain ⟨n, a, b, rfl, h1, h2, q⟩ := h
    refine ⟨_, pss_one (ps_ret (pe_and
      (pe_call G1 hr (by rfl) g1 F1.kp b1 .nil pass0 (pa_cons (pv 0) pa_nil))
      (pe_one (pe_chain op_le op_le (pv 1) (pv 0) (pv 2))))), ?_⟩
    refine ⟨_, rfl, n, rfl, true, rfl, iteT ?_⟩
    refine ⟨_, rfl, _, rfl, _, _, rfl, rfl, true, bT h1, iteT ?_⟩
    exact ⟨_, rfl, _, _, rfl, rfl, qT h2 q⟩
/-! ### need_bound -/
def spNeedBound : Sp := fun vs H Q _ => ∃ b : Int, vs = [.int b] ∧ 2 ≤ b ∧ b ≤ 1000 ∧ Q .non H
theorem ok_need_bound (T : Txt K mg) {f : Addr} {fd : FuncData} (F : Fun K "need_bound" "need_bound" s_need_bound f fd) : FnOk P w K mg base CX0 3 f fd ["value"] spNeedBound := by
  obtain ⟨f1, fd1, g1, F1⟩ := T.d_is_from
  have G1 : FnOk P w K mg base CX0 2 f1 fd1 ["value", "least", "most"] spIsFrom := ok_is_from T F1
  have b1 : Binds K fd1 ["value", "least", "most"] [] := F1.binds fun _ _ _ _ _ _ us hl => match us, hl with | [_, _, _], _ => rfl
  obtain ⟨t3, c3⟩ := T.c_bound
  refine F.ok sc_need_bound (fun vs H Q E h => ?_) (fun cdv A outer s H vs Q E hr h => ?_)
  · obtain ⟨n, rfl, _⟩ := h
    rfl
  · obtain ⟨n, rfl, h1, h2, q⟩ := h
    refine ⟨_, pss_one (ps_if (pt_not (pt_val (pe_call G1 hr (by rfl) g1 F1.kp b1 .nil pass0 (pa_cons (pv 0) (pa_cons pe_int (pa_cons (pe_glob (v := .int 1000) (by rfl) c3 ⟨_, rfl⟩) pa_nil))))))
      (pss_one ps_never) pss_nil), ?_⟩
    exact ⟨_, rfl, n, 2, 1000, rfl, h1, h2, true, rfl, iteF q⟩
/-! ### need_word, need_two -/
def Lts (l : List Nat) : Prop := ∀ c ∈ l, c = 97 ∨ c = 98 ∨ c = 99 ∨ c = 100
def spNeedWord : Sp := fun vs H Q _ => ∃ l : List Nat, vs = [.str (S l)] ∧ l.length ≤ 2000 ∧ Lts l ∧ ∀ H', Same H H' → Q .non H'
theorem abcd_has {c : Nat} (h : c = 97 ∨ c = 98 ∨ c = 99 ∨ c = 100) : decide (c ∈ (PySem.Str.ofString "abcd").cps.toList) = true := by
  rcases h with e | e | e | e <;> (subst e; decide +kernel)
theorem ok_need_word (T : Txt K mg) {f : Addr} {fd : FuncData} (F : Fun K "need_word" "need_word" s_need_word f fd) : FnOk P w K mg base CX0 1 f fd ["value"] spNeedWord := by
  obtain ⟨t1, c1⟩ := T.c_letters
  obtain ⟨t2, c2⟩ := T.c_word
  refine F.ok sc_need_word (fun vs H Q E h => ?_) (fun cdv A outer s H vs Q E hr h => ?_)
  · obtain ⟨n, rfl, _⟩ := h
    rfl
  · obtain ⟨l, rfl, hl, hc, q⟩ := h
    refine ⟨_, pss_cons (ps_if (PW.pt (pw_or
        (pt_not (pt_val (pe_callB call_isi (by rfl) T.b_isinstance (by decide +kernel) (pa_cons (pv 0) (pa_cons (pe_bltn (v := .ty "str") (by rfl) T.b_str (by decide +kernel) rfl) pa_nil)))))
        (pw_or1 (pt_cmpR op_gt (pe_callB call_len_str (by rfl) T.b_len PySem.boot_len (pa_cons (pv 0) pa_nil)) (pe_glob (v := .int 2000) (by rfl) c2 ⟨_, rfl⟩) (nomark _)))))
        (pss_one ps_never) pss_nil)
      (pss_one (ps_for PassesOwn.never rfl (pi_enumS (by rfl) T.b_enumerate (pa_cons (pv 0) pa_nil))
        (pg_tup rfl (pgs_cons (pg_name (i := 1) sc_need_word.nd rfl (.inl rfl)) (pgs_cons (pg_name (i := 2) sc_need_word.nd rfl (.inl rfl)) pgs_nil)))
        (pss_one (ps_if (pt_cmpR op_notIn_sign (pv 2) (pe_glob (v := .str (PySem.Str.ofString "abcd")) (by rfl) c1 ⟨_, rfl⟩) (by rfl)) (pss_one ps_never) pss_nil)))), ?_⟩
    refine ⟨_, rfl, _, _, _, _, true, rfl, .ty _, .base (.str _), kit_ty (by decide +kernel), true, rfl, iteF ?_⟩
    have hlen : (S l).length = l.length := S_len l
    refine ⟨_, rfl, _, rfl, by rw [hlen, sizeLine_eq]; omega, _, _, rfl, rfl, false, bF (by rw [hlen]; omega), iteF ?_⟩
    refine ⟨_, rfl, _, rfl, for_it walk_enumS (fun i σ H' => ∃ y1 y2, σ = [some (.str (S l)), y1, y2] ∧ Same H H') ⟨none, none, rfl, Same.refl H⟩ (fun _ _ _ _ _ => trivial) (fun i x σ H1 H2 hi hP hY => ?_) (fun σ H1 hP => ?_)⟩
    · obtain ⟨y1, y2, rfl, sm⟩ := hP
      obtain ⟨T2, c, rfl, nT, rfl, hx⟩ := hY
      have hcl : c = 97 ∨ c = 98 ∨ c = 99 ∨ c = 100 := hc c (by
        have := Array.mem_of_getElem? hx
        simpa [S] using this)
      refine ⟨T2, _, rfl, .inl (.inl upd_same), rfl, _, _, rfl, _, _, rfl, rfl, ?_⟩
      refine ⟨_, rfl, c, _, rfl, rfl, false, ?_, iteF ?_⟩
      · rw [abcd_has hcl]
        rfl
      · exact ⟨_, _, rfl, sm.trans (same_upd nT)⟩
    · obtain ⟨y1, y2, rfl, sm⟩ := hP
      exact q H1 sm
def spNeedTwo : Sp := fun vs H Q _ => ∃ l m : List Nat, vs = [.str (S l), .str (S m)] ∧ l.length ≤ 2000 ∧ Lts l ∧ m.length ≤ 2000 ∧ Lts m ∧ ∀ H', Same H H' → Q .non H'
theorem ok_need_two (T : Txt K mg) {f : Addr} {fd : FuncData} (F : Fun K "need_two" "need_two" s_need_two f fd) : FnOk P w K mg base CX0 2 f fd ["one", "other"] spNeedTwo := by
  obtain ⟨f1, fd1, g1, F1⟩ := T.d_need_word
  have G1 : FnOk P w K mg base CX0 1 f1 fd1 ["value"] spNeedWord := ok_need_word T F1
  have b1 : Binds K fd1 ["value"] [] := F1.binds fun _ _ _ _ _ _ us hl => match us, hl with | [_], _ => rfl
  refine F.ok sc_need_two (fun vs H Q E h => ?_) (fun cdv A outer s H vs Q E hr h => ?_)
  · obtain ⟨l, m, rfl, _⟩ := h
    rfl
  · obtain ⟨l, m, rfl, h1, h2, h3, h4, q⟩ := h
    refine ⟨_, pss_cons (ps_expr (pe_call G1 hr (by rfl) g1 F1.kp b1 .nil pass0 (pa_cons (pv 0) pa_nil)))
      (pss_one (ps_expr (pe_call G1 hr (by rfl) g1 F1.kp b1 .nil pass0 (pa_cons (pv 1) pa_nil)))), ?_⟩
    exact ⟨_, rfl, l, rfl, h1, h2, fun H1 e1 => ⟨_, rfl, m, rfl, h3, h4, fun H2 e2 => q H2 (e1.trans e2)⟩⟩
end
end Sc
namespace Sc
open PySem PySem.Spec PyProof.Rows L2
/-! ### lists of numbers as values -/
def zv (l : List Nat) : List V := (zs l).map V.int
theorem zv_len (l : List Nat) : (zv l).length = l.length := by unfold zv; rw [List.length_map, zs_len]
theorem zv_get {l : List Nat} {i n : Nat} (h : l[i]? = some n) : (zv l)[i]? = some (.int (n : Int)) := by
  unfold zv zs
  rw [List.map_map, List.getElem?_map, h]
  rfl
theorem zv_at {l : List Nat} {i : Nat} {x : V} (h : (zv l)[i]? = some x) : ∃ n, l[i]? = some n ∧ x = .int (n : Int) := by
  unfold zv zs at h
  rw [List.map_map, List.getElem?_map] at h
  obtain ⟨n, h1, h2⟩ := Option.map_eq_some_iff.mp h
  exact ⟨n, h1, h2.symm⟩
theorem zv_snoc (l : List Nat) (n : Nat) : zv l ++ [.int (n : Int)] = zv (l ++ [n]) := by simp [zv, zs]
theorem zv_take (l : List Nat) (i n : Nat) (h : l[i]? = some n) : zv (l.take i) ++ [.int (n : Int)] = zv (l.take (i + 1)) := by
  rw [zv_snoc, List.take_add_one, h]
  rfl
/-! ### == of lists of ints -/
def dI (l : List Int) : PyData := .list (l.map PyData.int)
theorem dI_all {K : PySem.W.Frag} {H : Hp} : ∀ l : List Int, DpAll K H (l.map V.int) (l.map PyData.int)
  | [] => .nil
  | a :: r => .cons (.int a) (dI_all r)
theorem dI_dp {K : PySem.W.Frag} {H : Hp} {a : Addr} {l : List Int} (h : SqL K H a (l.map V.int)) : Dp K H (.ref a) (dI l) := .lst h (dI_all l)
theorem dI_lay : ∀ l : List Int, PyData.canLayAll0 (l.map PyData.int) = true
  | [] => by simp [PyData.canLayAll0]
  | a :: r => by simp [PyData.canLayAll0, PyData.canLay0, dI_lay r]
theorem dI_dep : ∀ l : List Int, PyData.depthAll (l.map PyData.int) = 0
  | [] => by simp [PyData.depthAll]
  | a :: r => by simp [PyData.depthAll, PyData.depth, dI_dep r]
theorem dI_ok (l : List Int) : SeqAt.shaped (dI l) = true := by
  unfold SeqAt.shaped dI
  simp [PyData.canLay0, PyData.depth, dI_lay, dI_dep]
theorem dI_eqA : ∀ a b : List Int, PyData.eqvAll (a.map PyData.int) (b.map PyData.int) = decide (a = b)
  | [], [] => by simp [PyData.eqvAll]
  | [], b :: s => by simp [PyData.eqvAll]
  | a :: r, [] => by simp [PyData.eqvAll]
  | a :: r, b :: s => by
    rw [List.map_cons, List.map_cons]
    unfold PyData.eqvAll
    rw [dI_eqA r s]
    unfold PyData.eqv
    by_cases h : a = b
    · by_cases h2 : r = s
      · simp [h, h2]
      · simp [h, h2]
    · simp [h]
theorem dI_eq (a b : List Int) : PyData.eqv (dI a) (dI b) = decide (a = b) := by
  unfold dI PyData.eqv
  exact dI_eqA a b
theorem zs_inj {a b : List Nat} : zs a = zs b ↔ a = b := by
  constructor
  · intro h
    unfold zs at h
    exact (List.map_inj_right (fun _ _ e => by omega)).mp h
  · intro h
    rw [h]
/-! ### how often a letter has come: a dict -/
def KnD (H : Hp) (d : Addr) (N : Nat) (k : Kn) : Prop := ∃ kvs : List (Key × V), H d = some (.dK kvs) ∧ kvs.length ≤ N ∧ ∀ c : Nat, (valV kvs (Sum.inr (S [c]))).getD (.int 0) = .int ((k c : Nat) : Int)
theorem KnD.new {H : Hp} {d : Addr} (h : H d = some (.dK [])) : KnD H d 0 k0 := ⟨[], h, Nat.le_refl _, fun _ => rfl⟩
theorem KnD.keep {H H' : Hp} {d : Addr} {N : Nat} {k : Kn} (h : KnD H d N k) (e : H' d = H d) : KnD H' d N k := by
  obtain ⟨kvs, h1, h2, h3⟩ := h
  exact ⟨kvs, by rw [e]; exact h1, h2, h3⟩
theorem KnD.isD {H : Hp} {d : Addr} {N : Nat} {k : Kn} (h : KnD H d N k) : IsD H d := by
  obtain ⟨kvs, h1, _⟩ := h
  exact .inl ⟨kvs, .inl h1⟩
theorem KnD.get {H : Hp} {d : Addr} {N : Nat} {k : Kn} (h : KnD H d N k) (c : Nat) : ∃ o, DGet H d (.str (S [c])) o ∧ o.getD (.int 0) = .int ((k c : Nat) : Int) := by
  obtain ⟨kvs, h1, _, h3⟩ := h
  exact ⟨_, DGet.k (k := Sum.inr (S [c])) h1, h3 c⟩
theorem KnD.put {H : Hp} {d : Addr} {N : Nat} {k : Kn} (h : KnD H d N k) (hN : N < 100000) (c n : Nat) {z : Int} (hz : z = (n : Int)) : ∃ kvs', DPut H d (.str (S [c])) (.int z) (upd H d (.dK kvs')) ∧ KnD (upd H d (.dK kvs')) d (N + 1) (put k c n) ∧ DGet (upd H d (.dK kvs')) d (.str (S [c])) (some (.int (n : Int))) := by
  subst hz
  obtain ⟨kvs, h1, h2, h3⟩ := h
  refine ⟨putK kvs (Sum.inr (S [c])) (.int (n : Int)), DPut.k (k := Sum.inr (S [c])) h1 (by rw [sizeLine_eq]; omega), ⟨_, upd_same, ?_, fun e => ?_⟩, ?_⟩
  · have := length_putK kvs (Sum.inr (S [c])) (.int (n : Int))
    omega
  · rw [valV_put]
    by_cases z : e = c
    · subst z
      rw [if_pos rfl, put_same]
      rfl
    · rw [if_neg (fun q => z (by
        have q2 := Sum.inr.inj q
        have q3 := S_inj q2
        injection q3)), put_ne _ _ z]
      exact h3 e
  · have g := DGet.k (k := Sum.inr (S [c])) (H := upd H d (.dK (putK kvs (Sum.inr (S [c])) (.int (n : Int))))) (a := d) upd_same
    rw [valV_put, if_pos rfl] at g
    exact g
theorem KnD.ne {H : Hp} {d p : Addr} {N : Nat} {k : Kn} {xs : List V} (h : KnD H d N k) (hp : H p = some (.lst xs)) : p ≠ d := by
  obtain ⟨kvs, h1, _⟩ := h
  exact ne_of hp h1 (by intro z; cases z)
theorem KnD.notup {H : Hp} {d : Addr} {N : Nat} {k : Kn} (h : KnD H d N k) : ∀ ts, H d ≠ some (.tup ts) := by
  obtain ⟨kvs, h1, _⟩ := h
  intro ts e
  rw [h1] at e
  cases e
theorem KnD.some {H : Hp} {d : Addr} {N : Nat} {k : Kn} (h : KnD H d N k) : ∃ o, H d = some o := by
  obtain ⟨kvs, h1, _⟩ := h
  exact ⟨_, h1⟩
/-- a store to what H does not hold -/
theorem same_put {H H' : Hp} (h : Same H H') {d : Addr} (hd : H d = none) (o : HO) : Same H (upd H' d o) := fun b u e => by
  rw [upd_ne (ne_of_none e hd)]
  exact h b u e
/-! ### a list of runs: new pairs (letter, count) -/
def TupR (H : Hp) (x : V) (r : Nat × Nat) : Prop := ∃ t, x = V.ref t ∧ H t = some (.tup [.str (S [r.1]), .int ((r.2 : Nat) : Int)])
structure RunsL (H : Hp) (xs : List V) (F : List (Nat × Nat)) : Prop where
  len : xs.length = F.length
  at_ : ∀ (i : Nat) x r, xs[i]? = some x → F[i]? = some r → TupR H x r
/-- tuples stay -/
def TupS (H H' : Hp) : Prop := ∀ b ts, H b = some (.tup ts) → H' b = some (.tup ts)
theorem same_tups {H H' : Hp} (h : Same H H') : TupS H H' := fun b ts e => h b _ e
theorem TupS.trans {H H1 H2 : Hp} (a : TupS H H1) (b : TupS H1 H2) : TupS H H2 := fun c ts e => b c ts (a c ts e)
theorem tups_upd {H : Hp} {p : Addr} {o : HO} (h : ∀ ts, H p ≠ some (.tup ts)) : TupS H (upd H p o) := fun b ts e => by
  by_cases z : b = p
  · subst z
    exact absurd e (h ts)
  · rw [upd_ne z]
    exact e
theorem RunsL.mono {H H' : Hp} {xs : List V} {F : List (Nat × Nat)} (R : RunsL H xs F) (h : TupS H H') : RunsL H' xs F :=
  ⟨R.len, fun i x r h1 h2 => let ⟨t, e, q⟩ := R.at_ i x r h1 h2; ⟨t, e, h _ _ q⟩⟩
theorem RunsL.nil {H : Hp} : RunsL H [] [] := ⟨rfl, fun i x r h => by simp at h⟩
theorem RunsL.snoc {H : Hp} {xs : List V} {F : List (Nat × Nat)} {x : V} {r : Nat × Nat} (R : RunsL H xs F) (h : TupR H x r) : RunsL H (xs ++ [x]) (F ++ [r]) := by
  refine ⟨by simp [R.len], fun i y s h1 h2 => ?_⟩
  by_cases hi : i < xs.length
  · rw [List.getElem?_append_left hi] at h1
    rw [List.getElem?_append_left (by rw [← R.len]; exact hi)] at h2
    exact R.at_ i y s h1 h2
  · rw [List.getElem?_append_right (by omega)] at h1
    rw [List.getElem?_append_right (by rw [← R.len]; omega), ← R.len] at h2
    have hz : i - xs.length = 0 := by
      have := (List.getElem?_eq_some_iff.mp h1).1
      simp at this
      omega
    rw [hz] at h1 h2
    have e1 : x = y := Option.some.inj h1
    have e2 : r = s := Option.some.inj h2
    rw [← e1, ← e2]
    exact h
theorem RunsL.last {H : Hp} {xs : List V} {F : List (Nat × Nat)} {r : Nat × Nat} (R : RunsL H xs (F ++ [r])) : ∃ ys x, xs = ys ++ [x] ∧ RunsL H ys F ∧ TupR H x r := by
  have hl := R.len
  rw [List.length_append, List.length_singleton] at hl
  have hne : xs ≠ [] := fun z => by rw [z] at hl; simp at hl
  refine ⟨xs.dropLast, xs.getLast hne, (List.dropLast_concat_getLast hne).symm, ⟨by rw [List.length_dropLast]; omega, fun i x s h1 h2 => ?_⟩, ?_⟩
  · have hi : i < F.length := (List.getElem?_eq_some_iff.mp h2).1
    rw [List.getElem?_dropLast] at h1
    split at h1
    · exact R.at_ i x s h1 (by rw [List.getElem?_append_left hi]; exact h2)
    · cases h1
  · refine R.at_ F.length _ r ?_ ?_
    · have : xs.length - 1 = F.length := by omega
      rw [← this, ← List.getLast?_eq_getElem?, List.getLast?_eq_getLast hne]
    · rw [List.getElem?_append_right (Nat.le_refl _), Nat.sub_self]
      rfl
def Cps (F : List (Nat × Nat)) : Prop := ∀ r ∈ F, r.1 < 1114112
def dR (r : Nat × Nat) : PyData := .tuple [.str (S [r.1]), .int ((r.2 : Nat) : Int)]
theorem RunsL.all {K : PySem.W.Frag} {H : Hp} : ∀ {xs : List V} {F : List (Nat × Nat)}, RunsL H xs F → DpAll K H xs (F.map dR)
  | [], [], _ => .nil
  | [], _ :: _, R => absurd R.len (by simp)
  | _ :: _, [], R => absurd R.len (by simp)
  | x :: xs, r :: F, R => by
    obtain ⟨t, e, h⟩ := R.at_ 0 x r rfl rfl
    refine .cons ?_ (RunsL.all (xs := xs) (F := F) ⟨by simpa using R.len, fun i y s h1 h2 => R.at_ (i + 1) y s h1 h2⟩)
    rw [e]
    exact .tup (.inl (.inl h)) (.cons (.str _) (.cons (.int _) .nil))
theorem dR_lay : ∀ F : List (Nat × Nat), Cps F → PyData.canLayAll0 (F.map dR) = true
  | [], _ => by simp [PyData.canLayAll0]
  | r :: F, h => by
    have h1 := h r List.mem_cons_self
    have q := dR_lay F fun x hx => h x (List.mem_cons_of_mem _ hx)
    simp [PyData.canLayAll0, PyData.canLay0, dR, q, PyData.strOk, S, h1]
theorem dR_dep : ∀ F : List (Nat × Nat), PyData.depthAll (F.map dR) ≤ 1
  | [] => by simp [PyData.depthAll]
  | r :: F => by
    have q := dR_dep F
    simp only [List.map_cons, PyData.depthAll, PyData.depth, dR]
    omega
theorem dR_ok (F : List (Nat × Nat)) (h : Cps F) : SeqAt.shaped (.list (F.map dR)) = true := by
  have q := dR_dep F
  have e1 : (PyData.list (F.map dR)).depth = PyData.depthAll (F.map dR) + 1 := by simp [PyData.depth]
  have e2 : (PyData.list (F.map dR)).canLay0 = true := by simp [PyData.canLay0, dR_lay F h]
  have e3 : decide ((PyData.list (F.map dR)).depth ≤ 64) = true := decide_eq_true (by rw [e1]; omega)
  unfold SeqAt.shaped
  rw [e2, e3]
  rfl
theorem dR_nil : ∀ F : List (Nat × Nat), PyData.eqv (.list (F.map dR)) (.list []) = F.isEmpty
  | [] => by simp [PyData.eqv, PyData.eqvAll]
  | r :: F => by simp [PyData.eqv, PyData.eqvAll]
end Sc
namespace Sc
open PySem PySem.Spec PyProof.Rows L2
/-! ### runs_of -/
/-- what is found so far, the counts so far, what is left of the word -/
def Glue (F : List (Nat × Nat)) (k : Kn) (rest : List Nat) (R : List (Nat × Nat)) : Prop :=
  (∃ F0 c n r, F = F0 ++ [(c, n)] ∧ rest = c :: r ∧ R = F0 ++ rn k rest) ∨ (R = F ++ rn k rest ∧ ∀ F0 c n r, F = F0 ++ [(c, n)] → rest ≠ c :: r)
theorem glue_start (w : List Nat) : Glue [] k0 w (runs w) := .inr ⟨rfl, fun F0 c n r h => by simp at h⟩
theorem glue_end {F : List (Nat × Nat)} {k : Kn} {R : List (Nat × Nat)} (h : Glue F k [] R) : R = F := by
  rcases h with ⟨F0, c, n, r, _, h, _⟩ | ⟨h, _⟩
  · exact nomatch h
  · rw [h]
    exact List.append_nil F
theorem glue_next {F0 R : List (Nat × Nat)} {k : Kn} {c : Nat} {r : List Nat} (h : R = F0 ++ rn k (c :: r)) : Glue (F0 ++ [(c, k c + 1)]) (put k c (k c + 1)) r R := by
  cases r with
  | nil => exact .inr ⟨by rw [h]; simp [rn], fun F1 d n s _ => by simp⟩
  | cons d s =>
    rw [rn_two] at h
    by_cases e : c = d
    · subst e
      rw [if_pos rfl] at h
      exact .inl ⟨F0, c, _, s, rfl, rfl, h⟩
    · rw [if_neg e] at h
      refine .inr ⟨by rw [h, List.append_assoc]; rfl, fun F1 d' n s' hF hr => ?_⟩
      have q := List.append_inj' hF rfl
      have q2 := q.2
      injection q2 with q3 _
      injection q3 with q4 _
      injection hr with hr _
      exact e (q4.trans hr.symm)
section
variable {P : Program} {w : World} {K : PySem.W.Frag} {mg : Str → Option Value} {base : Heap}
/-- a new list of new pairs stands at p -/
def RunsAt (H : Hp) (p : Addr) (R : List (Nat × Nat)) : Prop := ∃ xs, H p = some (.lst xs) ∧ RunsL H xs R
def Low (l : List Nat) : Prop := ∀ c ∈ l, c < 1114112
theorem Lts.low {l : List Nat} (h : Lts l) : Low l := fun c hc => by
  rcases h c hc with e | e | e | e <;> omega
theorem mem_rest {l : List Nat} {i c : Nat} (h : l[i]? = some c) : l.drop i = c :: l.drop (i + 1) := by
  obtain ⟨h1, h2⟩ := List.getElem?_eq_some_iff.mp h
  rw [List.drop_eq_getElem_cons h1, h2]
def spRuns : Sp := fun vs H Q _ => ∃ l : List Nat, vs = [.str (S l)] ∧ l.length ≤ 2000 ∧ Low l ∧ ∀ H' p, Same H H' → H p = none → RunsAt H' p (runs l) → Q (.ref p) H'
theorem ok_runs_of (T : Txt K mg) {f : Addr} {fd : FuncData} (F : Fun K "runs_of" "runs_of" s_runs_of f fd) : FnOk P w K mg base CX0 1 f fd ["word"] spRuns := by
  refine F.ok sc_runs_of (fun vs H Q E h => ?_) (fun cdv A outer s H vs Q E hr h => ?_)
  · obtain ⟨n, rfl, _⟩ := h
    rfl
  · obtain ⟨l, rfl, hl, hc, q⟩ := h
    have nd := sc_runs_of.nd
    refine ⟨_, pss_cons (ps_par (i := 1) (j := 2) rfl nd rfl rfl (by decide) rfl rfl (pa_cons pe_dnewK (pa_cons (pe_lst pa_nil) pa_nil)) (by rfl))
      (pss_cons (ps_for PassesOwn.never rfl (pi_str (pv 0)) (pg_name (i := 3) nd rfl (.inl rfl))
        (pss_cons (ps_dput (hu_of hr) (pv 1) (pv 3) (pe_op op_add (pe_dget2 (hu_of hr) (pv 1) (pv 3) pe_int ⟨rfl, rfl, rfl, rfl⟩) pe_int) rfl)
        (pss_one (ps_if (PW.pt (pw_and (pt_cmpR (op_neD hr.units) (pv 2) (pe_lst pa_nil) (nomark _))
            (pw_and1 (pt_cmpR op_eq (pe_ix ix_tup (pe_ix ix_list (pv 2) (pe_un un_neg pe_int) (fun _ _ => rfl)) pe_int (fun _ _ => rfl)) (pv 3) (nomark _)))))
          (pss_one (ps_asg (pe_tup (pa_cons (pv 3) (pa_cons (pe_dget (hu_of hr) (pv 1) (pv 3) (fun _ _ => rfl)) pa_nil))) (pg_sub (pv 2) (pe_un un_neg pe_int) set_list)))
          (pss_one (ps_expr (pe_bm PySem.F.plainAttrs_list PySem.F.slot_list_append PySem.F.type_list_append mt_append (pv 2)
            (pa_cons (pe_tup (pa_cons (pv 3) (pa_cons (pe_dget (hu_of hr) (pv 1) (pv 3) (fun _ _ => rfl)) pa_nil))) pa_nil))))))))
      (pss_one (ps_ret (pv 2)))), ?_⟩
    intro d hd
    refine ⟨Nat.zero_le _, fun p hp' => ?_⟩
    have hp : H p = none := by
      by_cases z : p = d
      · rw [z, upd_same] at hp'
        cases hp'
      · rw [upd_ne z] at hp'
        exact hp'
    have hpd : p ≠ d := fun z => by
      rw [z, upd_same] at hp'
      cases hp'
    have hsz : (S l).cps.size = l.length := S_len l
    refine ⟨_, _, rfl, _, rfl, _, rfl, for_it walk_str (fun i σ H' => ∃ y F k, σ = [some (.str (S l)), some (.ref d), some (.ref p), y] ∧ Same H H' ∧ KnD H' d i k ∧ RunsAt H' p F ∧ Cps F ∧ F.length ≤ i ∧ Glue F k (l.drop i) (runs l)) ?_ (fun _ _ _ _ _ => trivial) (fun i x σ H1 H2 hi hP hY => ?_) (fun σ H1 hP => ?_)⟩
    · refine ⟨none, [], k0, rfl, same_put (same_put (Same.refl H) hd _) hp _, ?_, ⟨[], upd_same, RunsL.nil⟩, fun r hr => (nomatch hr), Nat.le_refl _, glue_start l⟩
      exact (KnD.new (d := d) upd_same).keep (upd_ne (Ne.symm hpd))
    · obtain ⟨y, F, k, rfl, sm, kd, ⟨xs, hx, R⟩, cp, fl, gl⟩ := hP
      obtain ⟨rfl, c, hcx, rfl⟩ := hY
      rw [hsz] at hi
      have hli : l[i]? = some c := by simpa [S] using hcx
      have hcl : c < 1114112 := hc c (List.mem_of_getElem? hli)
      rw [mem_rest hli] at gl
      obtain ⟨o, g1, g2⟩ := kd.get c
      obtain ⟨kvs, e1, e2, e3⟩ := kd.put (by omega) c (k c + 1) (z := ((k c : Nat) : Int) + 1) (by omega)
      refine ⟨_, rfl, d, rfl, kd.isD, _, rfl, o, g1, ((k c : Nat) : Int), 1, g2, rfl, _, rfl, _, rfl, d, _, rfl, e1, ?_⟩
      have hx2 : upd H2 d (.dK kvs) p = some (.lst xs) := by rw [upd_ne hpd]; exact hx
      have R2 : RunsL (upd H2 d (.dK kvs)) xs F := R.mono (tups_upd kd.notup)
      have sm2 : Same H (upd H2 d (.dK kvs)) := same_put sm hd _
      generalize upd H2 d (.dK kvs) = H3 at e2 e3 hx2 R2 sm2
      refine ⟨_, rfl, Nat.zero_le _, fun e he => ?_⟩
      have k4 : KnD (upd H3 e (.lst [])) d (i + 1) (put k c (k c + 1)) := e2.keep (upd_ne (by
        obtain ⟨o', h'⟩ := e2.some
        exact ne_of_none h' he))
      have e4 : DGet (upd H3 e (.lst [])) d (.str (S [c])) (some (.int ((k c + 1 : Nat) : Int))) := by
        obtain ⟨kvs', h', _⟩ := e2
        rcases e3 with ⟨kv, kk, r1, r2, r3⟩ | ⟨kv, kk, b, r1, _⟩
        · rcases r1 with r1 | ⟨_, r1⟩
          · exact .inl ⟨kv, kk, .inl (by rw [upd_ne (ne_of_none h' he)]; exact r1), r2, r3⟩
          · rw [h'] at r1
            cases r1
        · rcases r1 with r1 | ⟨_, r1⟩ <;> (rw [h'] at r1; cases r1)
      have hx4 : upd H3 e (.lst []) p = some (.lst xs) := by rw [upd_ne (ne_of_none hx2 he)]; exact hx2
      have sm4 : Same H (upd H3 e (.lst [])) := sm2.trans (same_upd he)
      have R4 : RunsL (upd H3 e (.lst [])) xs F := R2.mono (same_tups (same_upd he))
      have hee : upd H3 e (.lst []) e = some (.lst []) := upd_same
      generalize upd H3 e (.lst []) = H4 at k4 e4 hx4 sm4 R4 hee
      refine ⟨.list (F.map dR), .list [], .lst (.inl (.inl hx4)) R4.all, .lst (.inl (.inl hee)) .nil, dR_ok F cp, rfl, _, rfl, ?_⟩
      rw [dR_nil F]
      -- what is done at the end of a turn with an item put behind
      have fin : ∀ (H5 : Hp) (t : Addr) (F0 : List (Nat × Nat)) (ys : List V), H4 t = none → RunsL H4 ys F0 → (runs l = F0 ++ rn k (c :: l.drop (i + 1))) → F0.length ≤ i → Cps F0 →
          H5 = upd (upd H4 t (.tup [.str (S [c]), .int ((k c + 1 : Nat) : Int)])) p (.lst (ys ++ [.ref t])) →
          ∃ y F k, [some (V.str (S l)), some (.ref d), some (.ref p), some (V.str (S [c]))] = [some (.str (S l)), some (.ref d), some (.ref p), y] ∧ Same H H5 ∧ KnD H5 d (i + 1) k ∧ RunsAt H5 p F ∧ Cps F ∧ F.length ≤ i + 1 ∧ Glue F k (l.drop (i + 1)) (runs l) := by
        intro H5 t F0 ys nt R0 hr hF0 c0 e5
        subst e5
        have htp : t ≠ p := fun z => by rw [z, hx4] at nt; cases nt
        have htd : t ≠ d := fun z => by
          obtain ⟨o', h'⟩ := k4.some
          rw [z, h'] at nt
          cases nt
        have nt5 : upd (upd H4 t (.tup [.str (S [c]), .int ((k c + 1 : Nat) : Int)])) p (.lst (ys ++ [.ref t])) t = some (.tup [.str (S [c]), .int ((k c + 1 : Nat) : Int)]) := by
          rw [upd_ne htp, upd_same]
        refine ⟨_, F0 ++ [(c, k c + 1)], put k c (k c + 1), rfl, same_put (sm4.trans (same_upd nt)) hp _, k4.keep (by rw [upd_ne (Ne.symm hpd), upd_ne (Ne.symm htd)]), ⟨_, upd_same, RunsL.snoc (R0.mono ?_) ⟨t, rfl, nt5⟩⟩, ?_, by simp; omega, glue_next hr⟩
        · refine TupS.trans (same_tups (same_upd nt)) (tups_upd fun ts z => ?_)
          rw [upd_ne (Ne.symm htp), hx4] at z
          cases z
        · intro r hr
          rcases List.mem_append.mp hr with h | h
          · exact c0 r h
          · rw [List.mem_singleton.mp h]
            exact hcl
      have hLine : ([V.str (S [c]), V.int ((k c + 1 : Nat) : Int)] : List V).length ≤ sizeLine := by
        show 2 ≤ sizeLine
        decide
      rcases gl with ⟨F0, c0, n0, r0, rfl, hr0, hR⟩ | ⟨hR, hno⟩
      · -- the last run goes on
        injection hr0 with hc0 _
        subst hc0
        obtain ⟨ys, z, rfl, R0, t0, rfl, ht0⟩ := R4.last
        have hnz : (F0 ++ [(c, n0)]).isEmpty = false := by cases F0 <;> rfl
        rw [hnz]
        refine iteT ⟨_, rfl, 1, rfl, p, _, -1, _, rfl, rfl, .inl (.inl hx4), atI_last _ _, t0, _, 0, .str (S [c]), rfl, rfl, .inl (.inl ht0), atI_nat (j := 0) rfl, _, rfl, rfl, true, bT rfl, iteT ?_⟩
        refine ⟨_, rfl, _, rfl, _, rfl, d, _, rfl, e4, hLine, fun t nt => ?_⟩
        have htp : p ≠ t := ne_of_none hx4 nt
        refine ⟨_, rfl, 1, rfl, p, _, -1, ys.length, rfl, rfl, by rw [upd_ne htp]; exact hx4, ?_, ?_⟩
        · unfold ixN
          rw [if_neg (by decide), List.length_append, List.length_singleton, if_pos (by omega)]
          congr 1
          omega
        · refine fin _ t F0 ys nt R0 hR ?_ (fun r hr => cp r (List.mem_append_left _ hr)) ?_
          · rw [List.length_append, List.length_singleton] at fl
            omega
          · rw [List.set_append_right _ _ (Nat.le_refl _), Nat.sub_self]
            rfl
      · -- a new run
        have room : xs.length < sizeLine := by
          rw [R4.len, sizeLine_eq]
          omega
        rcases List.eq_nil_or_concat F with rfl | ⟨F1, a1, rfl⟩
        · refine iteF ⟨_, rfl, .inl ⟨rfl, _, .inl (.inl hx4)⟩, _, rfl, _, rfl, _, rfl, d, _, rfl, e4, hLine, fun t nt => ?_⟩
          have htp : p ≠ t := ne_of_none hx4 nt
          refine ⟨p, xs, _, rfl, rfl, by rw [upd_ne htp]; exact hx4, room, ?_⟩
          exact fin _ t [] xs nt R4 hR (by omega) cp rfl
        · obtain ⟨c1, n1⟩ := a1
          rw [List.concat_eq_append] at *
          obtain ⟨ys, z, rfl, R0, t0, rfl, ht0⟩ := R4.last
          have hnz : (F1 ++ [(c1, n1)]).isEmpty = false := by cases F1 <;> rfl
          have hcc : c1 ≠ c := fun e => hno F1 c1 n1 _ rfl (by rw [e])
          rw [hnz]
          refine iteT ⟨_, rfl, 1, rfl, p, _, -1, _, rfl, rfl, .inl (.inl hx4), atI_last _ _, t0, _, 0, .str (S [c1]), rfl, rfl, .inl (.inl ht0), atI_nat (j := 0) rfl, _, rfl, rfl, false, bF ?_, iteF ?_⟩
          · intro e
            injection e with e
            have e2 := S_inj (b := [c]) e
            injection e2 with e3
            exact hcc e3
          refine ⟨_, rfl, .inl ⟨rfl, _, .inl (.inl hx4)⟩, _, rfl, _, rfl, _, rfl, d, _, rfl, e4, hLine, fun t nt => ?_⟩
          have htp : p ≠ t := ne_of_none hx4 nt
          refine ⟨p, _, _, rfl, rfl, by rw [upd_ne htp]; exact hx4, room, ?_⟩
          exact fin _ t _ _ nt R4 hR fl cp rfl
    · obtain ⟨y, F, k, rfl, sm, kd, ra, cp, fl, gl⟩ := hP
      rw [hsz, List.drop_length] at gl
      rw [glue_end gl] at q
      exact ⟨_, rfl, q H1 p sm hp ra⟩
end
end Sc
namespace Sc
open PySem PySem.Spec PyProof.Rows L2
/-! ### _law_ends -/
theorem cnt_count (c : Nat) : ∀ l : List Nat, cnt c l = ((l.count c : Nat) : Int)
  | [] => rfl
  | n :: r => by
    rw [cnt_cons, cnt_count c r, List.count_cons]
    by_cases h : n = c
    · simp [h]
      omega
    · simp [h]
theorem count_S (l : List Nat) (c : Nat) : Txt.count (S l) (S [c]) = ((l.count c : Nat) : Int) := by
  rw [← cnt_count]
  exact count_is (S l) c
def cn (l : List Nat) : Kn := fun c => l.count c
theorem cn_nil : cn [] = k0 := rfl
theorem cn_snoc (l : List Nat) (c : Nat) : cn (l ++ [c]) = put (cn l) c (cn l c + 1) := by
  funext d
  unfold cn put
  rw [List.count_append, List.count_singleton]
  by_cases h : d = c
  · simp [h]
  · simp [h, Ne.symm h]
theorem take_snoc {l : List Nat} {i c : Nat} (h : l[i]? = some c) : l.take (i + 1) = l.take i ++ [c] := by
  rw [List.take_add_one, h]
  rfl
theorem cut_to (l : List Nat) (n : Nat) : cutS (S l) none (some (n : Int)) = S (l.take n) := by
  unfold cutS
  rw [HT.sIx_none, HT.sIx_nat]
  have e : (S l).length = l.length := S_len l
  rw [e]
  unfold S
  congr 2
  rw [Nat.sub_zero, List.drop_zero]
  have : l.toArray.toList = l := rfl
  rw [this, ← List.take_eq_take_min]
theorem S_at {l : List Nat} {i c : Nat} (h : l[i]? = some c) : atI (S l).cps.toList ((i : Nat) : Int) = some c := atI_nat (by simpa [S] using h)
section
variable {P : Program} {w : World} {K : PySem.W.Frag} {mg : Str → Option Value} {base : Heap}
theorem ok__law_ends (T : Txt K mg) {f : Addr} {fd : FuncData} (F : Fun K "_law_ends" "_law_ends" s__law_ends f fd) : FnOk P w K mg base CX0 1 f fd ["_law_word_here"] spRuns := by
  have nd := sc__law_ends.nd
  refine F.ok sc__law_ends (fun vs H Q E h => ?_) (fun cdv A outer s H vs Q E hr h => ?_)
  · obtain ⟨n, rfl, _⟩ := h
    rfl
  · obtain ⟨l, rfl, hl, hc, q⟩ := h
    refine ⟨_, pss_cons (ps_set (i := 1) nd rfl (.inl rfl) (pe_lst pa_nil))
      (pss_cons (ps_for PassesOwn.never rfl (pi_range1 (by rfl) T.b_range (pa_cons (pe_callB call_len_str (by rfl) T.b_len PySem.boot_len (pa_cons (pv 0) pa_nil)) pa_nil)) (pg_name (i := 2) nd rfl (.inl rfl))
        (pss_one (ps_if (PW.pt (pw_or (pt_cmpR op_eq (pe_op op_add (pv 2) pe_int) (pe_callB call_len_str (by rfl) T.b_len PySem.boot_len (pa_cons (pv 0) pa_nil)) (nomark _))
            (pw_or1 (pt_cmpR op_ne (pe_ix ix_str (pv 0) (pe_op op_add (pv 2) pe_int) (fun _ _ => rfl)) (pe_ix ix_str (pv 0) (pv 2) (fun _ _ => rfl)) (nomark _)))))
          (pss_one (ps_expr (pe_bm PySem.F.plainAttrs_list PySem.F.slot_list_append PySem.F.type_list_append mt_append (pv 1)
            (pa_cons (pe_tup (pa_cons (pe_ix ix_str (pv 0) (pv 2) (fun _ _ => rfl)) (pa_cons (pe_bm PySem.F.plainAttrs_str PySem.F.slot_str_count PySem.F.type_str_count mt_count (pe_slice sl_str (pv 0) po_none (po_some (pe_op op_add (pv 2) pe_int))) (pa_cons (pe_ix ix_str (pv 0) (pv 2) (fun _ _ => rfl)) pa_nil)) pa_nil))) pa_nil))))
          pss_nil)))
      (pss_one (ps_ret (pv 1)))), ?_⟩
    have hS : (S l).length = l.length := S_len l
    have hLl : (S l).length ≤ sizeLine := by rw [hS, sizeLine_eq]; omega
    refine ⟨Nat.zero_le _, fun p hp => ?_⟩
    refine ⟨_, rfl, _, rfl, hLl, _, rfl, by omega, by omega, ?_⟩
    rw [hS, Int.toNat_natCast]
    refine for_range (lo := 0) (n := l.length) (fun i σ H' => ∃ y F, σ = [some (.str (S l)), some (.ref p), y] ∧ Same H H' ∧ RunsAt H' p F ∧ F.length ≤ i ∧ runs l = F ++ rn (cn (l.take i)) (l.drop i)) ?_ (fun i σ H1 hi hP => ?_) (fun σ H1 hP => ?_)
    · exact ⟨none, [], rfl, same_put (Same.refl H) hp _, ⟨[], upd_same, RunsL.nil⟩, Nat.le_refl _, rfl⟩
    · obtain ⟨y, F, rfl, sm, ⟨xs, hx, R⟩, fl, hR⟩ := hP
      have hli : l[i]? = some l[i] := List.getElem?_eq_getElem hi
      generalize l[i] = c at hli
      have hz : (0 : Int) + ((i : Nat) : Int) = ((i : Nat) : Int) := by omega
      rw [hz]
      have hi1 : ((i : Nat) : Int) + 1 = ((i + 1 : Nat) : Int) := by omega
      rw [mem_rest hli] at hR
      have hix : ((i : Nat) : Int) + 1 = ((S l).length : Int) ↔ i + 1 = l.length := by
        rw [hS]
        omega
      -- the run ends here
      have fin : runs l = (F ++ [(c, cn (l.take i) c + 1)]) ++ rn (cn (l.take (i + 1))) (l.drop (i + 1)) → ∀ (n : Int), n = ((cn (l.take i) c + 1 : Nat) : Int) → ∀ t, H1 t = none →
          ∃ y F', [some (V.str (S l)), some (.ref p), some (.int ((i : Nat) : Int))] = [some (V.str (S l)), some (.ref p), y] ∧ Same H (upd (upd H1 t (.tup [.str (S [c]), .int n])) p (.lst (xs ++ [.ref t]))) ∧
            RunsAt (upd (upd H1 t (.tup [.str (S [c]), .int n])) p (.lst (xs ++ [.ref t]))) p F' ∧ F'.length ≤ i + 1 ∧ runs l = F' ++ rn (cn (l.take (i + 1))) (l.drop (i + 1)) := by
        intro e n hn t nt
        subst hn
        have htp : t ≠ p := fun z => by rw [z, hx] at nt; cases nt
        refine ⟨_, _, rfl, same_put (sm.trans (same_upd nt)) hp _, ⟨_, upd_same, RunsL.snoc (R.mono ?_) ⟨t, rfl, by rw [upd_ne htp, upd_same]⟩⟩, by simp; omega, e⟩
        refine TupS.trans (same_tups (same_upd nt)) (tups_upd fun ts z => ?_)
        rw [upd_ne (Ne.symm htp), hx] at z
        cases z
      have room : xs.length < sizeLine := by
        rw [R.len, sizeLine_eq]
        omega
      have two : ([V.str (S [c]), V.int (Txt.count (S (l.take (i + 1))) (S [c]))] : List V).length ≤ sizeLine := by
        show 2 ≤ sizeLine
        decide
      have cnt1 : Txt.count (cutS (S l) none (some (((i : Nat) : Int) + 1))) (S [c]) = ((cn (l.take i) c + 1 : Nat) : Int) := by
        rw [hi1, cut_to, count_S, take_snoc hli, List.count_append, List.count_singleton]
        simp [cn]
      have ktake : cn (l.take (i + 1)) = put (cn (l.take i)) c (cn (l.take i) c + 1) := by
        rw [take_snoc hli, cn_snoc]
      refine ⟨_, rfl, _, _, rfl, rfl, _, rfl, _, rfl, hLl, rfl, _, rfl, ?_⟩
      by_cases hlast : i + 1 = l.length
      · have e1 : decide (V.int (((i : Nat) : Int) + 1) = V.int ((S l).length : Int)) = true := decide_eq_true (by rw [hix.mpr hlast])
        have hnil : l.drop (i + 1) = [] := List.drop_eq_nil_of_le (by omega)
        have hR2 : runs l = (F ++ [(c, cn (l.take i) c + 1)]) ++ rn (cn (l.take (i + 1))) (l.drop (i + 1)) := by
          rw [hR, hnil]
          simp [rn]
        show if decide (V.int (((i : Nat) : Int) + 1) = V.int ((S l).length : Int)) = true then _ else _
        rw [e1]
        refine ⟨_, rfl, .inl ⟨rfl, _, .inl (.inl hx)⟩, _, rfl, _, rfl, _, _, c, rfl, rfl, hLl, S_at hli, _, rfl, _, rfl, _, _, rfl, rfl, _, rfl, _, rfl, hLl, rfl, _, rfl, _, rfl, _, _, c, rfl, rfl, hLl, S_at hli, _, _, rfl, rfl, ?_⟩
        refine ⟨two, fun t nt => ?_⟩
        refine ⟨p, xs, _, rfl, rfl, by rw [upd_ne (ne_of_none hx nt)]; exact hx, room, ?_⟩
        exact fin hR2 _ cnt1 t nt
      · have e1 : decide (V.int (((i : Nat) : Int) + 1) = V.int ((S l).length : Int)) = false := decide_eq_false fun z => hlast (hix.mp (V.int.inj z))
        have hlt : i + 1 < l.length := by omega
        have hln : l[i + 1]? = some l[i + 1] := List.getElem?_eq_getElem hlt
        generalize l[i + 1] = e at hln
        rw [mem_rest hln, rn_two, ← ktake] at hR
        show if decide (V.int (((i : Nat) : Int) + 1) = V.int ((S l).length : Int)) = true then _ else _
        rw [e1]
        refine iteF ⟨_, rfl, _, rfl, _, _, rfl, rfl, _, _, e, rfl, rfl, hLl, by rw [hi1]; exact S_at hln, _, rfl, _, rfl, _, _, c, rfl, rfl, hLl, S_at hli, rfl, _, rfl, ?_⟩
        by_cases hce : c = e
        · subst hce
          rw [if_pos rfl, ← mem_rest hln] at hR
          have e2 : (!decide (V.str ⟨#[c]⟩ = V.str ⟨#[c]⟩)) = false := by simp
          rw [e2]
          exact ⟨_, F, rfl, sm, ⟨xs, hx, R⟩, by omega, hR⟩
        · rw [if_neg hce, ← mem_rest hln] at hR
          have e2 : (!decide (V.str ⟨#[e]⟩ = V.str ⟨#[c]⟩)) = true := by
            have : ¬ V.str ⟨#[e]⟩ = V.str ⟨#[c]⟩ := fun z => by
              have z2 : S [e] = S [c] := V.str.inj z
              have z3 := S_inj z2
              injection z3 with z4
              exact hce z4.symm
            rw [decide_eq_false this]
            rfl
          have hR2 : runs l = (F ++ [(c, cn (l.take i) c + 1)]) ++ rn (cn (l.take (i + 1))) (l.drop (i + 1)) := by
            rw [hR, List.append_assoc]
            rfl
          rw [e2]
          refine ⟨_, rfl, .inl ⟨rfl, _, .inl (.inl hx)⟩, _, rfl, _, rfl, _, _, c, rfl, rfl, hLl, S_at hli, _, rfl, _, rfl, _, _, rfl, rfl, _, rfl, _, rfl, hLl, rfl, _, rfl, _, rfl, _, _, c, rfl, rfl, hLl, S_at hli, _, _, rfl, rfl, ?_⟩
          refine ⟨two, fun t nt => ?_⟩
          refine ⟨p, xs, _, rfl, rfl, by rw [upd_ne (ne_of_none hx nt)]; exact hx, room, ?_⟩
          exact fin hR2 _ cnt1 t nt
    · obtain ⟨y, F, rfl, sm, ra, fl, hR⟩ := hP
      rw [List.drop_length] at hR
      have e : runs l = F := by rw [hR]; exact List.append_nil F
      rw [← e] at ra
      exact ⟨_, rfl, q H1 p sm hp ra⟩
/-! ### marks -/
def spMarks : Sp := fun vs H Q _ => ∃ l : List Nat, vs = [.str (S l)] ∧ l.length ≤ 2000 ∧ Low l ∧ (runs l).length ≤ 50 ∧ ∀ H' p, Same H H' → H p = none → H' p = some (.lst (zv (marks l))) → Q (.ref p) H'

theorem ok_marks_of (T : Txt K mg) {f : Addr} {fd : FuncData} (F : Fun K "marks_of" "marks_of" s_marks_of f fd) : FnOk P w K mg base CX0 2 f fd ["word"] spMarks := by
  obtain ⟨f1, fd1, g1, F1⟩ := T.d_runs_of
  have G1 : FnOk P w K mg base CX0 1 f1 fd1 ["word"] spRuns := ok_runs_of T F1
  have b1 : Binds K fd1 ["word"] [] := F1.binds fun _ _ _ _ _ _ us hl => match us, hl with | [_], _ => rfl
  have nd := sc_marks_of.nd
  refine F.ok sc_marks_of (fun vs H Q E h => ?_) (fun cdv A outer s H vs Q E hr h => ?_)
  · obtain ⟨n, rfl, _⟩ := h
    rfl
  · obtain ⟨l, rfl, hl, hc, hfew, q⟩ := h
    refine ⟨_, pss_one (ps_ret (pe_callB (cr_sortedSet rfl) (by rfl) T.b_sorted (by decide +kernel) (pa_cons (pe_callTy (cr_setL rfl) (by rfl) T.b_set (by decide +kernel) (pa_cons (pe_op op_cat (pe_lst (pa_cons pe_int pa_nil))
      (pe_lc (own := [("letter", 1), ("count", 2)]) (g := gTup K 2 (gCons (gName 1) (gCons (gName 2) gNil))) (tt := tYes) rfl nd (pi_list (pe_call G1 hr (by rfl) g1 F1.kp b1 .nil pass0 (pa_cons (pv 0) pa_nil)))
        (blkOk_by (own := [("letter", 1), ("count", 2)]) (N := ["word", "letter", "count"]) (sc := defScope s_marks_of) (by decide +kernel))
        (fun _ _ _ _ _ => pg_tup rfl (pgs_cons (pg_name (i := 1) nd rfl (.inl rfl) (.inr rfl)) (pgs_cons (pg_name (i := 2) nd rfl (.inl rfl) (.inr rfl)) pgs_nil)))
        (fun _ _ _ _ _ => pts_nil) (fun _ _ _ _ _ => pv 2))) pa_nil)) pa_nil))), ?_⟩
    refine ⟨by show 1 ≤ sizeLine; decide, fun e he => ?_⟩
    refine ⟨_, rfl, l, rfl, hl, hc, fun H1 p sm hp ra => ?_⟩
    obtain ⟨xs, hx, R⟩ := ra
    refine ⟨p, rfl, ⟨xs, .inl (.inl hx)⟩, fun D hD => ?_⟩
    have hxl : xs.length = (runs l).length := R.len
    have hDp : p ≠ D := ne_of_none hx hD
    refine lc_list (K := K) (a := p) (xs := xs) (fun i H' => Same H1 H' ∧ H' D = some (.lst (zv (((runs l).map (·.2)).take i)))) ⟨same_upd hD, upd_same⟩ (fun i H' _ h => .inl (.inl (h.1 _ _ hx))) (fun i x H' hi hP => ?_) (fun H' hP => ?_)
    · obtain ⟨s1, hd1⟩ := hP
      have hi1 : i < (runs l).length := by rw [← hxl]; exact (List.getElem?_eq_some_iff.mp hi).1
      obtain ⟨t, rfl, ht⟩ := R.at_ i x _ hi (List.getElem?_eq_getElem hi1)
      have ht2 := s1 _ _ ht
      refine ⟨t, _, rfl, .inl (.inl ht2), rfl, _, _, rfl, _, _, rfl, rfl, rfl, _, rfl, _, hd1, ?_, ?_, ?_⟩
      · rw [zv_len, List.length_take, List.length_map, sizeLine_eq]
        omega
      · exact same_put s1 hD _
      · rw [upd_same]
        congr 2
        refine zv_take _ i _ ?_
        rw [List.getElem?_map, List.getElem?_eq_getElem hi1]
        rfl
    · obtain ⟨s1, hd1⟩ := hP
      rw [hxl, ← List.length_map (f := fun p : Nat × Nat => p.2), List.take_length] at hd1
      have he2 := s1 _ _ (sm _ _ (upd_same (H := H) (a := e) (o := .lst [.int 0])))
      refine ⟨e, D, _, _, rfl, rfl, he2, hd1, ?_, fun u hu => ?_⟩
      · rw [zv_len, List.length_map, sizeLine_eq]
        show 1 + _ ≤ _
        omega
      have eq0 : [V.int 0] ++ zv ((runs l).map (·.2)) = (zs (0 :: (runs l).map (·.2))).map V.int := rfl
      refine ⟨u, zs (0 :: (runs l).map (·.2)), rfl, .inl (.inl (by rw [upd_same, eq0])), ?_, fun v c hv hcnt => ?_⟩
      · rw [zs_len, List.length_cons, List.length_map]
        omega
      rw [zs_len, List.length_cons, List.length_map] at hcnt
      refine ⟨v, _, c, rfl, upd_same, by omega, fun ns m hasc hmem hlen hm => ?_⟩
      have hns : ns = zs (marks l) := mks_int hasc fun k => by rw [hmem, decide_eq_true_eq]
      have sA : Same H H' := ((same_upd he).trans sm).trans s1
      have sB : Same H (upd (upd H' u (.lst ([V.int 0] ++ zv ((runs l).map (·.2))))) v (SetO w v (fun j => decide (j ∈ zs (0 :: (runs l).map (·.2)))) c)) := (sA.trans (same_upd hu)).trans (same_upd hv)
      have hmH : H m = none := sB.free hm
      refine q _ m (sB.trans (same_upd hm)) hmH ?_
      rw [upd_same, hns]
      rfl

theorem ok__law_marks (T : Txt K mg) {f : Addr} {fd : FuncData} (F : Fun K "_law_marks" "_law_marks" s__law_marks f fd) : FnOk P w K mg base CX0 2 f fd ["_law_word_here"] spMarks := by
  obtain ⟨f1, fd1, g1, F1⟩ := T.d__law_ends
  have G1 : FnOk P w K mg base CX0 1 f1 fd1 ["_law_word_here"] spRuns := ok__law_ends T F1
  have b1 : Binds K fd1 ["_law_word_here"] [] := F1.binds fun _ _ _ _ _ _ us hl => match us, hl with | [_], _ => rfl
  have nd := sc__law_marks.nd
  refine F.ok sc__law_marks (fun vs H Q E h => ?_) (fun cdv A outer s H vs Q E hr h => ?_)
  · obtain ⟨n, rfl, _⟩ := h
    rfl
  · obtain ⟨l, rfl, hl, hc, hfew, q⟩ := h
    refine ⟨_, pss_one (ps_ret (pe_callB (cr_sortedSet rfl) (by rfl) T.b_sorted (by decide +kernel) (pa_cons (pe_callTy (cr_setL rfl) (by rfl) T.b_set (by decide +kernel) (pa_cons (pe_op op_cat (pe_lst (pa_cons pe_int pa_nil))
      (pe_lc (own := [("_law_letter", 1), ("_law_count", 2)]) (g := gTup K 2 (gCons (gName 1) (gCons (gName 2) gNil))) (tt := tYes) rfl nd (pi_list (pe_call G1 hr (by rfl) g1 F1.kp b1 .nil pass0 (pa_cons (pv 0) pa_nil)))
        (blkOk_by (own := [("_law_letter", 1), ("_law_count", 2)]) (N := ["_law_word_here", "_law_letter", "_law_count"]) (sc := defScope s__law_marks) (by decide +kernel))
        (fun _ _ _ _ _ => pg_tup rfl (pgs_cons (pg_name (i := 1) nd rfl (.inl rfl) (.inr rfl)) (pgs_cons (pg_name (i := 2) nd rfl (.inl rfl) (.inr rfl)) pgs_nil)))
        (fun _ _ _ _ _ => pts_nil) (fun _ _ _ _ _ => pv 2))) pa_nil)) pa_nil))), ?_⟩
    refine ⟨by show 1 ≤ sizeLine; decide, fun e he => ?_⟩
    refine ⟨_, rfl, l, rfl, hl, hc, fun H1 p sm hp ra => ?_⟩
    obtain ⟨xs, hx, R⟩ := ra
    refine ⟨p, rfl, ⟨xs, .inl (.inl hx)⟩, fun D hD => ?_⟩
    have hxl : xs.length = (runs l).length := R.len
    have hDp : p ≠ D := ne_of_none hx hD
    refine lc_list (K := K) (a := p) (xs := xs) (fun i H' => Same H1 H' ∧ H' D = some (.lst (zv (((runs l).map (·.2)).take i)))) ⟨same_upd hD, upd_same⟩ (fun i H' _ h => .inl (.inl (h.1 _ _ hx))) (fun i x H' hi hP => ?_) (fun H' hP => ?_)
    · obtain ⟨s1, hd1⟩ := hP
      have hi1 : i < (runs l).length := by rw [← hxl]; exact (List.getElem?_eq_some_iff.mp hi).1
      obtain ⟨t, rfl, ht⟩ := R.at_ i x _ hi (List.getElem?_eq_getElem hi1)
      have ht2 := s1 _ _ ht
      refine ⟨t, _, rfl, .inl (.inl ht2), rfl, _, _, rfl, _, _, rfl, rfl, rfl, _, rfl, _, hd1, ?_, ?_, ?_⟩
      · rw [zv_len, List.length_take, List.length_map, sizeLine_eq]
        omega
      · exact same_put s1 hD _
      · rw [upd_same]
        congr 2
        refine zv_take _ i _ ?_
        rw [List.getElem?_map, List.getElem?_eq_getElem hi1]
        rfl
    · obtain ⟨s1, hd1⟩ := hP
      rw [hxl, ← List.length_map (f := fun p : Nat × Nat => p.2), List.take_length] at hd1
      have he2 := s1 _ _ (sm _ _ (upd_same (H := H) (a := e) (o := .lst [.int 0])))
      refine ⟨e, D, _, _, rfl, rfl, he2, hd1, ?_, fun u hu => ?_⟩
      · rw [zv_len, List.length_map, sizeLine_eq]
        show 1 + _ ≤ _
        omega
      have eq0 : [V.int 0] ++ zv ((runs l).map (·.2)) = (zs (0 :: (runs l).map (·.2))).map V.int := rfl
      refine ⟨u, zs (0 :: (runs l).map (·.2)), rfl, .inl (.inl (by rw [upd_same, eq0])), ?_, fun v c hv hcnt => ?_⟩
      · rw [zs_len, List.length_cons, List.length_map]
        omega
      rw [zs_len, List.length_cons, List.length_map] at hcnt
      refine ⟨v, _, c, rfl, upd_same, by omega, fun ns m hasc hmem hlen hm => ?_⟩
      have hns : ns = zs (marks l) := mks_int hasc fun k => by rw [hmem, decide_eq_true_eq]
      have sA : Same H H' := ((same_upd he).trans sm).trans s1
      have sB : Same H (upd (upd H' u (.lst ([V.int 0] ++ zv ((runs l).map (·.2))))) v (SetO w v (fun j => decide (j ∈ zs (0 :: (runs l).map (·.2)))) c)) := (sA.trans (same_upd hu)).trans (same_upd hv)
      have hmH : H m = none := sB.free hm
      refine q _ m (sB.trans (same_upd hm)) hmH ?_
      rw [upd_same, hns]
      rfl

end
end Sc
namespace Sc
open PySem PySem.Spec PyProof.Rows L2
theorem runs_drop {R : List (Nat × Nat)} {i : Nat} {c n : Nat} (h : R[i]? = some (c, n)) : R.drop i = (c, n) :: R.drop (i + 1) := by
  obtain ⟨h1, h2⟩ := List.getElem?_eq_some_iff.mp h
  rw [List.drop_eq_getElem_cons h1, h2]
theorem join_flat : ∀ ws : List (List Nat), TL.joinL [] ws = ws.flatten
  | [] => rfl
  | [p] => by simp [TL.joinL]
  | p :: q :: r => by
    unfold TL.joinL
    rw [join_flat (q :: r)]
    rfl
theorem join_S (ws : List (List Nat)) : Txt.join (PySem.Str.ofString "") (ws.map S) = S ws.flatten := by
  rw [TL.join_eq]
  apply TL.ext_tl
  rw [TL.tl_join]
  have e1 : TL.tl (PySem.Str.ofString "") = [] := by decide +kernel
  have e2 : (ws.map S).map TL.tl = ws := by
    rw [List.map_map]
    exact List.map_id' ws
  rw [e1, e2, join_flat]
  rfl
theorem flat_len : ∀ ws : List (List Nat), ((ws.map S).map (·.length)).sum = ws.flatten.length
  | [] => rfl
  | p :: r => by
    rw [List.map_cons, List.map_cons, List.sum_cons, flat_len r, List.flatten_cons, List.length_append, S_len]
theorem mk_len_head (k : Kn) (c n : Nat) (R : List (Nat × Nat)) : n - k c ≤ (mk k ((c, n) :: R)).length := by
  rw [mk_cons, List.length_append, List.length_replicate]
  omega
theorem vsub {n k : Nat} (h : k ≤ n) : V.int (((n : Nat) : Int) - ((k : Nat) : Int)) = V.int ((n - k : Nat) : Int) := by
  congr 1
  omega
def sums (g : List Nat) : List Nat := (List.range (g.length + 1)).map (sm g)
theorem sums_get {g : List Nat} {i : Nat} (h : i ≤ g.length) : (sums g)[i]? = some (sm g i) := by
  unfold sums
  rw [List.getElem?_map, List.getElem?_range (by omega)]
  rfl
section
variable {P : Program} {w : World} {K : PySem.W.Frag} {mg : Str → Option Value} {base : Heap}
/-! ### words of runs -/
def spMade : Sp := fun vs H Q _ => ∃ (a : Addr) (R : List (Nat × Nat)), vs = [.ref a] ∧ RunsAt H a R ∧ Pr k0 R ∧ (mk k0 R).length ≤ 2000 ∧ R.length ≤ 2000 ∧ ∀ H', Same H H' → Q (.str (S (mk k0 R))) H'
theorem ok_word_of (T : Txt K mg) {f : Addr} {fd : FuncData} (F : Fun K "word_of" "word_of" s_word_of f fd) : FnOk P w K mg base CX0 1 f fd ["runs"] spMade := by
  have nd := sc_word_of.nd
  refine F.ok sc_word_of (fun vs H Q E h => ?_) (fun cdv A outer s H vs Q E hr h => ?_)
  · obtain ⟨a, R, rfl, _⟩ := h
    rfl
  · obtain ⟨a, R, rfl, ⟨xs, hxs, RL⟩, pr, hlen, hRl, q⟩ := h
    refine ⟨_, pss_cons (ps_par (i := 1) (j := 2) rfl nd rfl rfl (by decide) rfl rfl (pa_cons pe_dnewK (pa_cons (pe_lst pa_nil) pa_nil)) (by rfl))
      (pss_cons (ps_for PassesOwn.never rfl (pi_list (pv 0)) (pg_tup rfl (pgs_cons (pg_name (i := 3) nd rfl (.inl rfl)) (pgs_cons (pg_name (i := 4) nd rfl (.inl rfl)) pgs_nil)))
        (pss_cons (ps_expr (pe_bm PySem.F.plainAttrs_list PySem.F.slot_list_append PySem.F.type_list_append mt_append (pv 2)
            (pa_cons (pe_op op_times (pv 3) (pe_op op_sub (pv 4) (pe_dget2 (hu_of hr) (pv 1) (pv 3) pe_int ⟨rfl, rfl, rfl, rfl⟩))) pa_nil)))
        (pss_one (ps_dput (hu_of hr) (pv 1) (pv 3) (pv 4) rfl))))
      (pss_one (ps_ret (pe_join pe_str (pv 2))))), ?_⟩
    intro d hd
    refine ⟨Nat.zero_le _, fun p hp' => ?_⟩
    have hpd : p ≠ d := fun z => by
      rw [z, upd_same] at hp'
      cases hp'
    have hp : H p = none := by
      rw [upd_ne hpd] at hp'
      exact hp'
    have hs0 : Same H (upd (upd H d (.dK [])) p (.lst [])) := same_put (same_put (Same.refl H) hd _) hp _
    have hxl := RL.len
    refine ⟨_, _, rfl, _, rfl, a, rfl, ⟨xs, .inl (.inl (hs0 _ _ hxs))⟩, ?_⟩
    refine for_list (K := K) (a := a) (xs := xs) (fun i σ H' => ∃ (y1 y2 : Option V) (k : Kn) (ws : List (List Nat)), σ = [some (.ref a), some (.ref d), some (.ref p), y1, y2] ∧ Same H H' ∧ KnD H' d i k ∧ H' p = some (.lst ((ws.map S).map V.str)) ∧ ws.length = i ∧ Pr k (R.drop i) ∧ mk k0 R = ws.flatten ++ mk k (R.drop i)) ?_ (fun i σ H' _ h => ?_) (fun i x σ H1 hi hP => ?_) (fun σ H1 hP => ?_)
    · exact ⟨none, none, k0, [], rfl, hs0, (KnD.new (d := d) upd_same).keep (upd_ne (Ne.symm hpd)), upd_same, rfl, pr, rfl⟩
    · obtain ⟨_, _, _, _, _, sm, _⟩ := h
      exact .inl (.inl (sm _ _ hxs))
    · obtain ⟨y1, y2, k, ws, rfl, sm, kd, hpl, hwl, pk, hmk⟩ := hP
      have hi1 : i < R.length := by rw [← hxl]; exact (List.getElem?_eq_some_iff.mp hi).1
      have hRi : R[i]? = some R[i] := List.getElem?_eq_getElem hi1
      obtain ⟨t, rfl, ht⟩ := RL.at_ i x _ hi hRi
      generalize R[i] = r at hRi ht
      obtain ⟨c, n⟩ := r
      rw [runs_drop hRi] at pk hmk
      obtain ⟨p1, _, p3⟩ := pk
      obtain ⟨o, g1, g2⟩ := kd.get c
      have hroom : n - k c ≤ 2000 := by
        have h1 := mk_len_head k c n (R.drop (i + 1))
        rw [hmk, List.length_append] at hlen
        omega
      refine ⟨t, _, rfl, .inl (.inl (sm _ _ ht)), rfl, _, _, rfl, _, _, rfl, rfl, ?_⟩
      refine ⟨_, rfl, .inl ⟨rfl, _, .inl (.inl hpl)⟩, _, rfl, _, rfl, _, rfl, d, rfl, kd.isD, _, rfl, o, g1, ((n : Nat) : Int), ((k c : Nat) : Int), rfl, g2, c, n - k c, rfl, vsub (by omega), by omega, ?_⟩
      refine ⟨p, _, _, rfl, rfl, hpl, by rw [List.length_map, List.length_map, hwl, sizeLine_eq]; omega, ?_⟩
      have kd2 := kd.keep (H' := upd H1 p (.lst ((ws.map S).map V.str ++ [V.str (S (List.replicate (n - k c) c))]))) (upd_ne (Ne.symm hpd))
      obtain ⟨kvs, e1, e2, _⟩ := kd2.put (by omega) c n (z := ((n : Nat) : Int)) rfl
      refine ⟨_, rfl, _, rfl, _, rfl, d, _, rfl, e1, ?_⟩
      refine ⟨_, _, put k c n, ws ++ [List.replicate (n - k c) c], rfl, same_put (same_put sm hp _) hd _, e2, ?_, by rw [List.length_append, hwl]; rfl, p3, ?_⟩
      · rw [upd_ne hpd, upd_same, List.map_append, List.map_append]
        rfl
      · rw [hmk, mk_cons, List.flatten_append, List.flatten_cons, List.flatten_nil, List.append_nil, List.append_assoc]
    · obtain ⟨y1, y2, k, ws, rfl, sm, kd, hpl, hwl, pk, hmk⟩ := hP
      rw [hxl, List.drop_length] at hmk
      have hfl : mk k0 R = ws.flatten := by
        rw [hmk]
        exact List.append_nil _
      refine ⟨⟨_, rfl⟩, _, rfl, _, p, ws.map S, rfl, rfl, .inl (.inl (.inl hpl)), ?_, ?_⟩
      · rw [flat_len, ← hfl]
        have : (PySem.Str.ofString "").length = 0 := by decide +kernel
        rw [this]
        omega
      · rw [join_S, ← hfl]
        exact q H1 sm
theorem ok__law_made (T : Txt K mg) {f : Addr} {fd : FuncData} (F : Fun K "_law_made" "_law_made" s__law_made f fd) : FnOk P w K mg base CX0 1 f fd ["_law_ends_here"] spMade := by
  have nd := sc__law_made.nd
  refine F.ok sc__law_made (fun vs H Q E h => ?_) (fun cdv A outer s H vs Q E hr h => ?_)
  · obtain ⟨a, R, rfl, _⟩ := h
    rfl
  · obtain ⟨a, R, rfl, ⟨xs, hxs, RL⟩, pr, hlen, hRl, q⟩ := h
    refine ⟨_, pss_cons (ps_par (i := 1) (j := 2) rfl nd rfl rfl (by decide) rfl rfl (pa_cons pe_str (pa_cons pe_dnewK pa_nil)) (by rfl))
      (pss_cons (ps_for PassesOwn.never rfl (pi_list (pv 0)) (pg_tup rfl (pgs_cons (pg_name (i := 3) nd rfl (.inl rfl)) (pgs_cons (pg_name (i := 4) nd rfl (.inl rfl)) pgs_nil)))
        (pss_cons (ps_set (i := 1) nd rfl (.inl rfl) (pe_op op_add_str (pv 1) (pe_op op_times (pv 3) (pe_op op_sub (pv 4) (pe_dget2 (hu_of hr) (pv 2) (pv 3) pe_int ⟨rfl, rfl, rfl, rfl⟩)))))
        (pss_one (ps_dput (hu_of hr) (pv 2) (pv 3) (pv 4) rfl))))
      (pss_one (ps_ret (pv 1)))), ?_⟩
    intro d hd
    have hs0 : Same H (upd H d (.dK [])) := same_put (Same.refl H) hd _
    have hxl := RL.len
    have e0 : PySem.Str.ofString "" = S [] := by decide +kernel
    refine ⟨_, _, rfl, _, rfl, a, rfl, ⟨xs, .inl (.inl (hs0 _ _ hxs))⟩, ?_⟩
    refine for_list (K := K) (a := a) (xs := xs) (fun i σ H' => ∃ (y1 y2 : Option V) (k : Kn) (acc : List Nat), σ = [some (.ref a), some (.str (S acc)), some (.ref d), y1, y2] ∧ Same H H' ∧ KnD H' d i k ∧ Pr k (R.drop i) ∧ mk k0 R = acc ++ mk k (R.drop i)) ?_ (fun i σ H' _ h => ?_) (fun i x σ H1 hi hP => ?_) (fun σ H1 hP => ?_)
    · exact ⟨none, none, k0, [], rfl, hs0, KnD.new (d := d) upd_same, pr, rfl⟩
    · obtain ⟨_, _, _, _, _, sm, _⟩ := h
      exact .inl (.inl (sm _ _ hxs))
    · obtain ⟨y1, y2, k, acc, rfl, sm, kd, pk, hmk⟩ := hP
      have hi1 : i < R.length := by rw [← hxl]; exact (List.getElem?_eq_some_iff.mp hi).1
      have hRi : R[i]? = some R[i] := List.getElem?_eq_getElem hi1
      obtain ⟨t, rfl, ht⟩ := RL.at_ i x _ hi hRi
      generalize R[i] = r at hRi ht
      obtain ⟨c, n⟩ := r
      rw [runs_drop hRi] at pk hmk
      obtain ⟨p1, _, p3⟩ := pk
      obtain ⟨o, g1, g2⟩ := kd.get c
      have hroom : acc.length + (n - k c) ≤ 2000 := by
        have h1 := mk_len_head k c n (R.drop (i + 1))
        rw [hmk, List.length_append] at hlen
        omega
      refine ⟨t, _, rfl, .inl (.inl (sm _ _ ht)), rfl, _, _, rfl, _, _, rfl, rfl, ?_⟩
      refine ⟨_, rfl, _, rfl, _, rfl, _, rfl, d, rfl, kd.isD, _, rfl, o, g1, ((n : Nat) : Int), ((k c : Nat) : Int), rfl, g2, c, n - k c, rfl, vsub (by omega), by omega, ?_⟩
      refine ⟨_, _, rfl, rfl, by rw [S_len, S_len, List.length_replicate, sizeLine_eq]; omega, ?_⟩
      obtain ⟨kvs, e1, e2, _⟩ := kd.put (by omega) c n (z := ((n : Nat) : Int)) rfl
      refine ⟨_, rfl, _, rfl, _, rfl, d, _, rfl, e1, ?_⟩
      refine ⟨some (.str (S [c])), some (.int ((n : Nat) : Int)), put k c n, acc ++ List.replicate (n - k c) c, ?_, same_put sm hd _, e2, p3, ?_⟩
      · rw [S_app]
        rfl
      · rw [hmk, mk_cons, List.append_assoc]
    · obtain ⟨y1, y2, k, acc, rfl, sm, kd, pk, hmk⟩ := hP
      rw [hxl, List.drop_length] at hmk
      have hfl : mk k0 R = acc := by
        rw [hmk]
        exact List.append_nil _
      rw [hfl] at q
      exact ⟨_, rfl, q H1 sm⟩
end
end Sc
namespace Sc
open PySem PySem.Spec PyProof.Rows L2
theorem flat_zv (l : List Nat) : (zv l).all flatV = true := by
  unfold zv zs
  rw [List.map_map, List.all_map, List.all_eq_true]
  intro n _
  rfl
theorem core_len2 (l : List Nat) : (core l).length ≤ l.length := core_len l
theorem mp_len1 (f : Nat → Nat) (R : List (Nat × Nat)) : (mp f R).length = R.length := by
  unfold mp
  rw [List.length_map]
theorem mp_get (f : Nat → Nat) {R : List (Nat × Nat)} {i c n : Nat} (h : R[i]? = some (c, n)) : (mp f R)[i]? = some (c, f n) := by
  unfold mp
  rw [List.getElem?_map, h]
  rfl
theorem mp_take (f : Nat → Nat) {R : List (Nat × Nat)} {i c n : Nat} (h : R[i]? = some (c, n)) : (mp f R).take (i + 1) = (mp f R).take i ++ [(c, f n)] := by
  rw [List.take_add_one, mp_get f h]
  rfl
theorem runs_low {l : List Nat} (h : Low l) : Cps (runs l) := fun r hr => h r.1 (rn_mem k0 l r hr)
theorem asc_sub {M : List Nat} (ha : M.Pairwise (· < ·)) {i a b : Nat} (h1 : M[i]? = some a) (h2 : M[i + 1]? = some b) : a ≤ b := by
  obtain ⟨i1, e1⟩ := List.getElem?_eq_some_iff.mp h1
  obtain ⟨i2, e2⟩ := List.getElem?_eq_some_iff.mp h2
  have := List.pairwise_iff_getElem.mp ha i (i + 1) i1 i2 (by omega)
  omega
section
variable {P : Program} {w : World} {K : PySem.W.Frag} {mg : Str → Option Value} {base : Heap}
/-! ### cores -/
def spCore : Sp := fun vs H Q _ => ∃ l : List Nat, vs = [.str (S l)] ∧ l.length ≤ 2000 ∧ Low l ∧ (runs l).length ≤ 50 ∧ ∀ H', Same H H' → Q (.str (S (core l))) H'
/-! ### gaps -/
def spGaps : Sp := fun vs H Q _ => ∃ l : List Nat, vs = [.str (S l)] ∧ l.length ≤ 2000 ∧ Low l ∧ (runs l).length ≤ 50 ∧ ∀ H' p, Same H H' → H p = none → H' p = some (.lst (zv (gaps l))) → Q (.ref p) H'

theorem ok_core_of (T : Txt K mg) {f : Addr} {fd : FuncData} (F : Fun K "core_of" "core_of" s_core_of f fd) : FnOk P w K mg base CX0 3 f fd ["word"] spCore := by
  obtain ⟨f1, fd1, g1, F1⟩ := T.d_marks_of
  have G1 : FnOk P w K mg base CX0 2 f1 fd1 ["word"] spMarks := ok_marks_of T F1
  have b1 : Binds K fd1 ["word"] [] := F1.binds fun _ _ _ _ _ _ us hl => match us, hl with | [_], _ => rfl
  obtain ⟨f2, fd2, g2, F2⟩ := T.d_runs_of
  have G2 : FnOk P w K mg base CX0 1 f2 fd2 ["word"] spRuns := ok_runs_of T F2
  have b2 : Binds K fd2 ["word"] [] := F2.binds fun _ _ _ _ _ _ us hl => match us, hl with | [_], _ => rfl
  obtain ⟨f3, fd3, g3, F3⟩ := T.d_word_of
  have G3 : FnOk P w K mg base CX0 1 f3 fd3 ["runs"] spMade := ok_word_of T F3
  have b3 : Binds K fd3 ["runs"] [] := F3.binds fun _ _ _ _ _ _ us hl => match us, hl with | [_], _ => rfl
  have nd := sc_core_of.nd
  refine F.ok sc_core_of (fun vs H Q E h => ?_) (fun cdv A outer s H vs Q E hr h => ?_)
  · obtain ⟨n, rfl, _⟩ := h
    rfl
  · obtain ⟨l, rfl, hl, hc, hfew, q⟩ := h
    refine ⟨_, pss_cons (ps_set (i := 1) nd rfl (.inr rfl) (pe_call G1 hr (by rfl) g1 F1.kp b1 .nil pass0 (pa_cons (pv 0) pa_nil)))
      (pss_one (ps_ret (pe_call G3 (hr.mono (by decide)) (by rfl) g3 F3.kp b3 .nil pass0 (pa_cons
        (pe_lc (own := [("letter", 2), ("count", 3)]) (g := gTup K 2 (gCons (gName 2) (gCons (gName 3) gNil))) (tt := tYes) (te := tTup (tCons (tVar 2) (tCons (tBM K "list" (rIndex K) (tVar 1) (tCons (tVar 3) tNil)) tNil))) rfl nd (pi_list (pe_call G2 (hr.mono (by decide)) (by rfl) g2 F2.kp b2 .nil pass0 (pa_cons (pv 0) pa_nil)))
          (blkOk_by (own := [("letter", 2), ("count", 3)]) (N := ["word", "marks", "letter", "count"]) (sc := defScope s_core_of) (by decide +kernel))
          (fun _ _ _ _ _ => pg_tup rfl (pgs_cons (pg_name (i := 2) nd rfl (.inl rfl) (.inr rfl)) (pgs_cons (pg_name (i := 3) nd rfl (.inl rfl) (.inr rfl)) pgs_nil)))
          (fun _ _ _ _ _ => pts_nil) (fun _ _ _ _ _ => pe_tup (pa_cons (pv 2) (pa_cons (pe_bm PySem.F.plainAttrs_list PySem.F.slot_list_index PySem.F.type_list_index mt_index (pv 1) (pa_cons (pv 3) pa_nil)) pa_nil)))) pa_nil)))), ?_⟩
    refine ⟨_, rfl, l, rfl, hl, hc, hfew, fun H1 u sm hu huM => ?_⟩
    refine ⟨_, rfl, l, rfl, hl, hc, fun H2 p sm2 hp ra => ?_⟩
    obtain ⟨xs, hx, R⟩ := ra
    refine ⟨p, rfl, ⟨xs, .inl (.inl hx)⟩, fun D hD => ?_⟩
    have hxl : xs.length = (runs l).length := R.len
    have huM2 := sm2 _ _ huM
    refine lc_list (K := K) (a := p) (xs := xs) (fun i H' => Same H2 H' ∧ ∃ ys, H' D = some (.lst ys) ∧ RunsL H' ys ((mp (fun n => ix n (marks l)) (runs l)).take i)) ⟨same_upd hD, [], upd_same, RunsL.nil⟩ (fun i H' _ h => .inl (.inl (h.1 _ _ hx))) (fun i x H' hi hP => ?_) (fun H' hP => ?_)
    · obtain ⟨s1, ys, hd1, RY⟩ := hP
      have hi1 : i < (runs l).length := by rw [← hxl]; exact (List.getElem?_eq_some_iff.mp hi).1
      have hRi : (runs l)[i]? = some (runs l)[i] := List.getElem?_eq_getElem hi1
      obtain ⟨t, rfl, ht⟩ := R.at_ i x _ hi hRi
      generalize (runs l)[i] = r at hRi ht
      obtain ⟨c, n⟩ := r
      have hn : n ∈ marks l := mem_mks.mpr (.inr (List.mem_map.mpr ⟨(c, n), List.mem_of_getElem? hRi, rfl⟩))
      refine ⟨t, _, rfl, .inl (.inl (s1 _ _ ht)), rfl, _, _, rfl, _, _, rfl, rfl, rfl, _, rfl, _, rfl, .inl ⟨rfl, _, .inl (.inl (s1 _ _ huM2))⟩, _, rfl, u, _, _, ix n (marks l), _, rfl, rfl, .inl (.inl (s1 _ _ huM2)), rfl, flat_zv _, zv_get (ix_get hn), ?_, ?_, ?_⟩
      · simp [eqV]
      · intro m z hm hz
        obtain ⟨k, hk, rfl⟩ := zv_at hz
        have hne : k ≠ n := fun e => ix_first hm (by rw [hk, e])
        simp only [eqV]
        rw [beq_eq_false_iff_ne] <;> omega
      · refine ⟨by show 2 ≤ sizeLine; decide, fun t2 nt2 => ?_⟩
        have hDt : D ≠ t2 := ne_of_none hd1 nt2
        refine ⟨ys, by rw [upd_ne hDt]; exact hd1, ?_, ?_, ys ++ [.ref t2], upd_same, ?_⟩
        · rw [RY.len, List.length_take, mp_len1, sizeLine_eq]
          omega
        · exact same_put (s1.trans (same_upd nt2)) hD _
        · rw [mp_take _ hRi]
          refine RunsL.snoc (RY.mono ?_) ⟨t2, rfl, by rw [upd_ne (Ne.symm hDt), upd_same]⟩
          refine TupS.trans (same_tups (same_upd nt2)) (tups_upd fun ts z => ?_)
          rw [upd_ne hDt, hd1] at z
          cases z
    · obtain ⟨s1, ys, hd1, RY⟩ := hP
      have hfull : (mp (fun n => ix n (marks l)) (runs l)).take xs.length = mp (fun n => ix n (marks l)) (runs l) := by
        rw [hxl, ← mp_len1 (fun n => ix n (marks l)) (runs l), List.take_length]
      rw [hfull] at RY
      have hcl := core_len l
      refine ⟨D, _, rfl, ⟨ys, hd1, RY⟩, core_pr l, by unfold core at hcl; omega, by rw [mp_len1]; omega, fun H3 s3 => ?_⟩
      exact q H3 (((sm.trans sm2).trans s1).trans s3)

theorem ok__law_core (T : Txt K mg) {f : Addr} {fd : FuncData} (F : Fun K "_law_core" "_law_core" s__law_core f fd) : FnOk P w K mg base CX0 3 f fd ["_law_word_here"] spCore := by
  obtain ⟨f1, fd1, g1, F1⟩ := T.d__law_marks
  have G1 : FnOk P w K mg base CX0 2 f1 fd1 ["_law_word_here"] spMarks := ok__law_marks T F1
  have b1 : Binds K fd1 ["_law_word_here"] [] := F1.binds fun _ _ _ _ _ _ us hl => match us, hl with | [_], _ => rfl
  obtain ⟨f2, fd2, g2, F2⟩ := T.d__law_ends
  have G2 : FnOk P w K mg base CX0 1 f2 fd2 ["_law_word_here"] spRuns := ok__law_ends T F2
  have b2 : Binds K fd2 ["_law_word_here"] [] := F2.binds fun _ _ _ _ _ _ us hl => match us, hl with | [_], _ => rfl
  obtain ⟨f3, fd3, g3, F3⟩ := T.d__law_made
  have G3 : FnOk P w K mg base CX0 1 f3 fd3 ["_law_ends_here"] spMade := ok__law_made T F3
  have b3 : Binds K fd3 ["_law_ends_here"] [] := F3.binds fun _ _ _ _ _ _ us hl => match us, hl with | [_], _ => rfl
  have nd := sc__law_core.nd
  refine F.ok sc__law_core (fun vs H Q E h => ?_) (fun cdv A outer s H vs Q E hr h => ?_)
  · obtain ⟨n, rfl, _⟩ := h
    rfl
  · obtain ⟨l, rfl, hl, hc, hfew, q⟩ := h
    refine ⟨_, pss_cons (ps_set (i := 1) nd rfl (.inr rfl) (pe_call G1 hr (by rfl) g1 F1.kp b1 .nil pass0 (pa_cons (pv 0) pa_nil)))
      (pss_one (ps_ret (pe_call G3 (hr.mono (by decide)) (by rfl) g3 F3.kp b3 .nil pass0 (pa_cons
        (pe_lc (own := [("_law_letter", 2), ("_law_count", 3)]) (g := gTup K 2 (gCons (gName 2) (gCons (gName 3) gNil))) (tt := tYes) (te := tTup (tCons (tVar 2) (tCons (tBM K "list" (rIndex K) (tVar 1) (tCons (tVar 3) tNil)) tNil))) rfl nd (pi_list (pe_call G2 (hr.mono (by decide)) (by rfl) g2 F2.kp b2 .nil pass0 (pa_cons (pv 0) pa_nil)))
          (blkOk_by (own := [("_law_letter", 2), ("_law_count", 3)]) (N := ["_law_word_here", "_law_ranks", "_law_letter", "_law_count"]) (sc := defScope s__law_core) (by decide +kernel))
          (fun _ _ _ _ _ => pg_tup rfl (pgs_cons (pg_name (i := 2) nd rfl (.inl rfl) (.inr rfl)) (pgs_cons (pg_name (i := 3) nd rfl (.inl rfl) (.inr rfl)) pgs_nil)))
          (fun _ _ _ _ _ => pts_nil) (fun _ _ _ _ _ => pe_tup (pa_cons (pv 2) (pa_cons (pe_bm PySem.F.plainAttrs_list PySem.F.slot_list_index PySem.F.type_list_index mt_index (pv 1) (pa_cons (pv 3) pa_nil)) pa_nil)))) pa_nil)))), ?_⟩
    refine ⟨_, rfl, l, rfl, hl, hc, hfew, fun H1 u sm hu huM => ?_⟩
    refine ⟨_, rfl, l, rfl, hl, hc, fun H2 p sm2 hp ra => ?_⟩
    obtain ⟨xs, hx, R⟩ := ra
    refine ⟨p, rfl, ⟨xs, .inl (.inl hx)⟩, fun D hD => ?_⟩
    have hxl : xs.length = (runs l).length := R.len
    have huM2 := sm2 _ _ huM
    refine lc_list (K := K) (a := p) (xs := xs) (fun i H' => Same H2 H' ∧ ∃ ys, H' D = some (.lst ys) ∧ RunsL H' ys ((mp (fun n => ix n (marks l)) (runs l)).take i)) ⟨same_upd hD, [], upd_same, RunsL.nil⟩ (fun i H' _ h => .inl (.inl (h.1 _ _ hx))) (fun i x H' hi hP => ?_) (fun H' hP => ?_)
    · obtain ⟨s1, ys, hd1, RY⟩ := hP
      have hi1 : i < (runs l).length := by rw [← hxl]; exact (List.getElem?_eq_some_iff.mp hi).1
      have hRi : (runs l)[i]? = some (runs l)[i] := List.getElem?_eq_getElem hi1
      obtain ⟨t, rfl, ht⟩ := R.at_ i x _ hi hRi
      generalize (runs l)[i] = r at hRi ht
      obtain ⟨c, n⟩ := r
      have hn : n ∈ marks l := mem_mks.mpr (.inr (List.mem_map.mpr ⟨(c, n), List.mem_of_getElem? hRi, rfl⟩))
      refine ⟨t, _, rfl, .inl (.inl (s1 _ _ ht)), rfl, _, _, rfl, _, _, rfl, rfl, rfl, _, rfl, _, rfl, .inl ⟨rfl, _, .inl (.inl (s1 _ _ huM2))⟩, _, rfl, u, _, _, ix n (marks l), _, rfl, rfl, .inl (.inl (s1 _ _ huM2)), rfl, flat_zv _, zv_get (ix_get hn), ?_, ?_, ?_⟩
      · simp [eqV]
      · intro m z hm hz
        obtain ⟨k, hk, rfl⟩ := zv_at hz
        have hne : k ≠ n := fun e => ix_first hm (by rw [hk, e])
        simp only [eqV]
        rw [beq_eq_false_iff_ne] <;> omega
      · refine ⟨by show 2 ≤ sizeLine; decide, fun t2 nt2 => ?_⟩
        have hDt : D ≠ t2 := ne_of_none hd1 nt2
        refine ⟨ys, by rw [upd_ne hDt]; exact hd1, ?_, ?_, ys ++ [.ref t2], upd_same, ?_⟩
        · rw [RY.len, List.length_take, mp_len1, sizeLine_eq]
          omega
        · exact same_put (s1.trans (same_upd nt2)) hD _
        · rw [mp_take _ hRi]
          refine RunsL.snoc (RY.mono ?_) ⟨t2, rfl, by rw [upd_ne (Ne.symm hDt), upd_same]⟩
          refine TupS.trans (same_tups (same_upd nt2)) (tups_upd fun ts z => ?_)
          rw [upd_ne hDt, hd1] at z
          cases z
    · obtain ⟨s1, ys, hd1, RY⟩ := hP
      have hfull : (mp (fun n => ix n (marks l)) (runs l)).take xs.length = mp (fun n => ix n (marks l)) (runs l) := by
        rw [hxl, ← mp_len1 (fun n => ix n (marks l)) (runs l), List.take_length]
      rw [hfull] at RY
      have hcl := core_len l
      refine ⟨D, _, rfl, ⟨ys, hd1, RY⟩, core_pr l, by unfold core at hcl; omega, by rw [mp_len1]; omega, fun H3 s3 => ?_⟩
      exact q H3 (((sm.trans sm2).trans s1).trans s3)

theorem ok_gaps_of (T : Txt K mg) {f : Addr} {fd : FuncData} (F : Fun K "gaps_of" "gaps_of" s_gaps_of f fd) : FnOk P w K mg base CX0 3 f fd ["word"] spGaps := by
  obtain ⟨f1, fd1, g1, F1⟩ := T.d_marks_of
  have G1 : FnOk P w K mg base CX0 2 f1 fd1 ["word"] spMarks := ok_marks_of T F1
  have b1 : Binds K fd1 ["word"] [] := F1.binds fun _ _ _ _ _ _ us hl => match us, hl with | [_], _ => rfl
  have nd := sc_gaps_of.nd
  refine F.ok sc_gaps_of (fun vs H Q E h => ?_) (fun cdv A outer s H vs Q E hr h => ?_)
  · obtain ⟨n, rfl, _⟩ := h
    rfl
  · obtain ⟨l, rfl, hl, hc, hfew, q⟩ := h
    refine ⟨_, pss_cons (ps_set (i := 1) nd rfl (.inr rfl) (pe_call G1 hr (by rfl) g1 F1.kp b1 .nil pass0 (pa_cons (pv 0) pa_nil)))
      (pss_one (ps_ret
        (pe_lc (own := [("at", 2)]) (g := gName 2) (tt := tYes) (te := tOp (rI0 fun i j => .int (i - j)) (tOp (rIxL K) (tVar 1) (tVar 2)) (tOp (rIxL K) (tVar 1) (tOp (rI0 fun i j => .int (i - j)) (tVar 2) (tC (.int 1))))) rfl nd (pi_range2 (by rfl) T.b_range (pa_cons pe_int (pa_cons (pe_callB call_len_seq (by rfl) T.b_len PySem.boot_len (pa_cons (pv 1) pa_nil)) pa_nil)))
          (blkOk_by (own := [("at", 2)]) (N := ["word", "marks", "at"]) (sc := defScope s_gaps_of) (by decide +kernel))
          (fun _ _ _ _ _ => pg_name (i := 2) nd rfl (.inl rfl) (.inr rfl))
          (fun _ _ _ _ _ => pts_nil) (fun _ _ _ _ _ => pe_op op_sub (pe_ix ix_list (pv 1) (pv 2) (fun _ _ => rfl)) (pe_ix ix_list (pv 1) (pe_op op_sub (pv 2) pe_int) (fun _ _ => rfl)))))), ?_⟩
    refine ⟨_, rfl, l, rfl, hl, hc, hfew, fun H1 u sm hu huM => ?_⟩
    have hml : (marks l).length ≤ l.length + 1 := by
      have h1 := core_gaps_len l
      have h2 := core_m (core_ok l)
      have h3 := core_len l
      omega
    have ha := mks_asc ((runs l).map (·.2))
    have hzl := zv_len (marks l)
    refine ⟨_, rfl, u, _, rfl, .inl (.inl (.inl huM)), _, _, rfl, ⟨by omega, by omega, by omega, by omega⟩, fun D hD => ?_⟩
    have hlen : (((zv (marks l)).length : Int) - 1).toNat = (marks l).length - 1 := by omega
    rw [hlen]
    refine lc_range (lo := 1) (n := (marks l).length - 1) (fun i H' => Same H1 H' ∧ H' D = some (.lst (zv ((gaps l).take i)))) ⟨same_upd hD, upd_same⟩ (fun i H' hi hP => ?_) (fun H' hP => ?_)
    · obtain ⟨s1, hd1⟩ := hP
      have hM := s1 _ _ huM
      have m1 : (marks l)[i]? = some (marks l)[i] := List.getElem?_eq_getElem (by omega)
      have m2 : (marks l)[i + 1]? = some (marks l)[i + 1] := List.getElem?_eq_getElem (by omega)
      generalize (marks l)[i] = x1 at m1
      generalize (marks l)[i + 1] = x2 at m2
      have hle := asc_sub ha m1 m2
      have e1 : (1 : Int) + ((i : Nat) : Int) = ((i + 1 : Nat) : Int) := by omega
      have e2 : (1 : Int) + ((i : Nat) : Int) - 1 = ((i : Nat) : Int) := by omega
      have hg : (gaps l)[i]? = some (x2 - x1) := by
        unfold gaps df
        rw [List.getElem?_map, List.getElem?_range hi, Option.map_some]
        rw [List.getD_eq_getElem?_getD, List.getD_eq_getElem?_getD, m1, m2]
        rfl
      refine ⟨rfl, _, rfl, _, rfl, u, _, _, .int ((x2 : Nat) : Int), rfl, rfl, .inl (.inl hM), by rw [e1]; exact atI_nat (zv_get m2), _, rfl, _, rfl, _, _, rfl, rfl, u, _, _, .int ((x1 : Nat) : Int), rfl, rfl, .inl (.inl hM), by rw [e2]; exact atI_nat (zv_get m1), _, _, rfl, rfl, _, hd1, ?_, ?_, ?_⟩
      · rw [zv_len, List.length_take, sizeLine_eq]
        omega
      · exact same_put s1 hD _
      · rw [upd_same]
        congr 2
        rw [← zv_take (gaps l) i _ hg]
        exact congrArg (fun v => zv ((gaps l).take i) ++ [v]) (vsub hle)
    · obtain ⟨s1, hd1⟩ := hP
      have hgl : (gaps l).length = (marks l).length - 1 := by
        unfold gaps df
        rw [List.length_map, List.length_range]
      rw [← hgl, List.take_length] at hd1
      exact q H' D (sm.trans s1) (sm.free hD) hd1

theorem ok__law_gaps (T : Txt K mg) {f : Addr} {fd : FuncData} (F : Fun K "_law_gaps" "_law_gaps" s__law_gaps f fd) : FnOk P w K mg base CX0 3 f fd ["_law_word_here"] spGaps := by
  obtain ⟨f1, fd1, g1, F1⟩ := T.d__law_marks
  have G1 : FnOk P w K mg base CX0 2 f1 fd1 ["_law_word_here"] spMarks := ok__law_marks T F1
  have b1 : Binds K fd1 ["_law_word_here"] [] := F1.binds fun _ _ _ _ _ _ us hl => match us, hl with | [_], _ => rfl
  have nd := sc__law_gaps.nd
  refine F.ok sc__law_gaps (fun vs H Q E h => ?_) (fun cdv A outer s H vs Q E hr h => ?_)
  · obtain ⟨n, rfl, _⟩ := h
    rfl
  · obtain ⟨l, rfl, hl, hc, hfew, q⟩ := h
    refine ⟨_, pss_cons (ps_set (i := 1) nd rfl (.inr rfl) (pe_call G1 hr (by rfl) g1 F1.kp b1 .nil pass0 (pa_cons (pv 0) pa_nil)))
      (pss_one (ps_ret
        (pe_lc (own := [("_law_at", 2)]) (g := gName 2) (tt := tYes) (te := tOp (rI0 fun i j => .int (i - j)) (tOp (rIxL K) (tVar 1) (tVar 2)) (tOp (rIxL K) (tVar 1) (tOp (rI0 fun i j => .int (i - j)) (tVar 2) (tC (.int 1))))) rfl nd (pi_range2 (by rfl) T.b_range (pa_cons pe_int (pa_cons (pe_callB call_len_seq (by rfl) T.b_len PySem.boot_len (pa_cons (pv 1) pa_nil)) pa_nil)))
          (blkOk_by (own := [("_law_at", 2)]) (N := ["_law_word_here", "_law_ranks", "_law_at"]) (sc := defScope s__law_gaps) (by decide +kernel))
          (fun _ _ _ _ _ => pg_name (i := 2) nd rfl (.inl rfl) (.inr rfl))
          (fun _ _ _ _ _ => pts_nil) (fun _ _ _ _ _ => pe_op op_sub (pe_ix ix_list (pv 1) (pv 2) (fun _ _ => rfl)) (pe_ix ix_list (pv 1) (pe_op op_sub (pv 2) pe_int) (fun _ _ => rfl)))))), ?_⟩
    refine ⟨_, rfl, l, rfl, hl, hc, hfew, fun H1 u sm hu huM => ?_⟩
    have hml : (marks l).length ≤ l.length + 1 := by
      have h1 := core_gaps_len l
      have h2 := core_m (core_ok l)
      have h3 := core_len l
      omega
    have ha := mks_asc ((runs l).map (·.2))
    have hzl := zv_len (marks l)
    refine ⟨_, rfl, u, _, rfl, .inl (.inl (.inl huM)), _, _, rfl, ⟨by omega, by omega, by omega, by omega⟩, fun D hD => ?_⟩
    have hlen : (((zv (marks l)).length : Int) - 1).toNat = (marks l).length - 1 := by omega
    rw [hlen]
    refine lc_range (lo := 1) (n := (marks l).length - 1) (fun i H' => Same H1 H' ∧ H' D = some (.lst (zv ((gaps l).take i)))) ⟨same_upd hD, upd_same⟩ (fun i H' hi hP => ?_) (fun H' hP => ?_)
    · obtain ⟨s1, hd1⟩ := hP
      have hM := s1 _ _ huM
      have m1 : (marks l)[i]? = some (marks l)[i] := List.getElem?_eq_getElem (by omega)
      have m2 : (marks l)[i + 1]? = some (marks l)[i + 1] := List.getElem?_eq_getElem (by omega)
      generalize (marks l)[i] = x1 at m1
      generalize (marks l)[i + 1] = x2 at m2
      have hle := asc_sub ha m1 m2
      have e1 : (1 : Int) + ((i : Nat) : Int) = ((i + 1 : Nat) : Int) := by omega
      have e2 : (1 : Int) + ((i : Nat) : Int) - 1 = ((i : Nat) : Int) := by omega
      have hg : (gaps l)[i]? = some (x2 - x1) := by
        unfold gaps df
        rw [List.getElem?_map, List.getElem?_range hi, Option.map_some]
        rw [List.getD_eq_getElem?_getD, List.getD_eq_getElem?_getD, m1, m2]
        rfl
      refine ⟨rfl, _, rfl, _, rfl, u, _, _, .int ((x2 : Nat) : Int), rfl, rfl, .inl (.inl hM), by rw [e1]; exact atI_nat (zv_get m2), _, rfl, _, rfl, _, _, rfl, rfl, u, _, _, .int ((x1 : Nat) : Int), rfl, rfl, .inl (.inl hM), by rw [e2]; exact atI_nat (zv_get m1), _, _, rfl, rfl, _, hd1, ?_, ?_, ?_⟩
      · rw [zv_len, List.length_take, sizeLine_eq]
        omega
      · exact same_put s1 hD _
      · rw [upd_same]
        congr 2
        rw [← zv_take (gaps l) i _ hg]
        exact congrArg (fun v => zv ((gaps l).take i) ++ [v]) (vsub hle)
    · obtain ⟨s1, hd1⟩ := hP
      have hgl : (gaps l).length = (marks l).length - 1 := by
        unfold gaps df
        rw [List.length_map, List.length_range]
      rw [← hgl, List.take_length] at hd1
      exact q H' D (sm.trans s1) (sm.free hD) hd1

end
end Sc
namespace Sc
open PySem PySem.Spec PyProof.Rows L2
theorem zv_split (l : List Nat) (n : Nat) : zv (l ++ [n]) = zv l ++ [.int ((n : Nat) : Int)] := (zv_snoc l n).symm
theorem range_take {α : Type} (f : Nat → α) (n : Nat) : (List.range (n + 1)).map f = (List.range n).map f ++ [f n] := by
  rw [List.range_succ, List.map_append]
  rfl
theorem vadd (a b : Nat) : V.int (((a : Nat) : Int) + ((b : Nat) : Int)) = V.int ((a + b : Nat) : Int) := by
  congr 1
/-- the reading of «for one in told: sums.append(sums[-1] + one)» behind sums = [0]: s the slot of sums, t that of one, o that of told -/
theorem sums_loop {K : PySem.W.Frag} {a p : Addr} {g : List Nat} {D : Ends} {σ : L2.St} {H H0 : Hp} (ss : Nat) (st : Nat) (hne : st ≠ ss) (hss : ss < σ.length) (hst : st < σ.length) (hS : SqL K H0 a (zv g)) (hpH : H0 p = none) (hlen : g.length ≤ 2000)
    (hσ : σ[ss]? = some (some (.ref p))) (sm0 : Same H0 H) (hp : H p = some (.lst [.int 0]))
    (hd : ∀ σ' H', σ' = σ.set st (σ'[st]?.getD none) → Same H0 H' → H' p = some (.lst (zv (sums g))) → D.nx σ' H') :
    ∃ W : Nat → Nat → L2.St → Hp → Prop, (∃ m, W 0 m σ H) ∧ ∀ i m σ H, W i m σ H →
      ((Itl K a).stop i H ∧ D.nx σ H) ∨ ((Itl K a).go i H ∧ ∃ N : L2.St → Hp → Prop, (∀ σ' H', N σ' H' → ∃ m', m' < m ∧ W (i + 1) m' σ' H') ∧ ∀ x H', (Itl K a).yld i H x H' → (gName st) x σ H' fun σ2 H2 =>
        (tDrop (tBM K "list" rAppend (tVar ss) (tCons (tOp (rI0 fun i j => .int (i + j)) (tOp (rIxL K) (tVar ss) (tUn (rU fun i => .int (-i)) (tC (.int 1)))) (tVar st)) tNil))) { D with nx := N, ct := N, bk := D.nx } σ2 H2) := by
  have hzl := zv_len g
  refine for_list (K := K) (a := a) (xs := zv g) (fun i σ' H' => σ' = σ.set st (σ'[st]?.getD none) ∧ Same H0 H' ∧ H' p = some (.lst (zv ((List.range (i + 1)).map (sm g))))) ⟨?_, sm0, ?_⟩ (fun i σ' H' _ h => h.2.1.seq hS) (fun i x σ' H1 hi hP => ?_) (fun σ' H1 hP => ?_)
  · have e : σ[st]?.getD none = σ[st] := by rw [List.getElem?_eq_getElem hst]; rfl
    rw [e, List.set_getElem_self]
  · rw [hp]
    rfl
  · obtain ⟨eσ, s1, h1⟩ := hP
    obtain ⟨n, hn, rfl⟩ := zv_at hi
    have hi1 : i < g.length := (List.getElem?_eq_some_iff.mp hn).1
    rw [range_take, zv_split] at h1
    have hs1 : (σ'.set st (some (.int ((n : Nat) : Int))))[ss]? = some (some (.ref p)) := by
      rw [List.getElem?_set_ne hne, eσ, List.getElem?_set_ne hne]
      exact hσ
    have hl : σ'.length = σ.length := by rw [eσ, List.length_set]
    have hs2 : (σ'.set st (some (.int ((n : Nat) : Int))))[st]? = some (some (.int ((n : Nat) : Int))) := by
      rw [List.getElem?_set_self (by rw [hl]; exact hst)]
    refine ⟨_, hs1, .inl ⟨rfl, _, .inl (.inl h1)⟩, _, hs1, 1, rfl, p, _, -1, _, rfl, rfl, .inl (.inl h1), atI_last _ _, _, hs2, _, _, rfl, rfl, ?_⟩
    refine ⟨p, _, _, rfl, rfl, h1, ?_, ?_, same_put s1 hpH _, ?_⟩
    · rw [List.length_append, List.length_singleton, zv_len, List.length_map, List.length_range, sizeLine_eq]
      omega
    · rw [hs2, Option.getD_some]
      have e3 : σ'.set st (some (V.int ((n : Nat) : Int))) = (σ.set st (σ'[st]?.getD none)).set st (some (V.int ((n : Nat) : Int))) := by rw [← eσ]
      rw [e3, List.set_set]
    · rw [upd_same, range_take, range_take, zv_split, zv_split]
      have e4 : sm g (i + 1) = sm g i + n := by rw [sm_succ, List.getD_eq_getElem?_getD, hn]; rfl
      have e5 := vadd (sm g i) n
      rw [e4, ← e5]
  · obtain ⟨eσ, s1, h1⟩ := hP
    refine hd σ' H1 eσ s1 ?_
    rw [hzl] at h1
    exact h1
section
variable {P : Program} {w : World} {K : PySem.W.Frag} {mg : Str → Option Value} {base : Heap}
def spSums (K : PySem.W.Frag) : Sp := fun vs H Q _ => ∃ (a : Addr) (g : List Nat), vs = [.ref a] ∧ SqL K H a (zv g) ∧ g.length ≤ 2000 ∧ ∀ H' p, Same H H' → H p = none → H' p = some (.lst (zv (sums g))) → Q (.ref p) H'
theorem ok_sums_of (T : Txt K mg) {f : Addr} {fd : FuncData} (F : Fun K "sums_of" "sums_of" s_sums_of f fd) : FnOk P w K mg base CX0 1 f fd ["told"] (spSums K) := by
  have nd := sc_sums_of.nd
  refine F.ok sc_sums_of (fun vs H Q E h => ?_) (fun cdv A outer s H vs Q E hr h => ?_)
  · obtain ⟨a, g, rfl, _⟩ := h
    rfl
  · obtain ⟨a, g, rfl, hS, hlen, q⟩ := h
    refine ⟨_, pss_cons (ps_set (i := 1) nd rfl (.inl rfl) (pe_lst (pa_cons pe_int pa_nil)))
      (pss_cons (ps_for PassesOwn.never rfl (pi_list (pv 0)) (pg_name (i := 2) nd rfl (.inl rfl))
        (pss_one (ps_expr (pe_bm PySem.F.plainAttrs_list PySem.F.slot_list_append PySem.F.type_list_append mt_append (pv 1)
          (pa_cons (pe_op op_add (pe_ix ix_list (pv 1) (pe_un un_neg pe_int) (fun _ _ => rfl)) (pv 2)) pa_nil)))))
      (pss_one (ps_ret (pv 1)))), ?_⟩
    refine ⟨by show 1 ≤ sizeLine; decide, fun p hp => ?_⟩
    refine ⟨_, rfl, a, rfl, ⟨_, (same_upd hp).seq hS⟩, sums_loop (H0 := H) (p := p) 1 2 (by decide) (by show 1 < 3; decide) (by show 2 < 3; decide) hS hp hlen rfl (same_upd hp) upd_same fun σ' H' e s1 h1 => ?_⟩
    generalize σ'[2]?.getD none = y at e
    subst e
    exact ⟨_, rfl, q H' p s1 hp h1⟩
/-! ### words by gaps -/
def spGrown (K : PySem.W.Frag) : Sp := fun vs H Q _ => ∃ (c : List Nat) (a : Addr) (g : List Nat) (m : Nat), vs = [.str (S c), .ref a] ∧ SqL K H a (zv g) ∧ CoreR (runs c) m ∧ g.length = m ∧ (∀ x ∈ g, 1 ≤ x) ∧ c.length ≤ 2000 ∧ Low c ∧ (grown c g).length ≤ 2000 ∧
  ∀ H', Same H H' → Q (.str (S (grown c g))) H'

theorem ok_grown (T : Txt K mg) {f : Addr} {fd : FuncData} (F : Fun K "grown" "grown" s_grown f fd) : FnOk P w K mg base CX0 2 f fd ["word", "told"] (spGrown K) := by
  obtain ⟨f2, fd2, g2, F2⟩ := T.d_runs_of
  have G2 : FnOk P w K mg base CX0 1 f2 fd2 ["word"] spRuns := ok_runs_of T F2
  have b2 : Binds K fd2 ["word"] [] := F2.binds fun _ _ _ _ _ _ us hl => match us, hl with | [_], _ => rfl
  obtain ⟨f3, fd3, g3, F3⟩ := T.d_word_of
  have G3 : FnOk P w K mg base CX0 1 f3 fd3 ["runs"] spMade := ok_word_of T F3
  have b3 : Binds K fd3 ["runs"] [] := F3.binds fun _ _ _ _ _ _ us hl => match us, hl with | [_], _ => rfl
  obtain ⟨f1, fd1, g1, F1⟩ := T.d_sums_of
  have G1 : FnOk P w K mg base CX0 1 f1 fd1 ["told"] (spSums K) := ok_sums_of T F1
  have b1 : Binds K fd1 ["told"] [] := F1.binds fun _ _ _ _ _ _ us hl => match us, hl with | [_], _ => rfl
  have nd := sc_grown.nd
  refine F.ok sc_grown (fun vs H Q E h => ?_) (fun cdv A outer s H vs Q E hr h => ?_)
  · obtain ⟨c, a, g, m, rfl, _⟩ := h
    rfl
  · obtain ⟨c, a, g, m, rfl, hS, C, hgm, hg1, hcl, hlow, hgl, q⟩ := h
    have hm : m ≤ 2000 := Nat.le_trans (core_m C) hcl
    refine ⟨_, pss_cons (ps_set (i := 2) nd rfl (.inr rfl) (pe_call G1 hr (by rfl) g1 F1.kp b1 .nil pass0 (pa_cons (pv 1) pa_nil)))
      (pss_one (ps_ret (pe_call G3 hr (by rfl) g3 F3.kp b3 .nil pass0 (pa_cons
        (pe_lc (own := [("letter", 3), ("rank", 4)]) (g := gTup K 2 (gCons (gName 3) (gCons (gName 4) gNil))) (tt := tYes) (te := tTup (tCons (tVar 3) (tCons (tOp (rIxL K) (tVar 2) (tVar 4)) tNil))) rfl nd (pi_list (pe_call G2 hr (by rfl) g2 F2.kp b2 .nil pass0 (pa_cons (pv 0) pa_nil)))
          (blkOk_by (own := [("letter", 3), ("rank", 4)]) (N := ["word", "told", "sums", "letter", "rank"]) (sc := defScope s_grown) (by decide +kernel))
          (fun _ _ _ _ _ => pg_tup rfl (pgs_cons (pg_name (i := 3) nd rfl (.inl rfl) (.inr rfl)) (pgs_cons (pg_name (i := 4) nd rfl (.inl rfl) (.inr rfl)) pgs_nil)))
          (fun _ _ _ _ _ => pts_nil) (fun _ _ _ _ _ => pe_tup (pa_cons (pv 3) (pa_cons (pe_ix ix_list (pv 2) (pv 4) (fun _ _ => rfl)) pa_nil)))) pa_nil)))), ?_⟩
    refine ⟨_, rfl, a, g, rfl, hS, by omega, fun H1 u smA hu huM => ?_⟩
    refine ⟨_, rfl, c, rfl, hcl, hlow, fun H2 p sm2 hp ra => ?_⟩
    obtain ⟨xs, hx, R⟩ := ra
    refine ⟨p, rfl, ⟨xs, .inl (.inl hx)⟩, fun D hD => ?_⟩
    have hxl : xs.length = (runs c).length := R.len
    have hrl : (runs c).length ≤ c.length := rn_len k0 c
    have huM2 := sm2 _ _ huM
    refine lc_list (K := K) (a := p) (xs := xs) (fun i H' => Same H2 H' ∧ ∃ ys, H' D = some (.lst ys) ∧ RunsL H' ys ((mp (sm g) (runs c)).take i)) ⟨same_upd hD, [], upd_same, RunsL.nil⟩ (fun i H' _ h => .inl (.inl (h.1 _ _ hx))) (fun i x H' hi hP => ?_) (fun H' hP => ?_)
    · obtain ⟨s1, ys, hd1, RY⟩ := hP
      have hi1 : i < (runs c).length := by rw [← hxl]; exact (List.getElem?_eq_some_iff.mp hi).1
      have hRi : (runs c)[i]? = some (runs c)[i] := List.getElem?_eq_getElem hi1
      obtain ⟨t, rfl, ht⟩ := R.at_ i x _ hi hRi
      generalize (runs c)[i] = r at hRi ht
      obtain ⟨d, n⟩ := r
      have hn : n ≤ g.length := by rw [hgm]; exact core_le C (d, n) (List.mem_of_getElem? hRi)
      refine ⟨t, _, rfl, .inl (.inl (s1 _ _ ht)), rfl, _, _, rfl, _, _, rfl, rfl, rfl, _, rfl, _, rfl, _, rfl, u, _, _, _, rfl, rfl, .inl (.inl (s1 _ _ huM2)), atI_nat (zv_get (sums_get hn)), ?_⟩
      refine ⟨by show 2 ≤ sizeLine; decide, fun t2 nt2 => ?_⟩
      have hDt : D ≠ t2 := ne_of_none hd1 nt2
      refine ⟨ys, by rw [upd_ne hDt]; exact hd1, ?_, ?_, ys ++ [.ref t2], upd_same, ?_⟩
      · rw [RY.len, List.length_take, mp_len1, sizeLine_eq]
        omega
      · exact same_put (s1.trans (same_upd nt2)) hD _
      · rw [mp_take _ hRi]
        refine RunsL.snoc (RY.mono ?_) ⟨t2, rfl, by rw [upd_ne (Ne.symm hDt), upd_same]⟩
        refine TupS.trans (same_tups (same_upd nt2)) (tups_upd fun ts z => ?_)
        rw [upd_ne hDt, hd1] at z
        cases z
    · obtain ⟨s1, ys, hd1, RY⟩ := hP
      have hfull : (mp (sm g) (runs c)).take xs.length = mp (sm g) (runs c) := by
        rw [hxl, ← mp_len1 (sm g) (runs c), List.take_length]
      rw [hfull] at RY
      refine ⟨D, _, rfl, ⟨ys, hd1, RY⟩, grown_pr C hgm hg1, hgl, by rw [mp_len1]; omega, fun H3 s3 => ?_⟩
      exact q H3 (((smA.trans sm2).trans s1).trans s3)

theorem ok__law_grown (T : Txt K mg) {f : Addr} {fd : FuncData} (F : Fun K "_law_grown" "_law_grown" s__law_grown f fd) : FnOk P w K mg base CX0 2 f fd ["_law_bare", "_law_widths"] (spGrown K) := by
  obtain ⟨f2, fd2, g2, F2⟩ := T.d__law_ends
  have G2 : FnOk P w K mg base CX0 1 f2 fd2 ["_law_word_here"] spRuns := ok__law_ends T F2
  have b2 : Binds K fd2 ["_law_word_here"] [] := F2.binds fun _ _ _ _ _ _ us hl => match us, hl with | [_], _ => rfl
  obtain ⟨f3, fd3, g3, F3⟩ := T.d__law_made
  have G3 : FnOk P w K mg base CX0 1 f3 fd3 ["_law_ends_here"] spMade := ok__law_made T F3
  have b3 : Binds K fd3 ["_law_ends_here"] [] := F3.binds fun _ _ _ _ _ _ us hl => match us, hl with | [_], _ => rfl
  have nd := sc__law_grown.nd
  refine F.ok sc__law_grown (fun vs H Q E h => ?_) (fun cdv A outer s H vs Q E hr h => ?_)
  · obtain ⟨c, a, g, m, rfl, _⟩ := h
    rfl
  · obtain ⟨c, a, g, m, rfl, hS, C, hgm, hg1, hcl, hlow, hgl, q⟩ := h
    have hm : m ≤ 2000 := Nat.le_trans (core_m C) hcl
    refine ⟨_, pss_cons (ps_set (i := 2) nd rfl (.inr rfl) (pe_lst (pa_cons pe_int pa_nil)))
      (pss_cons (ps_for PassesOwn.never rfl (pi_list (pv 1)) (pg_name (i := 3) nd rfl (.inl rfl))
        (pss_one (ps_expr (pe_bm PySem.F.plainAttrs_list PySem.F.slot_list_append PySem.F.type_list_append mt_append (pv 2)
          (pa_cons (pe_op op_add (pe_ix ix_list (pv 2) (pe_un un_neg pe_int) (fun _ _ => rfl)) (pv 3)) pa_nil)))))
      (pss_one (ps_ret (pe_call G3 hr (by rfl) g3 F3.kp b3 .nil pass0 (pa_cons
        (pe_lc (own := [("_law_letter", 4), ("_law_rank", 5)]) (g := gTup K 2 (gCons (gName 4) (gCons (gName 5) gNil))) (tt := tYes) (te := tTup (tCons (tVar 4) (tCons (tOp (rIxL K) (tVar 2) (tVar 5)) tNil))) rfl nd (pi_list (pe_call G2 hr (by rfl) g2 F2.kp b2 .nil pass0 (pa_cons (pv 0) pa_nil)))
          (blkOk_by (own := [("_law_letter", 4), ("_law_rank", 5)]) (N := ["_law_bare", "_law_widths", "_law_sums", "_law_one", "_law_letter", "_law_rank"]) (sc := defScope s__law_grown) (by decide +kernel))
          (fun _ _ _ _ _ => pg_tup rfl (pgs_cons (pg_name (i := 4) nd rfl (.inl rfl) (.inr rfl)) (pgs_cons (pg_name (i := 5) nd rfl (.inl rfl) (.inr rfl)) pgs_nil)))
          (fun _ _ _ _ _ => pts_nil) (fun _ _ _ _ _ => pe_tup (pa_cons (pv 4) (pa_cons (pe_ix ix_list (pv 2) (pv 5) (fun _ _ => rfl)) pa_nil)))) pa_nil))))), ?_⟩
    refine ⟨by show 1 ≤ sizeLine; decide, fun u hu => ?_⟩
    refine ⟨_, rfl, a, rfl, ⟨_, (same_upd hu).seq hS⟩, sums_loop (H0 := H) (p := u) 2 3 (by decide) (by show 2 < 6; decide) (by show 3 < 6; decide) hS hu (by omega) rfl (same_upd hu) upd_same fun σ' H1 e smA huM => ?_⟩
    generalize σ'[3]?.getD none = y at e
    subst e
    refine ⟨_, rfl, c, rfl, hcl, hlow, fun H2 p sm2 hp ra => ?_⟩
    obtain ⟨xs, hx, R⟩ := ra
    refine ⟨p, rfl, ⟨xs, .inl (.inl hx)⟩, fun D hD => ?_⟩
    have hxl : xs.length = (runs c).length := R.len
    have hrl : (runs c).length ≤ c.length := rn_len k0 c
    have huM2 := sm2 _ _ huM
    refine lc_list (K := K) (a := p) (xs := xs) (fun i H' => Same H2 H' ∧ ∃ ys, H' D = some (.lst ys) ∧ RunsL H' ys ((mp (sm g) (runs c)).take i)) ⟨same_upd hD, [], upd_same, RunsL.nil⟩ (fun i H' _ h => .inl (.inl (h.1 _ _ hx))) (fun i x H' hi hP => ?_) (fun H' hP => ?_)
    · obtain ⟨s1, ys, hd1, RY⟩ := hP
      have hi1 : i < (runs c).length := by rw [← hxl]; exact (List.getElem?_eq_some_iff.mp hi).1
      have hRi : (runs c)[i]? = some (runs c)[i] := List.getElem?_eq_getElem hi1
      obtain ⟨t, rfl, ht⟩ := R.at_ i x _ hi hRi
      generalize (runs c)[i] = r at hRi ht
      obtain ⟨d, n⟩ := r
      have hn : n ≤ g.length := by rw [hgm]; exact core_le C (d, n) (List.mem_of_getElem? hRi)
      refine ⟨t, _, rfl, .inl (.inl (s1 _ _ ht)), rfl, _, _, rfl, _, _, rfl, rfl, rfl, _, rfl, _, rfl, _, rfl, u, _, _, _, rfl, rfl, .inl (.inl (s1 _ _ huM2)), atI_nat (zv_get (sums_get hn)), ?_⟩
      refine ⟨by show 2 ≤ sizeLine; decide, fun t2 nt2 => ?_⟩
      have hDt : D ≠ t2 := ne_of_none hd1 nt2
      refine ⟨ys, by rw [upd_ne hDt]; exact hd1, ?_, ?_, ys ++ [.ref t2], upd_same, ?_⟩
      · rw [RY.len, List.length_take, mp_len1, sizeLine_eq]
        omega
      · exact same_put (s1.trans (same_upd nt2)) hD _
      · rw [mp_take _ hRi]
        refine RunsL.snoc (RY.mono ?_) ⟨t2, rfl, by rw [upd_ne (Ne.symm hDt), upd_same]⟩
        refine TupS.trans (same_tups (same_upd nt2)) (tups_upd fun ts z => ?_)
        rw [upd_ne hDt, hd1] at z
        cases z
    · obtain ⟨s1, ys, hd1, RY⟩ := hP
      have hfull : (mp (sm g) (runs c)).take xs.length = mp (sm g) (runs c) := by
        rw [hxl, ← mp_len1 (sm g) (runs c), List.take_length]
      rw [hfull] at RY
      refine ⟨D, _, rfl, ⟨ys, hd1, RY⟩, grown_pr C hgm hg1, hgl, by rw [mp_len1]; omega, fun H3 s3 => ?_⟩
      exact q H3 (((smA.trans sm2).trans s1).trans s3)

end
end Sc
namespace Sc
open PySem PySem.Spec PyProof.Rows L2
/-- a small word by its core and gaps -/
structure Wd (c g : List Nat) (m : Nat) : Prop where
  C : CoreR (runs c) m
  gl : g.length = m
  g1 : ∀ x ∈ g, 1 ≤ x
  gB : ∀ x ∈ g, x ≤ 30
  cl : c.length ≤ 9
  lt : Lts c
theorem grown_lts {c g : List Nat} (h : Lts c) : Lts (grown c g) := fun x hx => by
  obtain ⟨n, hn⟩ := mk_mem k0 _ x hx
  obtain ⟨p, hp, e⟩ := List.mem_map.mp hn
  have h1 := rn_mem k0 c p hp
  have e1 : p.1 = x := congrArg Prod.fst e
  rw [← e1]
  exact h _ h1
section
variable {c g : List Nat} {m : Nat}
theorem Wd.len (W : Wd c g m) : (grown c g).length ≤ 2000 := by
  have h1 := grown_len W.C W.gl 30 W.gB
  have h2 := W.cl
  omega
theorem Wd.lts (W : Wd c g m) : Lts (grown c g) := grown_lts W.lt
theorem Wd.few (W : Wd c g m) : (runs (grown c g)).length ≤ 50 := by
  rw [grown_runs W.C W.gl W.g1, mp_len1]
  have h1 := rn_len k0 c
  have h2 := W.cl
  unfold runs
  omega
theorem Wd.core (W : Wd c g m) : core (grown c g) = c := grown_core W.C W.gl W.g1
theorem Wd.gaps (W : Wd c g m) : gaps (grown c g) = g := grown_gaps W.C W.gl W.g1
theorem Wd.m9 (W : Wd c g m) : m ≤ 9 := Nat.le_trans (core_m W.C) W.cl
theorem sum_le {B : Nat} : ∀ {l : List Nat}, (∀ x ∈ l, x ≤ B) → l.sum ≤ B * l.length
  | [], _ => by simp
  | a :: r, h => by
    have h1 := h a List.mem_cons_self
    have h2 := sum_le fun x hx => h x (List.mem_cons_of_mem _ hx)
    rw [List.sum_cons, List.length_cons, Nat.mul_succ]
    omega
end
/-- no gap of g is greater than that of h -/
def le (g h : List Nat) : Bool := (g.zip h).all fun p => decide (p.1 ≤ p.2)
theorem le_iff {g h : List Nat} : le g h = true ↔ ∀ p ∈ g.zip h, p.1 ≤ p.2 := by
  unfold le
  rw [List.all_eq_true]
  constructor
  · intro q p hp
    exact of_decide_eq_true (q p hp)
  · intro q p hp
    exact decide_eq_true (q p hp)
theorem zip_get {g h : List Nat} {i x y : Nat} (h1 : g[i]? = some x) (h2 : h[i]? = some y) : (g.zip h)[i]? = some (x, y) := by
  rw [List.getElem?_zip_eq_some]
  exact ⟨h1, h2⟩
theorem zip_at {g h : List Nat} {i : Nat} {p : Nat × Nat} (e : (g.zip h)[i]? = some p) : g[i]? = some p.1 ∧ h[i]? = some p.2 := by
  rw [List.getElem?_zip_eq_some] at e
  exact e
section
variable {P : Program} {w : World} {K : PySem.W.Frag} {mg : Str → Option Value} {base : Heap}
/-! ### grows_to, is_saying -/
def spGrows : Sp := fun vs H Q _ => ∃ (c g h : List Nat) (m : Nat), vs = [.str (S (grown c g)), .str (S (grown c h))] ∧ Wd c g m ∧ Wd c h m ∧ ∀ H', Same H H' → Q (.bl (le g h)) H'
theorem ok_grows_to (T : Txt K mg) {f : Addr} {fd : FuncData} (F : Fun K "grows_to" "grows_to" s_grows_to f fd) : FnOk P w K mg base CX0 4 f fd ["one", "other"] spGrows := by
  obtain ⟨f1, fd1, g1, F1⟩ := T.d_core_of
  have G1 : FnOk P w K mg base CX0 3 f1 fd1 ["word"] spCore := ok_core_of T F1
  have b1 : Binds K fd1 ["word"] [] := F1.binds fun _ _ _ _ _ _ us hl => match us, hl with | [_], _ => rfl
  obtain ⟨f2, fd2, g2, F2⟩ := T.d_gaps_of
  have G2 : FnOk P w K mg base CX0 3 f2 fd2 ["word"] spGaps := ok_gaps_of T F2
  have b2 : Binds K fd2 ["word"] [] := F2.binds fun _ _ _ _ _ _ us hl => match us, hl with | [_], _ => rfl
  have nd := sc_grows_to.nd
  refine F.ok sc_grows_to (fun vs H Q E h => ?_) (fun cdv A outer s H vs Q E hr h => ?_)
  · obtain ⟨c, g, h, m, rfl, _⟩ := h
    rfl
  · obtain ⟨c, g, h, m, rfl, W1, W2, q⟩ := h
    refine ⟨_, pss_cons (ps_if (pt_cmpR op_ne (pe_call G1 hr (by rfl) g1 F1.kp b1 .nil pass0 (pa_cons (pv 0) pa_nil)) (pe_call G1 hr (by rfl) g1 F1.kp b1 .nil pass0 (pa_cons (pv 1) pa_nil)) (nomark _)) (pss_one (ps_ret pe_bl)) pss_nil)
      (pss_one (ps_ret (pe_callB (cr_all rfl) (by rfl) T.b_all (by decide +kernel) (pa_cons
        (pe_lc (own := [("a", 2), ("b", 3)]) (g := gTup K 2 (gCons (gName 2) (gCons (gName 3) gNil))) (tt := tYes) (te := tOp (rI0 fun i j => .bl (decide (i ≤ j))) (tVar 2) (tVar 3)) rfl nd
          (pi_zip (by rfl) T.b_zip (pa_cons (pe_call G2 hr (by rfl) g2 F2.kp b2 .nil pass0 (pa_cons (pv 0) pa_nil)) (pa_cons (pe_call G2 hr (by rfl) g2 F2.kp b2 .nil pass0 (pa_cons (pv 1) pa_nil)) pa_nil)))
          (blkOk_by (own := [("a", 2), ("b", 3)]) (N := ["one", "other", "a", "b"]) (sc := defScope s_grows_to) (by decide +kernel))
          (fun _ _ _ _ _ => pg_tup rfl (pgs_cons (pg_name (i := 2) nd rfl (.inl rfl) (.inr rfl)) (pgs_cons (pg_name (i := 3) nd rfl (.inl rfl) (.inr rfl)) pgs_nil)))
          (fun _ _ _ _ _ => pts_nil) (fun _ _ _ _ _ => pe_cmpR op_le (pv 2) (pv 3) (nomark _))) pa_nil)))), ?_⟩
    refine ⟨_, rfl, _, rfl, W1.len, W1.lts.low, W1.few, fun H1 sm1 => ?_⟩
    refine ⟨_, rfl, _, rfl, W2.len, W2.lts.low, W2.few, fun H2 sm2 => ?_⟩
    rw [W1.core, W2.core]
    refine ⟨rfl, false, by simp, iteF ?_⟩
    refine ⟨_, rfl, _, rfl, W1.len, W1.lts.low, W1.few, fun H3 p1 sm3 hp1 hq1 => ?_⟩
    refine ⟨_, rfl, _, rfl, W2.len, W2.lts.low, W2.few, fun H4 p2 sm4 hp2 hq2 => ?_⟩
    rw [W1.gaps] at hq1
    rw [W2.gaps] at hq2
    have hq1' := sm4 _ _ hq1
    have hgl := W1.gl
    have hhl := W2.gl
    have h9 := W1.m9
    refine ⟨p1, p2, _, _, rfl, .inl (.inl hq1'), .inl (.inl hq2), fun D hD => ?_⟩
    have z1 := zv_len g
    have z2 := zv_len h
    refine lc_it (walk_zip (K := K) (a := p1) (b := p2) (xs := zv g) (ys := zv h) (n := m) (by omega)) (fun i H' => Same H4 H' ∧ H' D = some (.lst ((((g.zip h).take i).map fun p => decide ((p.1 : Int) ≤ (p.2 : Int))).map V.bl))) ⟨same_upd hD, upd_same⟩ (fun i H' _ hP => ⟨.inl (.inl (hP.1 _ _ hq1')), .inl (.inl (hP.1 _ _ hq2))⟩) (fun i x H' H5 hi hP hY => ?_) (fun H' hP => ?_)
    · obtain ⟨s1, hd1⟩ := hP
      obtain ⟨t, x1, x2, rfl, nt, rfl, hx1, hx2⟩ := hY
      obtain ⟨n1, hn1, rfl⟩ := zv_at hx1
      obtain ⟨n2, hn2, rfl⟩ := zv_at hx2
      have hDt : D ≠ t := ne_of_none hd1 nt
      refine ⟨t, _, rfl, .inl (.inl upd_same), rfl, _, _, rfl, _, _, rfl, rfl, rfl, _, rfl, _, rfl, _, _, rfl, rfl, _, by rw [upd_ne hDt]; exact hd1, ?_, ?_, ?_⟩
      · rw [List.length_map, List.length_map, List.length_take, List.length_zip, sizeLine_eq]
        omega
      · exact same_put (s1.trans (same_upd nt)) hD _
      · rw [upd_same, List.take_add_one, zip_get hn1 hn2, List.map_append, List.map_append]
        rfl
    · obtain ⟨s1, hd1⟩ := hP
      have hzl : (g.zip h).take m = g.zip h := List.take_of_length_le (by rw [List.length_zip]; omega)
      rw [hzl] at hd1
      refine ⟨D, _, rfl, .inl (.inl hd1), ?_⟩
      have e : (((g.zip h).map fun p => decide ((p.1 : Int) ≤ (p.2 : Int))).all id) = le g h := by
        unfold le
        rw [List.all_map]
        congr 1
        funext p
        show decide ((p.1 : Int) ≤ (p.2 : Int)) = decide (p.1 ≤ p.2)
        exact decide_eq_decide.mpr (by omega)
      rw [e]
      exact q H' ((((sm1.trans sm2).trans sm3).trans sm4).trans s1)
theorem ok_is_saying (T : Txt K mg) {f : Addr} {fd : FuncData} (F : Fun K "is_saying" "is_saying" s_is_saying f fd) : FnOk P w K mg base CX0 5 f fd ["one", "other"] spGrows := by
  obtain ⟨f1, fd1, g1, F1⟩ := T.d_need_two
  have G1 : FnOk P w K mg base CX0 2 f1 fd1 ["one", "other"] spNeedTwo := ok_need_two T F1
  have b1 : Binds K fd1 ["one", "other"] [] := F1.binds fun _ _ _ _ _ _ us hl => match us, hl with | [_, _], _ => rfl
  obtain ⟨f2, fd2, g2, F2⟩ := T.d_grows_to
  have G2 : FnOk P w K mg base CX0 4 f2 fd2 ["one", "other"] spGrows := ok_grows_to T F2
  have b2 : Binds K fd2 ["one", "other"] [] := F2.binds fun _ _ _ _ _ _ us hl => match us, hl with | [_, _], _ => rfl
  refine F.ok sc_is_saying (fun vs H Q E h => ?_) (fun cdv A outer s H vs Q E hr h => ?_)
  · obtain ⟨c, g, h, m, rfl, _⟩ := h
    rfl
  · obtain ⟨c, g, h, m, rfl, W1, W2, q⟩ := h
    refine ⟨_, pss_cons (ps_expr (pe_call G1 (hr.mono (by decide)) (by rfl) g1 F1.kp b1 .nil pass0 (pa_cons (pv 0) (pa_cons (pv 1) pa_nil))))
      (pss_one (ps_ret (pe_call G2 hr (by rfl) g2 F2.kp b2 .nil pass0 (pa_cons (pv 0) (pa_cons (pv 1) pa_nil))))), ?_⟩
    refine ⟨_, rfl, _, rfl, _, _, rfl, W1.len, W1.lts, W2.len, W2.lts, fun H1 e1 => ?_⟩
    exact ⟨_, rfl, _, rfl, c, g, h, m, rfl, W1, W2, fun H2 e2 => q H2 (e1.trans e2)⟩
/-! ### turns_for -/
def spTurns : Sp := fun vs H Q _ => ∃ x y b : Nat, vs = [.int ((x : Nat) : Int), .int ((y : Nat) : Int), .int ((b : Nat) : Int)] ∧ 1 ≤ x ∧ 2 ≤ b ∧ b ≤ 1000 ∧ ∀ d : Nat, Trn b x y d → Q (.int ((d : Nat) : Int)) H
theorem ok_turns_for (T : Txt K mg) {f : Addr} {fd : FuncData} (F : Fun K "turns_for" "turns_for" s_turns_for f fd) : FnOk P w K mg base CX0 1 f fd ["gap", "goal", "bound"] spTurns := by
  have nd := sc_turns_for.nd
  refine F.ok sc_turns_for (fun vs H Q E h => ?_) (fun cdv A outer s H vs Q E hr h => ?_)
  · obtain ⟨x, y, b, rfl, _⟩ := h
    rfl
  · obtain ⟨x, y, b, rfl, hx, hb, hb2, q⟩ := h
    refine ⟨_, pss_cons (ps_par (i := 3) (j := 4) rfl nd rfl rfl (by decide) rfl rfl (pa_cons pe_int (pa_cons (pv 0) pa_nil)) (by rfl))
      (pss_cons (ps_while PassesOwn.never (pt_cmpR op_lt (pv 4) (pv 1) (nomark _))
        (pss_one (ps_par (i := 4) (j := 3) rfl nd rfl rfl (by decide) rfl rfl (pa_cons (pe_op op_mul (pv 4) (pv 2)) (pa_cons (pe_op op_add (pv 3) pe_int) pa_nil)) (by rfl))))
      (pss_one (ps_ret (pv 3)))), ?_⟩
    refine ⟨_, rfl, _, _, rfl, ?_⟩
    refine ⟨fun k σ H' => ∃ t : Nat, σ = [some (.int ((x : Nat) : Int)), some (.int ((y : Nat) : Int)), some (.int ((b : Nat) : Int)), some (.int ((t : Nat) : Int)), some (.int ((x * b ^ t : Nat) : Int))] ∧ H' = H ∧ k = y - t ∧ ∀ u, u < t → x * b ^ u < y, ⟨y, 0, by simp [L2.start], rfl, rfl, fun u hu => absurd hu (Nat.not_lt_zero _)⟩, fun k σ H' hW => ?_⟩
    obtain ⟨t, rfl, rfl, rfl, hu⟩ := hW
    refine ⟨_, rfl, _, rfl, _, _, rfl, rfl, _, rfl, ?_⟩
    by_cases hlt : x * b ^ t < y
    · have e1 : decide (((x * b ^ t : Nat) : Int) < ((y : Nat) : Int)) = true := decide_eq_true (by omega)
      show if decide (((x * b ^ t : Nat) : Int) < ((y : Nat) : Int)) = true then _ else _
      rw [e1]
      have ht := due_lt hb hx hlt
      refine iteT ⟨fun σ' H2 => ∃ k', k' < y - t ∧ ∃ t : Nat, σ' = [some (.int ((x : Nat) : Int)), some (.int ((y : Nat) : Int)), some (.int ((b : Nat) : Int)), some (.int ((t : Nat) : Int)), some (.int ((x * b ^ t : Nat) : Int))] ∧ H2 = H' ∧ k' = y - t ∧ ∀ u, u < t → x * b ^ u < y, fun σ' H2 h => h, ?_⟩
      refine ⟨_, rfl, _, rfl, _, _, rfl, rfl, .inr ⟨by omega, by omega⟩, _, rfl, _, _, rfl, rfl, _, _, rfl, ?_⟩
      refine ⟨y - (t + 1), by omega, t + 1, ?_, rfl, rfl, fun u hu2 => ?_⟩
      · have e2 : ((x * b ^ t : Nat) : Int) * ((b : Nat) : Int) = ((x * b ^ (t + 1) : Nat) : Int) := by
          rw [Nat.pow_succ, ← Nat.mul_assoc]
          exact (Int.natCast_mul _ _).symm
        show [some (V.int ((x : Nat) : Int)), some (V.int ((y : Nat) : Int)), some (V.int ((b : Nat) : Int)), some (V.int (((t : Nat) : Int) + 1)), some (V.int (((x * b ^ t : Nat) : Int) * ((b : Nat) : Int)))] = _
        rw [e2]
        rfl
      · rcases Nat.lt_or_ge u t with h1 | h1
        · exact hu u h1
        · have : u = t := by omega
          rw [this]
          exact hlt
    · have e1 : decide (((x * b ^ t : Nat) : Int) < ((y : Nat) : Int)) = false := decide_eq_false (by omega)
      show if decide (((x * b ^ t : Nat) : Int) < ((y : Nat) : Int)) = true then _ else _
      rw [e1]
      exact iteF ⟨_, rfl, q t ⟨by omega, hu⟩⟩
end
end Sc
namespace Sc
open PySem PySem.Spec PyProof.Rows L2
theorem trn_ex {b x y : Nat} (hb : 2 ≤ b) (hx : 1 ≤ x) : ∃ d, Trn b x y d := by
  have hex : ∀ n : Nat, ∃ d, y ≤ n + x * b ^ d ∧ True := fun n => ⟨y, by
    have h1 := pow_gt hb y
    have h2 : b ^ y ≤ x * b ^ y := Nat.le_mul_of_pos_left _ hx
    omega, trivial⟩
  -- the least d, by going up
  have go : ∀ k t : Nat, y - t = k → (∀ u, u < t → x * b ^ u < y) → ∃ d, Trn b x y d := by
    intro k
    induction k with
    | zero =>
      intro t hk hu
      refine ⟨t, ?_, hu⟩
      have h1 := pow_gt hb t
      have h2 : b ^ t ≤ x * b ^ t := Nat.le_mul_of_pos_left _ hx
      omega
    | succ k ih =>
      intro t hk hu
      by_cases h : x * b ^ t < y
      · refine ih (t + 1) (by omega) fun u hu2 => ?_
        rcases Nat.lt_or_ge u t with h1 | h1
        · exact hu u h1
        · have : u = t := by omega
          rw [this]
          exact h
      · exact ⟨t, by omega, hu⟩
  exact go y 0 (by omega) fun u hu => absurd hu (Nat.not_lt_zero _)
section
variable {P : Program} {w : World} {K : PySem.W.Frag} {mg : Str → Option Value} {base : Heap}
/-! ### fewest_sayings -/
def spFewest : Sp := fun vs H Q _ => ∃ (c g h : List Nat) (m b : Nat), vs = [.str (S (grown c g)), .str (S (grown c h)), .int ((b : Nat) : Int)] ∧ Wd c g m ∧ Wd c h m ∧ 2 ≤ b ∧ b ≤ 1000 ∧
  (le g h = false → ∀ H', Same H H' → Q .non H') ∧ (le g h = true → ∀ H' d, Same H H' → Due b (g.zip h) d → Q (.int ((d : Nat) : Int)) H')
theorem ok_fewest_sayings (T : Txt K mg) {f : Addr} {fd : FuncData} (F : Fun K "fewest_sayings" "fewest_sayings" s_fewest_sayings f fd) : FnOk P w K mg base CX0 5 f fd ["one", "other", "bound"] spFewest := by
  obtain ⟨f1, fd1, g1, F1⟩ := T.d_need_two
  have G1 : FnOk P w K mg base CX0 2 f1 fd1 ["one", "other"] spNeedTwo := ok_need_two T F1
  have b1 : Binds K fd1 ["one", "other"] [] := F1.binds fun _ _ _ _ _ _ us hl => match us, hl with | [_, _], _ => rfl
  obtain ⟨f2, fd2, g2, F2⟩ := T.d_need_bound
  have G2 : FnOk P w K mg base CX0 3 f2 fd2 ["value"] spNeedBound := ok_need_bound T F2
  have b2 : Binds K fd2 ["value"] [] := F2.binds fun _ _ _ _ _ _ us hl => match us, hl with | [_], _ => rfl
  obtain ⟨f3, fd3, g3, F3⟩ := T.d_grows_to
  have G3 : FnOk P w K mg base CX0 4 f3 fd3 ["one", "other"] spGrows := ok_grows_to T F3
  have b3 : Binds K fd3 ["one", "other"] [] := F3.binds fun _ _ _ _ _ _ us hl => match us, hl with | [_, _], _ => rfl
  obtain ⟨f4, fd4, g4, F4⟩ := T.d_gaps_of
  have G4 : FnOk P w K mg base CX0 3 f4 fd4 ["word"] spGaps := ok_gaps_of T F4
  have b4 : Binds K fd4 ["word"] [] := F4.binds fun _ _ _ _ _ _ us hl => match us, hl with | [_], _ => rfl
  obtain ⟨f5, fd5, g5, F5⟩ := T.d_turns_for
  have G5 : FnOk P w K mg base CX0 1 f5 fd5 ["gap", "goal", "bound"] spTurns := ok_turns_for T F5
  have b5 : Binds K fd5 ["gap", "goal", "bound"] [] := F5.binds fun _ _ _ _ _ _ us hl => match us, hl with | [_, _, _], _ => rfl
  have nd := sc_fewest_sayings.nd
  refine F.ok sc_fewest_sayings (fun vs H Q E h => ?_) (fun cdv A outer s H vs Q E hr h => ?_)
  · obtain ⟨c, g, h, m, b, rfl, _⟩ := h
    rfl
  · obtain ⟨c, g, h, m, b, rfl, W1, W2, hb, hb2, qF, qT⟩ := h
    refine ⟨_, pss_cons (ps_expr (pe_call G1 (hr.mono (by decide)) (by rfl) g1 F1.kp b1 .nil pass0 (pa_cons (pv 0) (pa_cons (pv 1) pa_nil))))
      (pss_cons (ps_expr (pe_call G2 (hr.mono (by decide)) (by rfl) g2 F2.kp b2 .nil pass0 (pa_cons (pv 2) pa_nil)))
      (pss_cons (ps_if (pt_not (pt_val (pe_call G3 hr (by rfl) g3 F3.kp b3 .nil pass0 (pa_cons (pv 0) (pa_cons (pv 1) pa_nil))))) (pss_one (ps_ret pe_non)) pss_nil)
      (pss_one (ps_ret (pe_callB (cr_max rfl) (by rfl) T.b_max (by decide +kernel) (pa_cons (pe_op op_cat (pe_lst (pa_cons pe_int pa_nil))
        (pe_lc (own := [("a", 3), ("b", 4)]) (g := gTup K 2 (gCons (gName 3) (gCons (gName 4) gNil))) (tt := tYes) (te := tCall spTurns [] E0 (tCons (tVar 3) (tCons (tVar 4) (tCons (tVar 2) tNil)))) rfl nd
          (pi_zip (by rfl) T.b_zip (pa_cons (pe_call G4 (hr.mono (by decide)) (by rfl) g4 F4.kp b4 .nil pass0 (pa_cons (pv 0) pa_nil)) (pa_cons (pe_call G4 (hr.mono (by decide)) (by rfl) g4 F4.kp b4 .nil pass0 (pa_cons (pv 1) pa_nil)) pa_nil)))
          (blkOk_by (own := [("a", 3), ("b", 4)]) (N := ["one", "other", "bound", "a", "b"]) (sc := defScope s_fewest_sayings) (by decide +kernel))
          (fun _ _ _ _ _ => pg_tup rfl (pgs_cons (pg_name (i := 3) nd rfl (.inl rfl) (.inr rfl)) (pgs_cons (pg_name (i := 4) nd rfl (.inl rfl) (.inr rfl)) pgs_nil)))
          (fun _ _ _ _ _ => pts_nil) (fun _ _ _ _ _ => pe_call G5 (hr.mono (by decide)) (by rfl) g5 F5.kp b5 .nil pass0 (pa_cons (pv 3) (pa_cons (pv 4) (pa_cons (pv 2) pa_nil)))))) pa_nil)))))), ?_⟩
    refine ⟨_, rfl, _, rfl, _, _, rfl, W1.len, W1.lts, W2.len, W2.lts, fun H1 e1 => ?_⟩
    refine ⟨_, rfl, _, rfl, by omega, by omega, ?_⟩
    refine ⟨_, rfl, _, rfl, c, g, h, m, rfl, W1, W2, fun H2 e2 => ?_⟩
    refine ⟨_, rfl, ?_⟩
    cases hle : le g h with
    | false => exact qF hle H2 (e1.trans e2)
    | true =>
      refine iteF ?_
      refine ⟨by show 1 ≤ sizeLine; decide, fun z hz => ?_⟩
      refine ⟨_, rfl, _, rfl, W1.len, W1.lts.low, W1.few, fun H3 p1 e3 hp1 hq1 => ?_⟩
      refine ⟨_, rfl, _, rfl, W2.len, W2.lts.low, W2.few, fun H4 p2 e4 hp2 hq2 => ?_⟩
      rw [W1.gaps] at hq1
      rw [W2.gaps] at hq2
      have hq1' := e4 _ _ hq1
      have hgl := W1.gl
      have hhl := W2.gl
      have h9 := W1.m9
      have z1 := zv_len g
      have z2 := zv_len h
      refine ⟨p1, p2, _, _, rfl, .inl (.inl hq1'), .inl (.inl hq2), fun D hD => ?_⟩
      refine lc_it (walk_zip (K := K) (a := p1) (b := p2) (xs := zv g) (ys := zv h) (n := m) (by omega)) (fun i H' => Same H4 H' ∧ ∃ ds : List Nat, H' D = some (.lst (zv ds)) ∧ ds.length = i ∧ ∀ (j : Nat) p d, (g.zip h)[j]? = some p → ds[j]? = some d → Trn b p.1 p.2 d) ⟨same_upd hD, [], upd_same, rfl, fun j p d _ hd => by simp at hd⟩ (fun i H' _ hP => ⟨.inl (.inl (hP.1 _ _ hq1')), .inl (.inl (hP.1 _ _ hq2))⟩) (fun i x H' H5 hi hP hY => ?_) (fun H' hP => ?_)
      · obtain ⟨s1, ds, hd1, hdl, hdt⟩ := hP
        obtain ⟨t, x1, x2, rfl, nt, rfl, hx1, hx2⟩ := hY
        obtain ⟨n1, hn1, rfl⟩ := zv_at hx1
        obtain ⟨n2, hn2, rfl⟩ := zv_at hx2
        have hDt : D ≠ t := ne_of_none hd1 nt
        have hn1p : 1 ≤ n1 := W1.g1 _ (List.mem_of_getElem? hn1)
        obtain ⟨d, hd⟩ := trn_ex (y := n2) hb hn1p
        refine ⟨t, _, rfl, .inl (.inl upd_same), rfl, _, _, rfl, _, _, rfl, rfl, rfl, _, rfl, _, rfl, _, rfl, n1, n2, b, rfl, hn1p, hb, hb2, fun d hd => ?_⟩
        refine ⟨_, by rw [upd_ne hDt]; exact hd1, ?_, same_put (s1.trans (same_upd nt)) hD _, ds ++ [d], ?_, by rw [List.length_append, hdl]; rfl, fun j p e hp he => ?_⟩
        · rw [zv_len, hdl, sizeLine_eq]
          omega
        · rw [upd_same, zv_snoc]
        · by_cases hj : j < ds.length
          · rw [List.getElem?_append_left hj] at he
            exact hdt j p e hp he
          · rw [List.getElem?_append_right (by omega)] at he
            have hj2 := (List.getElem?_eq_some_iff.mp he).1
            have hj3 : j - ds.length = 0 := by
              simp at hj2
              omega
            rw [hj3] at he
            have e6 : d = e := Option.some.inj he
            have e7 : j = i := by omega
            rw [e7, zip_get hn1 hn2] at hp
            have e8 := Option.some.inj hp
            rw [← e6, ← e8]
            exact hd
      · obtain ⟨s1, ds, hd1, hdl, hdt⟩ := hP
        have hz2 : H' z = some (.lst [.int 0]) := s1 _ _ (e4 _ _ (e3 _ _ upd_same))
        refine ⟨z, D, _, _, rfl, rfl, hz2, hd1, ?_, fun u hu => ?_⟩
        · rw [zv_len, hdl, sizeLine_eq]
          show 1 + m ≤ _
          omega
        have eq0 : [V.int 0] ++ zv ds = (zs (0 :: ds)).map V.int := rfl
        refine ⟨u, zs (0 :: ds), rfl, .inl (.inl (by rw [upd_same, eq0])), by rw [zs_len, List.length_cons]; omega, fun n hn hmax => ?_⟩
        obtain ⟨n0, hn0, rfl⟩ := List.mem_map.mp hn
        have hdue : Due b (g.zip h) n0 := by
          refine due_max (by omega) (by rw [hdl, List.length_zip]; omega) (fun i p d => hdt i p d) hn0 fun d hd => ?_
          have := hmax _ (List.mem_map.mpr ⟨d, hd, rfl⟩)
          omega
        exact qT hle _ n0 (((((e1.trans e2).trans (same_upd hz)).trans e3).trans e4).trans (s1.trans (same_upd hu))) hdue
end
end Sc
namespace Sc
open PySem PySem.Spec PyProof.Rows L2
theorem vmin (a b : Nat) : V.int (if ((b : Nat) : Int) < ((a : Nat) : Int) then ((b : Nat) : Int) else ((a : Nat) : Int)) = V.int ((min a b : Nat) : Int) := by
  congr 1
  by_cases h : b < a
  · rw [if_pos (by omega)]
    omega
  · rw [if_neg (by omega)]
    omega
theorem vmul (a b : Nat) : ((a : Nat) : Int) * ((b : Nat) : Int) = ((a * b : Nat) : Int) := (Int.natCast_mul _ _).symm
/-- what is left behind the first numbers of a block -/
theorem blk_split (b n more : Nat) : ∀ i, i ≤ n → ∃ left, blk b n more = (blk b n more).take i ++ blk b (n - i) left ∧ left ≤ more
  | 0, _ => ⟨more, rfl, Nat.le_refl _⟩
  | i + 1, h => by
    obtain ⟨left, e, hl⟩ := blk_split b n more i (by omega)
    obtain ⟨k, hk⟩ : ∃ k, n - i = k + 1 := ⟨n - i - 1, by omega⟩
    rw [hk, blk_succ] at e
    refine ⟨left - min b left, ?_, by omega⟩
    have hi : (blk b n more)[i]? = some (1 + min b left) := by
      rw [e, List.getElem?_append_right (by rw [List.length_take, blk_len]; omega), List.length_take, blk_len]
      have : i - min i n = 0 := by omega
      rw [this]
      rfl
    rw [List.take_add_one, hi]
    have e2 : n - (i + 1) = k := by omega
    rw [e2, List.append_assoc]
    exact e
section
variable {P : Program} {w : World} {K : PySem.W.Frag} {mg : Str → Option Value} {base : Heap}
/-! ### row_for -/
def spRow (K : PySem.W.Frag) : Sp := fun vs H Q _ => ∃ (a1 a2 : Addr) (g h : List Nat) (b : Nat), vs = [.ref a1, .ref a2, .int ((b : Nat) : Int)] ∧ SqL K H a1 (zv g) ∧ SqL K H a2 (zv h) ∧ g.length = h.length ∧ g.length ≤ 9 ∧ (∀ x ∈ g, x ≤ 30) ∧ (∀ p ∈ g.zip h, p.1 ≤ p.2) ∧ 1 ≤ b ∧ b ≤ 1000 ∧
  ∀ H' p, Same H H' → H p = none → H' p = some (.lst (zv (rowOf b (g.zip h)))) → Q (.ref p) H'
theorem ok_row_for (T : Txt K mg) {f : Addr} {fd : FuncData} (F : Fun K "row_for" "row_for" s_row_for f fd) : FnOk P w K mg base CX0 1 f fd ["gaps", "goals", "bound"] (spRow K) := by
  have nd := sc_row_for.nd
  refine F.ok sc_row_for (fun vs H Q E h => ?_) (fun cdv A outer s H vs Q E hr h => ?_)
  · obtain ⟨a1, a2, g, h, b, rfl, _⟩ := h
    rfl
  · obtain ⟨a1, a2, g, h, b, rfl, hS1, hS2, hgh, hg9, hgB, hle, hb, hb2, q⟩ := h
    refine ⟨_, pss_cons (ps_set (i := 3) nd rfl (.inl rfl) (pe_lst pa_nil))
      (pss_cons (ps_for PassesOwn.never rfl (pi_zip (by rfl) T.b_zip (pa_cons (pv 0) (pa_cons (pv 1) pa_nil)))
          (pg_tup rfl (pgs_cons (pg_name (i := 4) nd rfl (.inl rfl)) (pgs_cons (pg_name (i := 5) nd rfl (.inl rfl)) pgs_nil)))
        (pss_cons (ps_set (i := 6) nd rfl (.inl rfl) (pe_callB (call_min2 rfl) (by rfl) T.b_min (by decide +kernel) (pa_cons (pv 5) (pa_cons (pe_op op_mul (pv 4) (pv 2)) pa_nil))))
        (pss_cons (ps_par (i := 7) (j := 8) rfl nd rfl rfl (by decide) rfl rfl (pa_cons (pe_op op_sub (pv 6) (pv 4)) (pa_cons (pe_lst pa_nil) pa_nil)) (by rfl))
        (pss_cons (ps_for PassesOwn.never rfl (pi_range1 (by rfl) T.b_range (pa_cons (pv 4) pa_nil)) (pg_name (i := 9) nd rfl (.inl rfl))
          (pss_cons (ps_set (i := 10) nd rfl (.inl rfl) (pe_callB (call_min2 rfl) (by rfl) T.b_min (by decide +kernel) (pa_cons (pe_op op_sub (pv 2) pe_int) (pa_cons (pv 7) pa_nil))))
          (pss_cons (ps_expr (pe_bm PySem.F.plainAttrs_list PySem.F.slot_list_append PySem.F.type_list_append mt_append (pv 8) (pa_cons (pe_op op_add pe_int (pv 10)) pa_nil)))
          (pss_one (ps_aug (i := 7) nd rfl (.inl rfl) (pv 10) ip_sub)))))
        (pss_one (ps_expr (pe_bm PySem.F.plainAttrs_list PySem.F.slot_list_extend PySem.F.type_list_extend mt_extend (pv 3) (pa_cons (pv 8) pa_nil))))))))
      (pss_one (ps_ret (pv 3)))), ?_⟩
    refine ⟨Nat.zero_le _, fun p hp => ?_⟩
    have z1 := zv_len g
    have z2 := zv_len h
    have hSg : SqL K (upd H p (.lst [])) a1 (zv g) := (same_upd hp).seq hS1
    have hSh : SqL K (upd H p (.lst [])) a2 (zv h) := (same_upd hp).seq hS2
    refine ⟨_, rfl, _, rfl, a1, a2, _, _, rfl, hSg, hSh, ?_⟩
    refine for_it (walk_zip (K := K) (a := a1) (b := a2) (xs := zv g) (ys := zv h) (n := g.length) (by omega)) (fun i σ H' => ∃ (y4 y5 y6 y7 y8 y9 y10 : Option V), σ = [some (.ref a1), some (.ref a2), some (.int ((b : Nat) : Int)), some (.ref p), y4, y5, y6, y7, y8, y9, y10] ∧ Same H H' ∧ H' p = some (.lst (zv (rowOf b ((g.zip h).take i))))) ?_ (fun i σ H' _ hP => ?_) (fun i x σ H1 H2 hi hP hY => ?_) (fun σ H1 hP => ?_)
    · exact ⟨none, none, none, none, none, none, none, rfl, same_upd hp, upd_same⟩
    · obtain ⟨_, _, _, _, _, _, _, _, sm, _⟩ := hP
      exact ⟨sm.seq hS1, sm.seq hS2⟩
    · obtain ⟨y4, y5, y6, y7, y8, y9, y10, rfl, sm, hpl⟩ := hP
      obtain ⟨t, x1, x2, rfl, nt, rfl, hx1, hx2⟩ := hY
      obtain ⟨x, hx, rfl⟩ := zv_at hx1
      obtain ⟨y, hy, rfl⟩ := zv_at hx2
      have hxy : x ≤ y := hle (x, y) (List.mem_of_getElem? (zip_get hx hy))
      have hx30 : x ≤ 30 := hgB x (List.mem_of_getElem? hx)
      have htp : p ≠ t := ne_of_none hpl nt
      have hpl2 : upd H1 t (.tup [.int ((x : Nat) : Int), .int ((y : Nat) : Int)]) p = some (.lst (zv (rowOf b ((g.zip h).take i)))) := by rw [upd_ne htp]; exact hpl
      have sm2 : Same H (upd H1 t (.tup [.int ((x : Nat) : Int), .int ((y : Nat) : Int)])) := sm.trans (same_upd nt)
      refine ⟨t, _, rfl, .inl (.inl upd_same), rfl, _, _, rfl, _, _, rfl, rfl, ?_⟩
      generalize upd H1 t (.tup [.int ((x : Nat) : Int), .int ((y : Nat) : Int)]) = H3 at hpl2 sm2
      refine ⟨_, rfl, _, rfl, _, rfl, _, _, rfl, rfl, .inr ⟨by omega, by omega⟩, _, _, rfl, ?_⟩
      have hxb : x ≤ x * b := Nat.le_mul_of_pos_right x hb
      have ew := vmin y (x * b)
      rw [← vmul] at ew
      have ew2 : V.int (if ((x : Nat) : Int) * ((b : Nat) : Int) < ((y : Nat) : Int) then ((x : Nat) : Int) * ((b : Nat) : Int) else ((y : Nat) : Int)) = V.int ((min y (x * b) : Nat) : Int) := ew
      rw [ew2]
      refine ⟨_, rfl, _, rfl, _, _, rfl, rfl, Nat.zero_le _, fun r hr0 => ?_⟩
      refine ⟨_, _, rfl, ?_⟩
      have hwx : x ≤ min y (x * b) := by omega
      have hpr : p ≠ r := ne_of_none hpl2 hr0
      refine ⟨_, rfl, _, rfl, by omega, by omega, ?_⟩
      rw [Int.toNat_natCast]
      have hrow : ∀ q' : List (Nat × Nat), (∀ z ∈ q', z.1 ≤ 30) → q'.length ≤ 9 → (rowOf b q').length ≤ 270 := fun q' h1 h2 => by
        rw [row_len]
        have h3 := sum_le (B := 30) (l := q'.map (·.1)) fun z hz => by
          obtain ⟨u, hu, rfl⟩ := List.mem_map.mp hz
          exact h1 u hu
        rw [List.length_map] at h3
        omega
      have hq30 : ∀ z ∈ (g.zip h).take i, z.1 ≤ 30 := fun z hz => by
        have h1 := List.mem_of_mem_take hz
        obtain ⟨k, hk⟩ := List.getElem?_of_mem h1
        exact hgB _ (List.mem_of_getElem? (zip_at hk).1)
      have hq9 : ((g.zip h).take i).length ≤ 9 := by
        rw [List.length_take, List.length_zip]
        omega
      refine for_range (lo := 0) (n := x) (fun k σ H' => ∃ (y9 y10 : Option V) (left : Nat), σ = [some (.ref a1), some (.ref a2), some (.int ((b : Nat) : Int)), some (.ref p), some (.int ((x : Nat) : Int)), some (.int ((y : Nat) : Int)), some (.int ((min y (x * b) : Nat) : Int)), some (.int ((left : Nat) : Int)), some (.ref r), y9, y10] ∧ Same H H' ∧ H' p = some (.lst (zv (rowOf b ((g.zip h).take i)))) ∧
          H' r = some (.lst (zv ((blk (b - 1) x (min y (x * b) - x)).take k))) ∧ blk (b - 1) x (min y (x * b) - x) = (blk (b - 1) x (min y (x * b) - x)).take k ++ blk (b - 1) (x - k) left) ?_ (fun k σ H4 hk hP => ?_) (fun σ H4 hP => ?_)
      · refine ⟨y9, y10, min y (x * b) - x, ?_, sm2.trans (same_upd hr0), ?_, upd_same, rfl⟩
        · have e1 := vsub hwx
          show [some (V.ref a1), some (V.ref a2), some (V.int ((b : Nat) : Int)), some (V.ref p), some (V.int ((x : Nat) : Int)), some (V.int ((y : Nat) : Int)), some (V.int ((min y (x * b) : Nat) : Int)), some (V.int (((min y (x * b) : Nat) : Int) - ((x : Nat) : Int))), some (V.ref r), y9, y10] = _
          rw [e1]
        · rw [upd_ne hpr]
          exact hpl2
      · obtain ⟨y9', y10', left, rfl, sm4, hp4, hr4, hbl⟩ := hP
        obtain ⟨n, hn⟩ : ∃ n, x - k = n + 1 := ⟨x - k - 1, by omega⟩
        rw [hn, blk_succ] at hbl
        have hst : V.int (if ((left : Nat) : Int) < ((b : Nat) : Int) - 1 then ((left : Nat) : Int) else ((b : Nat) : Int) - 1) = V.int ((min (b - 1) left : Nat) : Int) := by
          congr 1
          by_cases z : left < b - 1
          · rw [if_pos (by omega)]
            omega
          · rw [if_neg (by omega)]
            omega
        have hget : (blk (b - 1) x (min y (x * b) - x))[k]? = some (1 + min (b - 1) left) := by
          rw [hbl, List.getElem?_append_right (by rw [List.length_take, blk_len]; omega), List.length_take, blk_len]
          have : k - min k x = 0 := by omega
          rw [this]
          rfl
        refine ⟨_, rfl, _, _, rfl, rfl, _, rfl, _, _, rfl, ?_⟩
        rw [hst]
        refine ⟨_, rfl, .inl ⟨rfl, _, .inl (.inl hr4)⟩, _, rfl, _, _, rfl, rfl, r, _, _, rfl, rfl, hr4, ?_, ?_⟩
        · rw [zv_len, List.length_take, blk_len, sizeLine_eq]
          omega
        refine ⟨_, rfl, _, rfl, _, _, rfl, rfl, ?_⟩
        refine ⟨some (.int (0 + ((k : Nat) : Int))), some (.int ((min (b - 1) left : Nat) : Int)), left - min (b - 1) left, ?_, ?_, ?_, ?_, ?_⟩
        · have e1 := vsub (Nat.min_le_right (b - 1) left)
          show [some (V.ref a1), some (V.ref a2), some (V.int ((b : Nat) : Int)), some (V.ref p), some (V.int ((x : Nat) : Int)), some (V.int ((y : Nat) : Int)), some (V.int ((min y (x * b) : Nat) : Int)), some (V.int (((left : Nat) : Int) - ((min (b - 1) left : Nat) : Int))), some (V.ref r), some (V.int (0 + ((k : Nat) : Int))), some (V.int ((min (b - 1) left : Nat) : Int))] = _
          rw [e1]
        · have hrH : H r = none := sm2.free hr0
          exact same_put sm4 hrH _
        · rw [upd_ne hpr]
          exact hp4
        · rw [upd_same, ← zv_take _ k _ hget]
          rfl
        · rw [List.take_add_one, hget]
          have e2 : x - (k + 1) = n := by omega
          rw [e2, List.append_assoc]
          exact hbl
      · obtain ⟨y9', y10', left, rfl, sm4, hp4, hr4, hbl⟩ := hP
        have hfull : (blk (b - 1) x (min y (x * b) - x)).take x = blk (b - 1) x (min y (x * b) - x) := List.take_of_length_le (by rw [blk_len]; exact Nat.le_refl _)
        rw [hfull] at hr4
        refine ⟨_, rfl, .inl ⟨rfl, _, .inl (.inl hp4)⟩, _, rfl, p, r, _, _, rfl, rfl, hp4, hr4, ?_, ?_⟩
        · have h1 := hrow _ hq30 hq9
          rw [zv_len, zv_len, blk_len, sizeLine_eq]
          omega
        · refine ⟨_, _, _, _, _, _, _, rfl, same_put sm4 hp _, ?_⟩
          rw [upd_same, List.take_add_one, zip_get hx hy]
          have e3 : rowOf b ((g.zip h).take i ++ [(x, y)]) = rowOf b ((g.zip h).take i) ++ blk (b - 1) x (min y (x * b) - x) := by
            unfold rowOf
            rw [List.flatMap_append]
            simp
          show _ = some (HO.lst (zv (rowOf b ((g.zip h).take i ++ [(x, y)]))))
          rw [e3]
          unfold zv zs
          rw [List.map_append, List.map_append]
    · obtain ⟨y4, y5, y6, y7, y8, y9, y10, rfl, sm, hpl⟩ := hP
      have hzl : (g.zip h).take g.length = g.zip h := List.take_of_length_le (by rw [List.length_zip]; omega)
      rw [hzl] at hpl
      exact ⟨_, rfl, q H1 p sm hp hpl⟩
end
end Sc
namespace Sc
open PySem PySem.Spec PyProof.Rows L2
theorem zip_fst {g h : List Nat} (e : g.length = h.length) : (g.zip h).map (·.1) = g := by
  rw [List.map_fst_zip]
  omega
theorem zip_snd {g h : List Nat} (e : g.length = h.length) : (g.zip h).map (·.2) = h := by
  rw [List.map_snd_zip]
  omega
theorem att_zip' {b t : Nat} {g h : List Nat} (e : g.length = h.length) : (att b (g.zip h) t).zip h = (g.zip h).map fun p => (min p.2 (p.1 * b ^ t), p.2) := by
  have q := att_zip b (g.zip h) t
  rwa [zip_snd e] at q
theorem att_nx' {b t : Nat} {g h : List Nat} (hb : 1 ≤ b) (e : g.length = h.length) : nx b ((att b (g.zip h) t).zip h) = att b (g.zip h) (t + 1) := by
  have q := att_nx hb (g.zip h) t
  rwa [zip_snd e] at q
theorem nx_len (b : Nat) (q : List (Nat × Nat)) : (nx b q).length = q.length := by simp [nx]
section
variable {P : Program} {w : World} {K : PySem.W.Frag} {mg : Str → Option Value} {base : Heap}
/-- min(goal, gap * bound) -/
def teMin : TE := tCB (fun xs H Q => ∃ i j, xs = [.int i, .int j] ∧ Q (.int (if j < i then j else i)) H) (tCons (tVar 7) (tCons (tOp (rI CMul fun i j => .int (i * j)) (tVar 6) (tVar 2)) tNil))
/-- the reading of «now = [min(goal, gap * bound) for gap, goal in zip(now, goals)]» -/
theorem now_next {D : Ends} {H : Hp} {v0 v1 y5 y6 y7 : Option V} {p3 p4 : Addr} {b : Nat} {a h : List Nat} (hb : b ≤ 1000) (hl : a.length = h.length) (h9 : a.length ≤ 9) (h3 : H p3 = some (.lst (zv a))) (h4 : H p4 = some (.lst (zv h)))
    (hd : ∀ H' q, Same H H' → H q = none → H' q = some (.lst (zv (nx b (a.zip h)))) → D.nx [v0, v1, some (.int ((b : Nat) : Int)), some (.ref q), some (.ref p4), y5, y6, y7] H') :
    (tAsg (tLc (iZip K (tCons (tVar 3) (tCons (tVar 4) tNil))) (gTup K 2 (gCons (gName 6) (gCons (gName 7) gNil))) tYes teMin [6, 7]) (gName 3)) D [v0, v1, some (.int ((b : Nat) : Int)), some (.ref p3), some (.ref p4), y5, y6, y7] H := by
  have z1 := zv_len a
  have z2 := zv_len h
  refine ⟨_, rfl, _, rfl, p3, p4, _, _, rfl, .inl (.inl h3), .inl (.inl h4), fun q hq => ?_⟩
  refine lc_it (walk_zip (K := K) (a := p3) (b := p4) (xs := zv a) (ys := zv h) (n := a.length) (by omega)) (fun i H' => Same H H' ∧ H' q = some (.lst (zv ((nx b (a.zip h)).take i)))) ⟨same_upd hq, upd_same⟩ (fun i H' _ hP => ⟨.inl (.inl (hP.1 _ _ h3)), .inl (.inl (hP.1 _ _ h4))⟩) (fun i x H1 H2 hi hP hY => ?_) (fun H' hP => ?_)
  · obtain ⟨s1, hd1⟩ := hP
    obtain ⟨t, x1, x2, rfl, nt, rfl, hx1, hx2⟩ := hY
    obtain ⟨x, hx, rfl⟩ := zv_at hx1
    obtain ⟨y, hy, rfl⟩ := zv_at hx2
    have hqt : q ≠ t := ne_of_none hd1 nt
    refine ⟨t, _, rfl, .inl (.inl upd_same), rfl, _, _, rfl, _, _, rfl, rfl, rfl, ?_⟩
    refine ⟨_, rfl, _, rfl, _, rfl, _, _, rfl, rfl, .inr ⟨by omega, by omega⟩, _, _, rfl, ?_⟩
    refine ⟨_, by rw [upd_ne hqt]; exact hd1, ?_, ?_, ?_⟩
    · rw [zv_len, List.length_take, nx_len, List.length_zip, sizeLine_eq]
      omega
    · exact same_put (s1.trans (same_upd nt)) hq _
    · rw [upd_same]
      have hn : (nx b (a.zip h))[i]? = some (min y (x * b)) := by
        unfold nx
        rw [List.getElem?_map, zip_get hx hy]
        rfl
      rw [← zv_take _ i _ hn]
      have ew := vmin y (x * b)
      rw [← vmul] at ew
      exact congrArg (fun v => some (HO.lst (zv ((nx b (a.zip h)).take i) ++ [v]))) ew
  · obtain ⟨s1, hd1⟩ := hP
    have hzl : (nx b (a.zip h)).take a.length = nx b (a.zip h) := List.take_of_length_le (by rw [nx_len, List.length_zip]; omega)
    rw [hzl] at hd1
    exact hd H' q s1 hq hd1
/-! ### sayings_to -/
/-- the rows of the way, new tuples -/
def RowsT (b : Nat) (ps : List (Nat × Nat)) (h : List Nat) (H : Hp) (ts : List V) (n : Nat) : Prop := ts.length = n ∧ ∀ j, j < n → ∃ r, ts[j]? = some (.ref r) ∧ H r = some (.tup (zv (rowOf b ((att b ps j).zip h))))
theorem RowsT.mono {b : Nat} {ps : List (Nat × Nat)} {h : List Nat} {H H' : Hp} {ts : List V} {n : Nat} (R : RowsT b ps h H ts n) (s : TupS H H') : RowsT b ps h H' ts n :=
  ⟨R.1, fun j hj => let ⟨r, e1, e2⟩ := R.2 j hj; ⟨r, e1, s _ _ e2⟩⟩
theorem RowsT.snoc {b : Nat} {ps : List (Nat × Nat)} {h : List Nat} {H : Hp} {ts : List V} {n : Nat} {r : Addr} (R : RowsT b ps h H ts n) (e : H r = some (.tup (zv (rowOf b ((att b ps n).zip h))))) : RowsT b ps h H (ts ++ [.ref r]) (n + 1) := by
  refine ⟨by rw [List.length_append, R.1]; rfl, fun j hj => ?_⟩
  by_cases z : j < n
  · obtain ⟨r', e1, e2⟩ := R.2 j z
    exact ⟨r', by rw [List.getElem?_append_left (by rw [R.1]; exact z)]; exact e1, e2⟩
  · have : j = n := by omega
    subst this
    exact ⟨r, by rw [List.getElem?_append_right (by rw [R.1]; exact Nat.le_refl _), R.1, Nat.sub_self]; rfl, e⟩
def spSayings : Sp := fun vs H Q _ => ∃ (c g h : List Nat) (m b : Nat), vs = [.str (S (grown c g)), .str (S (grown c h)), .int ((b : Nat) : Int)] ∧ Wd c g m ∧ Wd c h m ∧ 2 ≤ b ∧ b ≤ 1000 ∧
  (le g h = false → ∀ H', Same H H' → Q .non H') ∧ (le g h = true → ∀ H' d p ts, Same H H' → Due b (g.zip h) d → H p = none → H' p = some (.tup ts) → RowsT b (g.zip h) h H' ts d → Q (.ref p) H')
theorem ok_sayings_to (T : Txt K mg) {f : Addr} {fd : FuncData} (F : Fun K "sayings_to" "sayings_to" s_sayings_to f fd) : FnOk P w K mg base CX0 5 f fd ["one", "other", "bound"] spSayings := by
  obtain ⟨f1, fd1, g1, F1⟩ := T.d_need_two
  have G1 : FnOk P w K mg base CX0 2 f1 fd1 ["one", "other"] spNeedTwo := ok_need_two T F1
  have b1 : Binds K fd1 ["one", "other"] [] := F1.binds fun _ _ _ _ _ _ us hl => match us, hl with | [_, _], _ => rfl
  obtain ⟨f2, fd2, g2, F2⟩ := T.d_need_bound
  have G2 : FnOk P w K mg base CX0 3 f2 fd2 ["value"] spNeedBound := ok_need_bound T F2
  have b2 : Binds K fd2 ["value"] [] := F2.binds fun _ _ _ _ _ _ us hl => match us, hl with | [_], _ => rfl
  obtain ⟨f3, fd3, g3, F3⟩ := T.d_grows_to
  have G3 : FnOk P w K mg base CX0 4 f3 fd3 ["one", "other"] spGrows := ok_grows_to T F3
  have b3 : Binds K fd3 ["one", "other"] [] := F3.binds fun _ _ _ _ _ _ us hl => match us, hl with | [_, _], _ => rfl
  obtain ⟨f4, fd4, g4, F4⟩ := T.d_gaps_of
  have G4 : FnOk P w K mg base CX0 3 f4 fd4 ["word"] spGaps := ok_gaps_of T F4
  have b4 : Binds K fd4 ["word"] [] := F4.binds fun _ _ _ _ _ _ us hl => match us, hl with | [_], _ => rfl
  obtain ⟨f5, fd5, g5, F5⟩ := T.d_row_for
  have G5 : FnOk P w K mg base CX0 1 f5 fd5 ["gaps", "goals", "bound"] (spRow K) := ok_row_for T F5
  have b5 : Binds K fd5 ["gaps", "goals", "bound"] [] := F5.binds fun _ _ _ _ _ _ us hl => match us, hl with | [_, _, _], _ => rfl
  have nd := sc_sayings_to.nd
  refine F.ok sc_sayings_to (fun vs H Q E h => ?_) (fun cdv A outer s H vs Q E hr h => ?_)
  · obtain ⟨c, g, h, m, b, rfl, _⟩ := h
    rfl
  · obtain ⟨c, g, h, m, b, rfl, W1, W2, hb, hb2, qF, qT⟩ := h
    refine ⟨_, pss_cons (ps_expr (pe_call G1 (hr.mono (by decide)) (by rfl) g1 F1.kp b1 .nil pass0 (pa_cons (pv 0) (pa_cons (pv 1) pa_nil))))
      (pss_cons (ps_expr (pe_call G2 (hr.mono (by decide)) (by rfl) g2 F2.kp b2 .nil pass0 (pa_cons (pv 2) pa_nil)))
      (pss_cons (ps_if (pt_not (pt_val (pe_call G3 hr (by rfl) g3 F3.kp b3 .nil pass0 (pa_cons (pv 0) (pa_cons (pv 1) pa_nil))))) (pss_one (ps_ret pe_non)) pss_nil)
      (pss_cons (ps_par3 (i := 3) (j := 4) (l := 5) rfl nd rfl rfl rfl (by decide) (by decide) (by decide) rfl rfl rfl
        (pa_cons (pe_call G4 (hr.mono (by decide)) (by rfl) g4 F4.kp b4 .nil pass0 (pa_cons (pv 0) pa_nil)) (pa_cons (pe_call G4 (hr.mono (by decide)) (by rfl) g4 F4.kp b4 .nil pass0 (pa_cons (pv 1) pa_nil)) (pa_cons (pe_lst pa_nil) pa_nil))) (by rfl))
      (pss_cons (ps_while PassesOwn.never (pt_cmpR (op_neD hr.units) (pv 3) (pv 4) (nomark _))
        (pss_cons (ps_expr (pe_bm PySem.F.plainAttrs_list PySem.F.slot_list_append PySem.F.type_list_append mt_append (pv 5)
          (pa_cons (pe_callTy call_tuple_of (by rfl) T.b_tuple (by decide +kernel) (pa_cons (pe_call G5 (hr.mono (by decide)) (by rfl) g5 F5.kp b5 .nil pass0 (pa_cons (pv 3) (pa_cons (pv 4) (pa_cons (pv 2) pa_nil)))) pa_nil)) pa_nil)))
        (pss_one (ps_setLc (i := 3) (own := [("gap", 6), ("goal", 7)]) (g := gTup K 2 (gCons (gName 6) (gCons (gName 7) gNil))) (tt := tYes) (te := teMin) rfl nd rfl rfl (sw_true rfl rfl rfl (by decide +kernel))
          (pi_zip (by rfl) T.b_zip (pa_cons (pv 3) (pa_cons (pv 4) pa_nil)))
          (blkOk_by (own := [("gap", 6), ("goal", 7)]) (N := ["one", "other", "bound", "now", "goals", "found", "gap", "goal"]) (sc := defScope s_sayings_to) (by decide +kernel))
          (fun _ _ _ _ _ => pg_tup rfl (pgs_cons (pg_name (i := 6) nd rfl (.inl rfl) (.inr rfl)) (pgs_cons (pg_name (i := 7) nd rfl (.inl rfl) (.inr rfl)) pgs_nil)))
          (fun _ _ _ _ _ => pts_nil) (fun _ _ _ _ _ => pe_callB (call_min2 rfl) (by rfl) T.b_min (by decide +kernel) (pa_cons (pv 7) (pa_cons (pe_op op_mul (pv 6) (pv 2)) pa_nil)))))))
      (pss_one (ps_ret (pe_callTy call_tuple_of (by rfl) T.b_tuple (by decide +kernel) (pa_cons (pv 5) pa_nil)))))))), ?_⟩
    refine ⟨_, rfl, _, rfl, _, _, rfl, W1.len, W1.lts, W2.len, W2.lts, fun H1 e1 => ?_⟩
    refine ⟨_, rfl, _, rfl, by omega, by omega, ?_⟩
    refine ⟨_, rfl, _, rfl, c, g, h, m, rfl, W1, W2, fun H2 e2 => ?_⟩
    refine ⟨_, rfl, ?_⟩
    cases hle : le g h with
    | false => exact qF hle H2 (e1.trans e2)
    | true =>
      refine iteF ?_
      refine ⟨_, rfl, _, rfl, W1.len, W1.lts.low, W1.few, fun H3 p3 e3 hp3 hq3 => ?_⟩
      refine ⟨_, rfl, _, rfl, W2.len, W2.lts.low, W2.few, fun H4 p4 e4 hp4 hq4 => ?_⟩
      rw [W1.gaps] at hq3
      rw [W2.gaps] at hq4
      refine ⟨Nat.zero_le _, fun p5 hp5 => ⟨_, _, _, rfl, ?_⟩⟩
      have hgl := W1.gl
      have hhl := W2.gl
      have h9 := W1.m9
      have hgh : g.length = h.length := by omega
      have eS : Same H (upd H4 p5 (.lst [])) := (((e1.trans e2).trans e3).trans e4).trans (same_upd hp5)
      have hp5H : H p5 = none := ((((e1.trans e2).trans e3).trans e4)).free hp5
      have hps : ∀ p ∈ g.zip h, p.1 ≤ p.2 := le_iff.mp hle
      have hps1 : ∀ p ∈ g.zip h, 1 ≤ p.1 ∧ p.1 ≤ p.2 := fun p hp => by
        obtain ⟨k, hk⟩ := List.getElem?_of_mem hp
        exact ⟨W1.g1 _ (List.mem_of_getElem? (zip_at hk).1), hps p hp⟩
      have hps30 : ∀ p ∈ g.zip h, p.2 ≤ 30 := fun p hp => by
        obtain ⟨k, hk⟩ := List.getElem?_of_mem hp
        exact W2.gB _ (List.mem_of_getElem? (zip_at hk).2)
      have hpl : (g.zip h).length = m := by rw [List.length_zip]; omega
      have hzs := zip_snd hgh
      refine ⟨fun k σ H' => ∃ (t : Nat) (q3 : Addr) (ts : List V) (y6 y7 : Option V), σ = [some (.str (S (grown c g))), some (.str (S (grown c h))), some (.int ((b : Nat) : Int)), some (.ref q3), some (.ref p4), some (.ref p5), y6, y7] ∧ q3 ≠ p5 ∧ Same H H' ∧ H' q3 = some (.lst (zv (att b (g.zip h) t))) ∧ H' p4 = some (.lst (zv h)) ∧ H' p5 = some (.lst ts) ∧
        RowsT b (g.zip h) h H' ts t ∧ k = 31 - t ∧ t ≤ 31 ∧ (∀ u, u < t → ∃ p ∈ g.zip h, p.1 * b ^ u < p.2), ⟨31, 0, p3, [], none, none, rfl, ne_of_none (e4 _ _ hq3) hp5, eS, ?_, ?_, upd_same, ⟨rfl, fun j hj => absurd hj (Nat.not_lt_zero _)⟩, rfl, by omega, fun u hu => absurd hu (Nat.not_lt_zero _)⟩, fun k σ H' hW => ?_⟩
      · rw [upd_ne (ne_of_none (e4 _ _ hq3) hp5), att_zero b _ hps, zip_fst hgh]
        exact e4 _ _ hq3
      · rw [upd_ne (ne_of_none hq4 hp5)]
        exact hq4
      · obtain ⟨t, q3, ts, y6, y7, rfl, hq35, sm, h3, h4, h5, RT, rfl, ht, hu⟩ := hW
        refine ⟨_, rfl, _, rfl, dI (zs (att b (g.zip h) t)), dI (zs h), dI_dp (.inl (.inl h3)), dI_dp (.inl (.inl h4)), dI_ok _, dI_ok _, _, rfl, ?_⟩
        rw [dI_eq]
        have hal : (att b (g.zip h) t).length = h.length := by rw [att_len, hpl]; omega
        by_cases z : att b (g.zip h) t = h
        · have e0 : (!decide (zs (att b (g.zip h) t) = zs h)) = false := by rw [z]; simp
          rw [e0]
          refine iteF ⟨_, rfl, p5, ts, rfl, .inl ⟨.inl (.inl h5), fun p hp => ?_⟩⟩
          have hdue : Due b (g.zip h) t := ⟨(att_end b _ t).mp (by rw [z, hzs]), hu⟩
          exact qT hle _ t p ts (sm.trans (same_upd hp)) hdue (sm.free hp) upd_same (RT.mono (same_tups (same_upd hp)))
        · have e0 : (!decide (zs (att b (g.zip h) t) = zs h)) = true := by
            have : ¬ zs (att b (g.zip h) t) = zs h := fun q => z (zs_inj.mp q)
            rw [decide_eq_false this]
            rfl
          rw [e0]
          have hstep : ∃ p ∈ g.zip h, p.1 * b ^ t < p.2 := by
            refine Classical.byContradiction fun q => z ?_
            have q2 : ∀ p ∈ g.zip h, p.2 ≤ p.1 * b ^ t := fun p hp => by
              refine Classical.byContradiction fun q3 => q ⟨p, hp, by omega⟩
            have q4 := (att_end b (g.zip h) t).mpr q2
            rw [hzs] at q4
            exact q4
          have ht30 : t < 30 := by
            obtain ⟨p, hp, q⟩ := hstep
            have h1 := due_lt hb (hps1 p hp).1 q
            have h2 := hps30 p hp
            omega
          refine iteT ⟨fun σ' H2 => ∃ k', k' < 31 - t ∧ ∃ (t : Nat) (q3 : Addr) (ts : List V) (y6 y7 : Option V), σ' = [some (.str (S (grown c g))), some (.str (S (grown c h))), some (.int ((b : Nat) : Int)), some (.ref q3), some (.ref p4), some (.ref p5), y6, y7] ∧ q3 ≠ p5 ∧ Same H H2 ∧ H2 q3 = some (.lst (zv (att b (g.zip h) t))) ∧ H2 p4 = some (.lst (zv h)) ∧ H2 p5 = some (.lst ts) ∧
            RowsT b (g.zip h) h H2 ts t ∧ k' = 31 - t ∧ t ≤ 31 ∧ (∀ u, u < t → ∃ p ∈ g.zip h, p.1 * b ^ u < p.2), fun σ' H2 h => h, ?_⟩
          have hal9 : (att b (g.zip h) t).length ≤ 9 := by omega
          refine ⟨_, rfl, .inl ⟨rfl, _, .inl (.inl h5)⟩, _, rfl, _, rfl, _, rfl, q3, p4, _, h, b, rfl, .inl (.inl h3), .inl (.inl h4), hal, hal9, att_le _ t hps30, ?_, by omega, hb2, fun H5 r s5 hr5 hrow => ?_⟩
          · intro p hp
            rw [att_zip' hgh] at hp
            obtain ⟨p', hp', e⟩ := List.mem_map.mp hp
            rw [← e]
            exact Nat.min_le_left _ _
          refine ⟨r, _, rfl, .inl ⟨.inl (.inl hrow), fun u hu5 => ?_⟩⟩
          have sT : Same H' (upd H5 u (.tup (zv (rowOf b ((att b (g.zip h) t).zip h))))) := s5.trans (same_upd hu5)
          have h5u := sT _ _ h5
          refine ⟨p5, ts, _, rfl, rfl, h5u, by rw [RT.1, sizeLine_eq]; omega, ?_⟩
          have hup : p5 ≠ u := fun zz => by
            rw [zz] at h5
            rw [s5 _ _ h5] at hu5
            cases hu5
          have hp45 : p4 ≠ p5 := ne_of_none hq4 hp5
          have sm6 : Same H (upd (upd H5 u (.tup (zv (rowOf b ((att b (g.zip h) t).zip h))))) p5 (.lst (ts ++ [.ref u]))) := same_put (sm.trans sT) hp5H _
          have h36 : upd (upd H5 u (.tup (zv (rowOf b ((att b (g.zip h) t).zip h))))) p5 (.lst (ts ++ [.ref u])) q3 = some (.lst (zv (att b (g.zip h) t))) := by
            rw [upd_ne hq35]
            exact sT _ _ h3
          have h46 : upd (upd H5 u (.tup (zv (rowOf b ((att b (g.zip h) t).zip h))))) p5 (.lst (ts ++ [.ref u])) p4 = some (.lst (zv h)) := by
            rw [upd_ne hp45]
            exact sT _ _ h4
          have h56 : upd (upd H5 u (.tup (zv (rowOf b ((att b (g.zip h) t).zip h))))) p5 (.lst (ts ++ [.ref u])) p5 = some (.lst (ts ++ [.ref u])) := upd_same
          have RT6 : RowsT b (g.zip h) h (upd (upd H5 u (.tup (zv (rowOf b ((att b (g.zip h) t).zip h))))) p5 (.lst (ts ++ [.ref u]))) (ts ++ [.ref u]) (t + 1) := by
            refine RowsT.snoc (RT.mono (TupS.trans (same_tups sT) (tups_upd fun vs z => ?_))) (by rw [upd_ne (Ne.symm hup), upd_same])
            rw [h5u] at z
            cases z
          refine now_next hb2 hal hal9 h36 h46 fun H7 q s7 hq7 hn7 => ?_
          rw [att_nx' (by omega) hgh] at hn7
          refine ⟨31 - (t + 1), by omega, t + 1, q, ts ++ [.ref u], _, _, rfl, Ne.symm (ne_of_none h56 hq7), sm6.trans s7, hn7, s7 _ _ h46, s7 _ _ h56, RT6.mono (same_tups s7), rfl, by omega, fun v hv => ?_⟩
          rcases Nat.lt_or_ge v t with h1 | h1
          · exact hu v h1
          · have : v = t := by omega
            rw [this]
            exact hstep
end
end Sc
namespace Sc
open PySem PySem.Spec PyProof.Rows L2
/-- the words of the way -/
def stp (c : List Nat) (b : Nat) (ps : List (Nat × Nat)) (d : Nat) : List V := (List.range (d + 1)).map fun t => V.str (S (grown c (att b ps t)))
section
variable {P : Program} {w : World} {K : PySem.W.Frag} {mg : Str → Option Value} {base : Heap}
def spStops : Sp := fun vs H Q _ => ∃ (c g h : List Nat) (m b : Nat), vs = [.str (S (grown c g)), .str (S (grown c h)), .int ((b : Nat) : Int)] ∧ Wd c g m ∧ Wd c h m ∧ 2 ≤ b ∧ b ≤ 1000 ∧
  (le g h = false → ∀ H', Same H H' → Q .non H') ∧ (le g h = true → ∀ H' d p, Same H H' → Due b (g.zip h) d → H p = none → H' p = some (.lst (stp c b (g.zip h) d)) → Q (.ref p) H')
theorem ok_stops_on_the_way (T : Txt K mg) {f : Addr} {fd : FuncData} (F : Fun K "stops_on_the_way" "stops_on_the_way" s_stops_on_the_way f fd) : FnOk P w K mg base CX0 5 f fd ["one", "other", "bound"] spStops := by
  obtain ⟨f1, fd1, g1, F1⟩ := T.d_need_two
  have G1 : FnOk P w K mg base CX0 2 f1 fd1 ["one", "other"] spNeedTwo := ok_need_two T F1
  have b1 : Binds K fd1 ["one", "other"] [] := F1.binds fun _ _ _ _ _ _ us hl => match us, hl with | [_, _], _ => rfl
  obtain ⟨f2, fd2, g2, F2⟩ := T.d_need_bound
  have G2 : FnOk P w K mg base CX0 3 f2 fd2 ["value"] spNeedBound := ok_need_bound T F2
  have b2 : Binds K fd2 ["value"] [] := F2.binds fun _ _ _ _ _ _ us hl => match us, hl with | [_], _ => rfl
  obtain ⟨f3, fd3, g3, F3⟩ := T.d_grows_to
  have G3 : FnOk P w K mg base CX0 4 f3 fd3 ["one", "other"] spGrows := ok_grows_to T F3
  have b3 : Binds K fd3 ["one", "other"] [] := F3.binds fun _ _ _ _ _ _ us hl => match us, hl with | [_, _], _ => rfl
  obtain ⟨f4, fd4, g4, F4⟩ := T.d_gaps_of
  have G4 : FnOk P w K mg base CX0 3 f4 fd4 ["word"] spGaps := ok_gaps_of T F4
  have b4 : Binds K fd4 ["word"] [] := F4.binds fun _ _ _ _ _ _ us hl => match us, hl with | [_], _ => rfl
  obtain ⟨f5, fd5, g5, F5⟩ := T.d_core_of
  have G5 : FnOk P w K mg base CX0 3 f5 fd5 ["word"] spCore := ok_core_of T F5
  have b5 : Binds K fd5 ["word"] [] := F5.binds fun _ _ _ _ _ _ us hl => match us, hl with | [_], _ => rfl
  obtain ⟨f6, fd6, g6, F6⟩ := T.d_grown
  have G6 : FnOk P w K mg base CX0 2 f6 fd6 ["word", "told"] (spGrown K) := ok_grown T F6
  have b6 : Binds K fd6 ["word", "told"] [] := F6.binds fun _ _ _ _ _ _ us hl => match us, hl with | [_, _], _ => rfl
  have nd := sc_stops_on_the_way.nd
  refine F.ok sc_stops_on_the_way (fun vs H Q E h => ?_) (fun cdv A outer s H vs Q E hr h => ?_)
  · obtain ⟨c, g, h, m, b, rfl, _⟩ := h
    rfl
  · obtain ⟨c, g, h, m, b, rfl, W1, W2, hb, hb2, qF, qT⟩ := h
    refine ⟨_, pss_cons (ps_expr (pe_call G1 (hr.mono (by decide)) (by rfl) g1 F1.kp b1 .nil pass0 (pa_cons (pv 0) (pa_cons (pv 1) pa_nil))))
      (pss_cons (ps_expr (pe_call G2 (hr.mono (by decide)) (by rfl) g2 F2.kp b2 .nil pass0 (pa_cons (pv 2) pa_nil)))
      (pss_cons (ps_if (pt_not (pt_val (pe_call G3 hr (by rfl) g3 F3.kp b3 .nil pass0 (pa_cons (pv 0) (pa_cons (pv 1) pa_nil))))) (pss_one (ps_ret pe_non)) pss_nil)
      (pss_cons (ps_par (i := 3) (j := 4) rfl nd rfl rfl (by decide) rfl rfl
        (pa_cons (pe_call G4 (hr.mono (by decide)) (by rfl) g4 F4.kp b4 .nil pass0 (pa_cons (pv 0) pa_nil)) (pa_cons (pe_call G4 (hr.mono (by decide)) (by rfl) g4 F4.kp b4 .nil pass0 (pa_cons (pv 1) pa_nil)) pa_nil)) (by rfl))
      (pss_cons (ps_set (i := 5) nd rfl (.inl rfl) (pe_lst (pa_cons (pv 0) pa_nil)))
      (pss_cons (ps_while PassesOwn.never (pt_cmpR (op_neD hr.units) (pv 3) (pv 4) (nomark _))
        (pss_cons (ps_setLc (i := 3) (own := [("gap", 6), ("goal", 7)]) (g := gTup K 2 (gCons (gName 6) (gCons (gName 7) gNil))) (tt := tYes) (te := teMin) rfl nd rfl rfl (sw_true rfl rfl rfl (by decide +kernel))
          (pi_zip (by rfl) T.b_zip (pa_cons (pv 3) (pa_cons (pv 4) pa_nil)))
          (blkOk_by (own := [("gap", 6), ("goal", 7)]) (N := ["one", "other", "bound", "now", "goals", "found", "gap", "goal"]) (sc := defScope s_stops_on_the_way) (by decide +kernel))
          (fun _ _ _ _ _ => pg_tup rfl (pgs_cons (pg_name (i := 6) nd rfl (.inl rfl) (.inr rfl)) (pgs_cons (pg_name (i := 7) nd rfl (.inl rfl) (.inr rfl)) pgs_nil)))
          (fun _ _ _ _ _ => pts_nil) (fun _ _ _ _ _ => pe_callB (call_min2 rfl) (by rfl) T.b_min (by decide +kernel) (pa_cons (pv 7) (pa_cons (pe_op op_mul (pv 6) (pv 2)) pa_nil))))
        (pss_one (ps_expr (pe_bm PySem.F.plainAttrs_list PySem.F.slot_list_append PySem.F.type_list_append mt_append (pv 5)
          (pa_cons (pe_call G6 (hr.mono (by decide)) (by rfl) g6 F6.kp b6 .nil pass0 (pa_cons (pe_call G5 (hr.mono (by decide)) (by rfl) g5 F5.kp b5 .nil pass0 (pa_cons (pv 0) pa_nil)) (pa_cons (pv 3) pa_nil))) pa_nil))))))
      (pss_one (ps_ret (pv 5)))))))), ?_⟩
    refine ⟨_, rfl, _, rfl, _, _, rfl, W1.len, W1.lts, W2.len, W2.lts, fun H1 e1 => ?_⟩
    refine ⟨_, rfl, _, rfl, by omega, by omega, ?_⟩
    refine ⟨_, rfl, _, rfl, c, g, h, m, rfl, W1, W2, fun H2 e2 => ?_⟩
    refine ⟨_, rfl, ?_⟩
    cases hle : le g h with
    | false => exact qF hle H2 (e1.trans e2)
    | true =>
      refine iteF ?_
      refine ⟨_, rfl, _, rfl, W1.len, W1.lts.low, W1.few, fun H3 p3 e3 hp3 hq3 => ?_⟩
      refine ⟨_, rfl, _, rfl, W2.len, W2.lts.low, W2.few, fun H4 p4 e4 hp4 hq4 => ?_⟩
      rw [W1.gaps] at hq3
      rw [W2.gaps] at hq4
      refine ⟨_, _, rfl, _, rfl, by show 1 ≤ sizeLine; decide, fun p5 hp5 => ?_⟩
      have hgl := W1.gl
      have hhl := W2.gl
      have h9 := W1.m9
      have hgh : g.length = h.length := by omega
      have eS : Same H (upd H4 p5 (.lst [.str (S (grown c g))])) := (((e1.trans e2).trans e3).trans e4).trans (same_upd hp5)
      have hp5H : H p5 = none := ((((e1.trans e2).trans e3).trans e4)).free hp5
      have hps : ∀ p ∈ g.zip h, p.1 ≤ p.2 := le_iff.mp hle
      have hps1 : ∀ p ∈ g.zip h, 1 ≤ p.1 ∧ p.1 ≤ p.2 := fun p hp => by
        obtain ⟨k, hk⟩ := List.getElem?_of_mem hp
        exact ⟨W1.g1 _ (List.mem_of_getElem? (zip_at hk).1), hps p hp⟩
      have hps30 : ∀ p ∈ g.zip h, p.2 ≤ 30 := fun p hp => by
        obtain ⟨k, hk⟩ := List.getElem?_of_mem hp
        exact W2.gB _ (List.mem_of_getElem? (zip_at hk).2)
      have hpl : (g.zip h).length = m := by rw [List.length_zip]; omega
      have hzs := zip_snd hgh
      refine ⟨fun k σ H' => ∃ (t : Nat) (q3 : Addr) (y6 y7 : Option V), σ = [some (.str (S (grown c g))), some (.str (S (grown c h))), some (.int ((b : Nat) : Int)), some (.ref q3), some (.ref p4), some (.ref p5), y6, y7] ∧ q3 ≠ p5 ∧ Same H H' ∧ H' q3 = some (.lst (zv (att b (g.zip h) t))) ∧ H' p4 = some (.lst (zv h)) ∧ H' p5 = some (.lst (stp c b (g.zip h) t)) ∧
        k = 31 - t ∧ t ≤ 31 ∧ (∀ u, u < t → ∃ p ∈ g.zip h, p.1 * b ^ u < p.2), ⟨31, 0, p3, none, none, rfl, ne_of_none (e4 _ _ hq3) hp5, eS, ?_, ?_, ?_, rfl, by omega, fun u hu => absurd hu (Nat.not_lt_zero _)⟩, fun k σ H' hW => ?_⟩
      · rw [upd_ne (ne_of_none (e4 _ _ hq3) hp5), att_zero b _ hps, zip_fst hgh]
        exact e4 _ _ hq3
      · rw [upd_ne (ne_of_none hq4 hp5)]
        exact hq4
      · rw [upd_same]
        show _ = some (HO.lst [V.str (S (grown c (att b (g.zip h) 0)))])
        rw [att_zero b _ hps, zip_fst hgh]
      · obtain ⟨t, q3, y6, y7, rfl, hq35, sm, h3, h4, h5, rfl, ht, hu⟩ := hW
        refine ⟨_, rfl, _, rfl, dI (zs (att b (g.zip h) t)), dI (zs h), dI_dp (.inl (.inl h3)), dI_dp (.inl (.inl h4)), dI_ok _, dI_ok _, _, rfl, ?_⟩
        rw [dI_eq]
        have hal : (att b (g.zip h) t).length = h.length := by rw [att_len, hpl]; omega
        by_cases z : att b (g.zip h) t = h
        · have e0 : (!decide (zs (att b (g.zip h) t) = zs h)) = false := by rw [z]; simp
          rw [e0]
          refine iteF ⟨_, rfl, ?_⟩
          have hdue : Due b (g.zip h) t := ⟨(att_end b _ t).mp (by rw [z, hzs]), hu⟩
          exact qT hle _ t p5 sm hdue hp5H h5
        · have e0 : (!decide (zs (att b (g.zip h) t) = zs h)) = true := by
            have : ¬ zs (att b (g.zip h) t) = zs h := fun q => z (zs_inj.mp q)
            rw [decide_eq_false this]
            rfl
          rw [e0]
          have hstep : ∃ p ∈ g.zip h, p.1 * b ^ t < p.2 := by
            refine Classical.byContradiction fun q => z ?_
            have q2 : ∀ p ∈ g.zip h, p.2 ≤ p.1 * b ^ t := fun p hp => by
              refine Classical.byContradiction fun q3 => q ⟨p, hp, by omega⟩
            have q4 := (att_end b (g.zip h) t).mpr q2
            rw [hzs] at q4
            exact q4
          have ht30 : t < 30 := by
            obtain ⟨p, hp, q⟩ := hstep
            have h1 := due_lt hb (hps1 p hp).1 q
            have h2 := hps30 p hp
            omega
          refine iteT ⟨fun σ' H2 => ∃ k', k' < 31 - t ∧ ∃ (t : Nat) (q3 : Addr) (y6 y7 : Option V), σ' = [some (.str (S (grown c g))), some (.str (S (grown c h))), some (.int ((b : Nat) : Int)), some (.ref q3), some (.ref p4), some (.ref p5), y6, y7] ∧ q3 ≠ p5 ∧ Same H H2 ∧ H2 q3 = some (.lst (zv (att b (g.zip h) t))) ∧ H2 p4 = some (.lst (zv h)) ∧ H2 p5 = some (.lst (stp c b (g.zip h) t)) ∧
            k' = 31 - t ∧ t ≤ 31 ∧ (∀ u, u < t → ∃ p ∈ g.zip h, p.1 * b ^ u < p.2), fun σ' H2 h => h, ?_⟩
          have hal9 : (att b (g.zip h) t).length ≤ 9 := by omega
          have hp45 : p4 ≠ p5 := ne_of_none hq4 hp5
          refine now_next hb2 hal hal9 h3 h4 fun H5 q s5 hq5 hn5 => ?_
          rw [att_nx' (by omega) hgh] at hn5
          have h55 := s5 _ _ h5
          have hq_5 : q ≠ p5 := Ne.symm (ne_of_none h5 hq5)
          have hps1' : ∀ x ∈ att b (g.zip h) (t + 1), 1 ≤ x := att_ge (by omega) _ _ hps1
          have hps30' : ∀ x ∈ att b (g.zip h) (t + 1), x ≤ 30 := att_le _ _ hps30
          have hall : (att b (g.zip h) (t + 1)).length = m := by rw [att_len, hpl]
          have hgrl := grown_len W1.C hall 30 hps30'
          have hcl := W1.cl
          refine ⟨_, rfl, .inl ⟨rfl, _, .inl (.inl h55)⟩, _, rfl, _, rfl, W1.len, W1.lts.low, W1.few, fun H6 s6 => ?_⟩
          rw [W1.core]
          have hn6 := s6 _ _ hn5
          refine ⟨_, rfl, c, q, _, m, rfl, .inl (.inl hn6), W1.C, hall, hps1', by omega, W1.lt.low, by omega, fun H7 s7 => ?_⟩
          have h57 := s7 _ _ (s6 _ _ h55)
          refine ⟨p5, _, _, rfl, rfl, h57, by unfold stp; rw [List.length_map, List.length_range, sizeLine_eq]; omega, ?_⟩
          have sm7 : Same H' H7 := (s5.trans s6).trans s7
          refine ⟨31 - (t + 1), by omega, t + 1, q, _, _, rfl, hq_5, same_put (sm.trans sm7) hp5H _, ?_, ?_, ?_, rfl, by omega, fun v hv => ?_⟩
          · rw [upd_ne hq_5]
            exact s7 _ _ hn6
          · rw [upd_ne hp45]
            exact sm7 _ _ h4
          · rw [upd_same]
            unfold stp
            rw [range_take _ (t + 1)]
          rcases Nat.lt_or_ge v t with h1 | h1
          · exact hu v h1
          · have : v = t := by omega
            rw [this]
            exact hstep
end
end Sc
namespace Sc
open PySem PySem.Spec PyProof.Rows L2
/-- the drawing row: the script, its place, the seed, a cell's rest -/
def RowOk (H : Hp) (r a : Addr) : Prop := ∃ i sd rest : Int, H r = some (.lst [.ref a, .int i, .int sd, .int rest]) ∧ 0 ≤ i ∧ 0 ≤ sd ∧ sd < 2147483647
/-- all but the row stays -/
def But (r : Addr) (H H' : Hp) : Prop := ∀ b o, b ≠ r → H b = some o → H' b = some o
theorem But.refl (r : Addr) (H : Hp) : But r H H := fun _ _ _ h => h
theorem But.trans {r : Addr} {H H1 H2 : Hp} (a : But r H H1) (b : But r H1 H2) : But r H H2 := fun c o hc h => b c o hc (a c o hc h)
theorem But.of {r : Addr} {H H' : Hp} (s : Same H H') : But r H H' := fun b o _ h => s b o h
theorem but_upd {r : Addr} {H : Hp} {o : HO} : But r H (upd H r o) := fun b u hb h => by
  rw [upd_ne hb]
  exact h
theorem seq_but {K : PySem.W.Frag} {H H' : Hp} {r a : Addr} {x : Addr} {l : List V} {ns : List Int} (h : SqL K H a (ns.map V.int)) (hr : H r = some (.lst (.ref x :: l))) (s : But r H H') : SqL K H' a (ns.map V.int) := by
  rcases h with (h | ⟨o, h⟩) | h
  · by_cases z : a = r
    · subst z
      rw [hr] at h
      have e := HO.lst.inj (Option.some.inj h)
      cases ns with
      | nil => cases e
      | cons n ns => cases e
    · exact .inl (.inl (s _ _ z h))
  · by_cases z : a = r
    · subst z
      rw [hr] at h
      cases h
    · exact .inl (.inr ⟨o, s _ _ z h⟩)
  · exact .inr h
theorem vmod {n : Int} {m : Nat} (hm : 1 ≤ m) : ∃ k : Nat, n % ((m : Nat) : Int) = ((k : Nat) : Int) ∧ k < m := by
  have h1 : 0 ≤ n % ((m : Nat) : Int) := Int.emod_nonneg _ (by omega)
  have h2 : n % ((m : Nat) : Int) < ((m : Nat) : Int) := Int.emod_lt_of_pos _ (by omega)
  exact ⟨(n % ((m : Nat) : Int)).toNat, by omega, by omega⟩
section
variable {P : Program} {w : World} {K : PySem.W.Frag} {mg : Str → Option Value} {base : Heap}
def spTaken (K : PySem.W.Frag) : Sp := fun vs H Q _ => ∃ (r a : Addr) (ns : List Int) (many : Nat), vs = [.ref r, .int ((many : Nat) : Int)] ∧ RowOk H r a ∧ SqL K H a (ns.map V.int) ∧ 1 ≤ many ∧ many ≤ 1000 ∧
  ∀ (n : Nat) H', n < many → But r H H' → RowOk H' r a → Q (.int ((n : Nat) : Int)) H'
theorem ok__law_taken (T : Txt K mg) {f : Addr} {fd : FuncData} (F : Fun K "_law_taken" "_law_taken" s__law_taken f fd) : FnOk P w K mg base CX0 1 f fd ["_law_row", "_law_many"] (spTaken K) := by
  have nd := sc__law_taken.nd
  refine F.ok sc__law_taken (fun vs H Q E h => ?_) (fun cdv A outer s H vs Q E hr h => ?_)
  · obtain ⟨r, a, ns, many, rfl, _⟩ := h
    rfl
  · obtain ⟨r, a, ns, many, rfl, ⟨i, sd, rest, hrow, hi, hs1, hs2⟩, hS, hm, hm2, q⟩ := h
    refine ⟨_, pss_cons (ps_if (pt_cmpR op_gt (pe_ix ix_list (pv 0) pe_int (fun _ _ => rfl)) pe_int (nomark _))
        (pss_cons (ps_set (i := 2) nd rfl (.inl rfl) (pe_op op_mod (pe_callTy call_int1 (by rfl) T.b_int (by decide +kernel) (pa_cons (pe_ix ix_list (pv 0) pe_int (fun _ _ => rfl)) pa_nil)) (pv 1)))
        (pss_cons (ps_asg (pe_op op_fdiv (pe_ix ix_list (pv 0) pe_int (fun _ _ => rfl)) (pv 1)) (pg_sub (pv 0) pe_int set_list))
        (pss_one (ps_ret (pv 2))))) pss_nil)
      (pss_cons (ps_asg (pe_op op_add (pe_ix ix_list (pv 0) pe_int (fun _ _ => rfl)) pe_int) (pg_sub (pv 0) pe_int set_list))
      (pss_cons (ps_if (pt_cmpR op_gt (pe_ix ix_list (pv 0) pe_int (fun _ _ => rfl)) (pe_callB call_len_seq (by rfl) T.b_len PySem.boot_len (pa_cons (pe_ix ix_list (pv 0) pe_int (fun _ _ => rfl)) pa_nil)) (nomark _))
        (pss_cons (ps_asg (pe_op op_mod (pe_callTy call_int1 (by rfl) T.b_int (by decide +kernel) (pa_cons (pe_op op_add (pe_op op_mul (pe_ix ix_list (pv 0) pe_int (fun _ _ => rfl)) pe_int) pe_int) pa_nil)) pe_int) (pg_sub (pv 0) pe_int set_list))
        (pss_one (ps_ret (pe_op op_mod (pe_callTy call_int1 (by rfl) T.b_int (by decide +kernel) (pa_cons (pe_op op_fdiv (pe_ix ix_list (pv 0) pe_int (fun _ _ => rfl)) pe_int) pa_nil)) (pv 1))))) pss_nil)
      (pss_cons (ps_set (i := 3) nd rfl (.inl rfl) (pe_ix ix_list (pe_ix ix_list (pv 0) pe_int (fun _ _ => rfl)) (pe_op op_sub (pe_ix ix_list (pv 0) pe_int (fun _ _ => rfl)) pe_int) (fun _ _ => rfl)))
      (pss_cons (ps_asg (pe_op op_mod (pe_callTy call_int1 (by rfl) T.b_int (by decide +kernel) (pa_cons (pe_op op_add (pe_op op_add (pe_op op_mul (pe_ix ix_list (pv 0) pe_int (fun _ _ => rfl)) pe_int) (pv 3)) pe_int) pa_nil)) pe_int) (pg_sub (pv 0) pe_int set_list))
      (pss_cons (ps_if (pt_cmpR op_ge (pv 3) (pe_op op_pow pe_int pe_int) (nomark _))
        (pss_one (ps_asg (pe_op op_fdiv (pv 3) (pv 1)) (pg_sub (pv 0) pe_int set_list))) pss_nil)
      (pss_one (ps_ret (pe_op op_mod (pe_callTy call_int1 (by rfl) T.b_int (by decide +kernel) (pa_cons (pv 3) pa_nil)) (pv 1)))))))))
      , ?_⟩
    have at0 : ∀ (x y z u : V), atI [x, y, z, u] 0 = some x := fun _ _ _ _ => rfl
    have at1 : ∀ (x y z u : V), atI [x, y, z, u] 1 = some y := fun _ _ _ _ => rfl
    have at2 : ∀ (x y z u : V), atI [x, y, z, u] 2 = some z := fun _ _ _ _ => rfl
    have at3 : ∀ (x y z u : V), atI [x, y, z, u] 3 = some u := fun _ _ _ _ => rfl
    have sq : ∀ {H1 : Hp} {l : List V}, H1 r = some (.lst l) → SqL K H1 r l := fun h => .inl (.inl h)
    refine ⟨_, rfl, r, _, 3, _, rfl, rfl, sq hrow, at3 _ _ _ _, _, _, rfl, rfl, _, rfl, ?_⟩
    refine ite2 (fun c => ?_) (fun c => ?_)
    · refine ⟨_, rfl, r, _, 3, _, rfl, rfl, sq hrow, at3 _ _ _ _, .inl ⟨_, rfl, ?_⟩⟩
      refine ⟨_, rfl, _, _, rfl, rfl, (by show (0 : Int) < ((many : Nat) : Int); omega), ?_⟩
      refine ⟨_, rfl, r, _, 3, _, rfl, rfl, sq hrow, at3 _ _ _ _, _, rfl, _, _, rfl, rfl, ⟨by omega, by omega⟩, ?_⟩
      refine ⟨_, rfl, r, _, 3, 3, rfl, rfl, hrow, rfl, ?_⟩
      obtain ⟨k, hk, hkm⟩ := vmod (n := rest) hm
      have e1 : V.int (rest % ((many : Nat) : Int)) = V.int ((k : Nat) : Int) := by rw [hk]
      refine ⟨_, rfl, ?_⟩
      show Q (V.int (rest % ((many : Nat) : Int))) _
      rw [e1]
      exact q k _ hkm but_upd ⟨i, sd, _, upd_same, hi, hs1, hs2⟩
    · have pos : (0 : Int) < ((many : Nat) : Int) := by omega
      refine ⟨_, rfl, r, _, 1, _, rfl, rfl, sq hrow, at1 _ _ _ _, _, _, rfl, rfl, _, rfl, r, _, 1, 1, rfl, rfl, hrow, rfl, ?_⟩
      have hrow1 : upd H r (.lst ([V.ref a, .int i, .int sd, .int rest].set 1 (.int (i + 1)))) r = some (.lst [.ref a, .int (i + 1), .int sd, .int rest]) := upd_same
      have hb1 : But r H (upd H r (.lst ([V.ref a, .int i, .int sd, .int rest].set 1 (.int (i + 1))))) := but_upd
      have hS1 := seq_but hS hrow hb1
      show (tSeq _ _) _ _ (upd H r (.lst ([V.ref a, .int i, .int sd, .int rest].set 1 (.int (i + 1)))))
      generalize upd H r (.lst ([V.ref a, .int i, .int sd, .int rest].set 1 (.int (i + 1)))) = H1 at hrow1 hb1 hS1
      refine ⟨_, rfl, r, _, 1, _, rfl, rfl, sq hrow1, at1 _ _ _ _, _, rfl, r, _, 0, _, rfl, rfl, sq hrow1, at0 _ _ _ _, a, _, rfl, .inl hS1, _, _, rfl, rfl, _, rfl, ?_⟩
      refine ite2 (fun c2 => ?_) (fun c2 => ?_)
      · refine ⟨_, rfl, r, _, 2, _, rfl, rfl, sq hrow1, at2 _ _ _ _, _, _, rfl, rfl, .inl ⟨by omega, by omega⟩, _, _, rfl, rfl, .inl ⟨_, rfl, ?_⟩⟩
        refine ⟨_, _, rfl, rfl, (by show (0 : Int) < 2147483647; decide), ?_⟩
        refine ⟨_, rfl, r, _, 2, 2, rfl, rfl, hrow1, rfl, ?_⟩
        refine ⟨_, rfl, r, _, 2, _, rfl, rfl, sq upd_same, rfl, _, _, rfl, rfl, ⟨by decide, by decide⟩, .inl ⟨_, rfl, ?_⟩⟩
        refine ⟨_, rfl, _, _, rfl, rfl, pos, ?_⟩
        obtain ⟨k, hk, hkm⟩ := vmod (n := (sd * 48271 + 11) % 2147483647 / 7) hm
        have e1 : V.int ((sd * 48271 + 11) % 2147483647 / 7 % ((many : Nat) : Int)) = V.int ((k : Nat) : Int) := by rw [hk]
        show Q (V.int ((sd * 48271 + 11) % 2147483647 / 7 % ((many : Nat) : Int))) _
        rw [e1]
        refine q k _ hkm (hb1.trans but_upd) ⟨i + 1, (sd * 48271 + 11) % 2147483647, rest, upd_same, by omega, Int.emod_nonneg _ (by decide), Int.emod_lt_of_pos _ (by decide)⟩
      · have hlen : (ns.map V.int).length = ns.length := List.length_map ..
        have hil : i < ns.length := by
          have := of_decide_eq_false (Bool.eq_false_iff.mpr c2)
          rw [hlen] at this
          omega
        have hin : ns[i.toNat]? = some ns[i.toNat] := List.getElem?_eq_getElem (by omega)
        generalize ns[i.toNat] = cell at hin
        have hcell : atI (ns.map V.int) (i + 1 - 1) = some (.int cell) := by
          have e0 : i + 1 - 1 = ((i.toNat : Nat) : Int) := by omega
          rw [e0]
          refine atI_nat ?_
          rw [List.getElem?_map, hin]
          rfl
        refine ⟨_, rfl, r, _, 0, _, rfl, rfl, sq hrow1, at0 _ _ _ _, _, rfl, r, _, 1, _, rfl, rfl, sq hrow1, at1 _ _ _ _, _, _, rfl, rfl, a, _, _, _, rfl, rfl, hS1, hcell, ?_⟩
        refine ⟨_, rfl, r, _, 2, _, rfl, rfl, sq hrow1, at2 _ _ _ _, _, _, rfl, rfl, .inl ⟨by omega, by omega⟩, _, rfl, _, _, rfl, rfl, _, _, rfl, rfl, .inl ⟨_, rfl, ?_⟩⟩
        refine ⟨_, _, rfl, rfl, (by show (0 : Int) < 2147483647; decide), ?_⟩
        refine ⟨_, rfl, r, _, 2, 2, rfl, rfl, hrow1, rfl, ?_⟩
        have hs3 : 0 ≤ (sd * 48271 + cell + 11) % 2147483647 := Int.emod_nonneg _ (by decide)
        have hs4 : (sd * 48271 + cell + 11) % 2147483647 < 2147483647 := Int.emod_lt_of_pos _ (by decide)
        obtain ⟨k, hk, hkm⟩ := vmod (n := cell) hm
        have e1 : V.int (cell % ((many : Nat) : Int)) = V.int ((k : Nat) : Int) := by rw [hk]
        refine ⟨_, rfl, _, _, rfl, rfl, ⟨by decide, by decide, by decide⟩, _, _, rfl, rfl, _, rfl, ?_⟩
        refine ite2 (fun c3 => ?_) (fun c3 => ?_)
        · refine ⟨_, rfl, _, rfl, _, _, rfl, rfl, ⟨by omega, by omega⟩, _, rfl, r, _, 3, 3, rfl, rfl, upd_same, rfl, ?_⟩
          refine ⟨_, rfl, .inl ⟨_, rfl, _, rfl, _, _, rfl, rfl, pos, ?_⟩⟩
          show Q (V.int (cell % ((many : Nat) : Int))) _
          rw [e1]
          exact q k _ hkm ((hb1.trans but_upd).trans but_upd) ⟨i + 1, _, _, upd_same, by omega, hs3, hs4⟩
        · refine ⟨_, rfl, .inl ⟨_, rfl, _, rfl, _, _, rfl, rfl, pos, ?_⟩⟩
          show Q (V.int (cell % ((many : Nat) : Int))) _
          rw [e1]
          exact q k _ hkm (hb1.trans but_upd) ⟨i + 1, _, _, upd_same, by omega, hs3, hs4⟩
end
end Sc
namespace Sc
open PySem PySem.Spec PyProof.Rows L2
theorem sd_turn (row : List Nat) (l : List Nat) (i c : Nat) (h : l[i]? = some c) : sd row (cn (l.take i)) (l.drop i) = List.replicate (row.getD (cn (l.take i) c) 0) c ++ sd row (cn (l.take (i + 1))) (l.drop (i + 1)) := by
  rw [mem_rest h, sd_cons, take_snoc h, cn_snoc]
theorem cn_lt {l : List Nat} {i c : Nat} (h : l[i]? = some c) : cn (l.take i) c + 1 ≤ l.count c := by
  have e : l = l.take i ++ c :: l.drop (i + 1) := by
    rw [← mem_rest h, List.take_append_drop]
  have e2 : l.count c = (l.take i ++ c :: l.drop (i + 1)).count c := by rw [← e]
  rw [e2, List.count_append, List.count_cons]
  unfold cn
  simp
section
variable {P : Program} {w : World} {K : PySem.W.Frag} {mg : Str → Option Value} {base : Heap}
/-! ### _law_power -/
def spPower : Sp := fun vs H Q _ => ∃ b t : Nat, vs = [.int ((b : Nat) : Int), .int ((t : Nat) : Int)] ∧ b ≤ 1000 ∧ t ≤ 1000 ∧ Q (.int ((b ^ t : Nat) : Int)) H
theorem ok__law_power (T : Txt K mg) {f : Addr} {fd : FuncData} (F : Fun K "_law_power" "_law_power" s__law_power f fd) : FnOk P w K mg base CX0 1 f fd ["_law_one", "_law_times"] spPower := by
  have nd := sc__law_power.nd
  refine F.ok sc__law_power (fun vs H Q E h => ?_) (fun cdv A outer s H vs Q E hr h => ?_)
  · obtain ⟨b, t, rfl, _⟩ := h
    rfl
  · obtain ⟨b, t, rfl, hb, ht, q⟩ := h
    refine ⟨_, pss_cons (ps_set (i := 2) nd rfl (.inl rfl) pe_int)
      (pss_cons (ps_for PassesOwn.never rfl (pi_range1 (by rfl) T.b_range (pa_cons (pv 1) pa_nil)) (pg_name (i := 3) nd rfl (.inl rfl))
        (pss_one (ps_set (i := 2) nd rfl (.inl rfl) (pe_op op_mul (pv 2) (pv 0)))))
      (pss_one (ps_ret (pv 2)))), ?_⟩
    refine ⟨_, rfl, _, rfl, by omega, by omega, ?_⟩
    rw [Int.toNat_natCast]
    refine for_range (lo := 0) (n := t) (fun i σ H' => ∃ y, σ = [some (.int ((b : Nat) : Int)), some (.int ((t : Nat) : Int)), some (.int ((b ^ i : Nat) : Int)), y] ∧ H' = H) ⟨none, rfl, rfl⟩ (fun i σ H' hi hP => ?_) (fun σ H' hP => ?_)
    · obtain ⟨y, rfl, rfl⟩ := hP
      refine ⟨_, rfl, _, rfl, _, _, rfl, rfl, .inr ⟨by omega, by omega⟩, ?_⟩
      refine ⟨some (.int (0 + ((i : Nat) : Int))), ?_, rfl⟩
      have e := vmul (b ^ i) b
      rw [← Nat.pow_succ] at e
      show [some (V.int ((b : Nat) : Int)), some (V.int ((t : Nat) : Int)), some (V.int (((b ^ i : Nat) : Int) * ((b : Nat) : Int))), some (V.int (0 + ((i : Nat) : Int)))] = _
      rw [e]
    · obtain ⟨y, rfl, rfl⟩ := hP
      exact ⟨_, rfl, q⟩
/-! ### _law_alike of two equal ints -/
def spAlike : Sp := fun vs H Q _ => ∃ n : Int, vs = [.int n, .int n] ∧ ∀ H', Same H H' → Q (.bl true) H'
theorem ok__law_alike (T : Txt K mg) {f : Addr} {fd : FuncData} (F : Fun K "_law_alike" "_law_alike" s__law_alike f fd) : FnOk P w K mg base CX0 1 f fd ["_law_found", "_law_due"] spAlike := by
  have nd := sc__law_alike.nd
  refine F.ok sc__law_alike (fun vs H Q E h => ?_) (fun cdv A outer s H vs Q E hr h => ?_)
  · obtain ⟨n, rfl, _⟩ := h
    rfl
  · obtain ⟨n, rfl, q⟩ := h
    refine ⟨_, pss_cons (ps_if (pt_val (pe_callB call_isiT (by rfl) T.b_isinstance (by decide +kernel) (pa_cons (pv 1) (pa_cons (pe_tup (pa_cons (pe_bltn (v := .ty "tuple") (by rfl) T.b_tuple (by decide +kernel) rfl) (pa_cons (pe_bltn (v := .ty "list") (by rfl) T.b_list (by decide +kernel) rfl) pa_nil))) pa_nil)))) pss_never pss_nil)
      (pss_cons (ps_if (PW.pt (pw_or (pt_cmpR op_isN (pv 1) pe_non (nomark _)) (pw_or1 (pt_val (pe_callB call_isi (by rfl) T.b_isinstance (by decide +kernel) (pa_cons (pv 1) (pa_cons (pe_bltn (v := .ty "str") (by rfl) T.b_str (by decide +kernel) rfl) pa_nil))))))) pss_never pss_nil)
      (pss_one (ps_ret (pe_and (pe_callB call_isi (by rfl) T.b_isinstance (by decide +kernel) (pa_cons (pv 0) (pa_cons (pe_bltn (v := .ty "int") (by rfl) T.b_int (by decide +kernel) rfl) pa_nil)))
        (pe_and (pe_cmpR op_eq (pe_callB call_isi (by rfl) T.b_isinstance (by decide +kernel) (pa_cons (pv 0) (pa_cons (pe_bltn (v := .ty "bool") (by rfl) T.b_bool (by decide +kernel) rfl) pa_nil))) (pe_callB call_isi (by rfl) T.b_isinstance (by decide +kernel) (pa_cons (pv 1) (pa_cons (pe_bltn (v := .ty "bool") (by rfl) T.b_bool (by decide +kernel) rfl) pa_nil))) (nomark _))
        (pe_one (pe_cmpR op_eq (pv 0) (pv 1) (nomark _)))))))), ?_⟩
    refine ⟨_, rfl, by show 2 ≤ sizeLine; decide, fun t nt => ?_⟩
    refine ⟨_, t, _, _, _, false, rfl, upd_same, .cons (.ty _) (.cons (.ty _) .nil), .base (.int n), kitAny_cons (b := false) (r := false) (kit_ty (by decide +kernel)) (fun _ => kitAny_cons (b := false) (r := false) (kit_ty (by decide +kernel)) (fun _ => kitAny_nil) (fun z => z)) (fun z => z), _, rfl, iteF ?_⟩
    refine ⟨_, rfl, rfl, false, by simp, iteF ?_⟩
    refine ⟨_, rfl, _, _, _, _, false, rfl, .ty _, .base (.int n), kit_ty (by decide +kernel), false, rfl, iteF ?_⟩
    refine ⟨_, rfl, _, _, _, _, true, rfl, .ty _, .base (.int n), kit_ty (by decide +kernel), true, rfl, iteT ?_⟩
    refine ⟨_, rfl, _, _, _, _, false, rfl, .ty _, .base (.int n), kit_ty (by decide +kernel), _, rfl, _, _, _, _, false, rfl, .ty _, .base (.int n), kit_ty (by decide +kernel), rfl, true, by simp, iteT ?_⟩
    refine ⟨_, rfl, _, rfl, rfl, ?_⟩
    exact qT rfl (q _ (same_upd nt))
/-! ### _law_row_said -/
def spSaid (K : PySem.W.Frag) : Sp := fun vs H Q _ => ∃ (a : Addr) (row l : List Nat), vs = [.ref a, .str (S l)] ∧ SqT K H a (zv row) ∧ (∀ c, l.count c ≤ row.length) ∧ (∀ x ∈ row, x ≤ 1000) ∧ l.length ≤ 2000 ∧ (sd row k0 l).length ≤ 2000 ∧ ∀ H', Same H H' → Q (.str (S (sd row k0 l))) H'
theorem same_seqT {H H' : Hp} {a : Addr} {xs : List V} (h : SqT K H a xs) (s : Same H H') : SqT K H' a xs := by
  rcases h with (h | ⟨o, h⟩) | h
  · exact .inl (.inl (s _ _ h))
  · exact .inl (.inr ⟨o, s _ _ h⟩)
  · exact .inr h
theorem ok__law_row_said (T : Txt K mg) {f : Addr} {fd : FuncData} (F : Fun K "_law_row_said" "_law_row_said" s__law_row_said f fd) : FnOk P w K mg base CX0 1 f fd ["_law_told", "_law_word_here"] (spSaid K) := by
  have nd := sc__law_row_said.nd
  refine F.ok sc__law_row_said (fun vs H Q E h => ?_) (fun cdv A outer s H vs Q E hr h => ?_)
  · obtain ⟨a, row, l, rfl, _⟩ := h
    rfl
  · obtain ⟨a, row, l, rfl, hS, hcnt, hrow, hl, hlen, q⟩ := h
    refine ⟨_, pss_cons (ps_par (i := 2) (j := 3) rfl nd rfl rfl (by decide) rfl rfl (pa_cons pe_str (pa_cons pe_dnewK pa_nil)) (by rfl))
      (pss_cons (ps_for PassesOwn.never rfl (pi_str (pv 1)) (pg_name (i := 4) nd rfl (.inl rfl))
        (pss_cons (ps_dput (hu_of hr) (pv 3) (pv 4) (pe_op op_add (pe_dget2 (hu_of hr) (pv 3) (pv 4) pe_int ⟨rfl, rfl, rfl, rfl⟩) pe_int) rfl)
        (pss_one (ps_set (i := 2) nd rfl (.inl rfl) (pe_op op_add_str (pv 2) (pe_op op_times (pv 4) (pe_ix ix_tup (pv 0) (pe_op op_sub (pe_dget (hu_of hr) (pv 3) (pv 4) (fun _ _ => rfl)) pe_int) (fun _ _ => rfl))))))))
      (pss_one (ps_ret (pv 2)))), ?_⟩
    intro d hd
    have hs0 : Same H (upd H d (.dK [])) := same_put (Same.refl H) hd _
    have e0 : PySem.Str.ofString "" = S [] := by decide +kernel
    have hsz : (S l).cps.size = l.length := S_len l
    refine ⟨_, _, rfl, _, rfl, _, rfl, for_it walk_str (fun i σ H' => ∃ (y : Option V) (acc : List Nat), σ = [some (.ref a), some (.str (S l)), some (.str (S acc)), some (.ref d), y] ∧ Same H H' ∧ KnD H' d i (cn (l.take i)) ∧ sd row k0 l = acc ++ sd row (cn (l.take i)) (l.drop i)) ?_ (fun _ _ _ _ _ => trivial) (fun i x σ H1 H2 hi hP hY => ?_) (fun σ H1 hP => ?_)⟩
    · exact ⟨none, [], rfl, hs0, KnD.new (d := d) upd_same, rfl⟩
    · obtain ⟨y, acc, rfl, sm, kd, hsd⟩ := hP
      obtain ⟨rfl, c, hcx, rfl⟩ := hY
      rw [hsz] at hi
      have hli : l[i]? = some c := by simpa [S] using hcx
      have hk : cn (l.take i) c < row.length := by
        have h1 := cn_lt hli
        have h2 := hcnt c
        omega
      have hrk : row[cn (l.take i) c]? = some row[cn (l.take i) c] := List.getElem?_eq_getElem hk
      rw [sd_turn row l i c hli, List.getD_eq_getElem?_getD, hrk] at hsd
      generalize row[cn (l.take i) c] = n at hrk hsd
      have hn : n ≤ 1000 := hrow n (List.mem_of_getElem? hrk)
      obtain ⟨o, g1, g2⟩ := kd.get c
      obtain ⟨kvs, e1, e2, e3⟩ := kd.put (by omega) c (cn (l.take i) c + 1) (z := ((cn (l.take i) c : Nat) : Int) + 1) (by omega)
      rw [← cn_snoc, ← take_snoc hli] at e2
      refine ⟨_, rfl, d, rfl, kd.isD, _, rfl, o, g1, ((cn (l.take i) c : Nat) : Int), 1, g2, rfl, _, rfl, _, rfl, d, _, rfl, e1, ?_⟩
      have sm2 : Same H (upd H2 d (.dK kvs)) := same_put sm hd _
      have e5 : atI (zv row) (((cn (l.take i) c + 1 : Nat) : Int) - 1) = some (.int ((n : Nat) : Int)) := by
        have e6 : ((cn (l.take i) c + 1 : Nat) : Int) - 1 = ((cn (l.take i) c : Nat) : Int) := by omega
        rw [e6]
        exact atI_nat (zv_get hrk)
      refine ⟨_, rfl, _, rfl, _, rfl, _, rfl, _, rfl, d, _, rfl, e3, _, _, rfl, rfl, a, _, _, _, rfl, rfl, same_seqT hS sm2, e5, c, n, rfl, rfl, by omega, _, _, rfl, rfl, ?_, ?_⟩
      · rw [S_len, S_len, List.length_replicate, sizeLine_eq]
        rw [hsd, List.length_append, List.length_append, List.length_replicate] at hlen
        simp at hlen
        omega
      · refine ⟨some (.str (S [c])), acc ++ List.replicate n c, ?_, sm2, e2, ?_⟩
        · rw [S_app]
          rfl
        · rw [hsd, List.append_assoc]
          rfl
    · obtain ⟨y, acc, rfl, sm, kd, hsd⟩ := hP
      rw [hsz, List.drop_length] at hsd
      have hfl : sd row k0 l = acc := by
        rw [hsd]
        exact List.append_nil _
      rw [hfl] at q
      exact ⟨_, rfl, q H1 sm⟩
/-! ### _law_word -/
theorem rowOk_same {H H' : Hp} {r a : Addr} (h : RowOk H r a) (s : Same H H') : RowOk H' r a := by
  obtain ⟨i, sd, rest, h1, h2⟩ := h
  exact ⟨i, sd, rest, s _ _ h1, h2⟩
def spWord (K : PySem.W.Frag) : Sp := fun vs H Q _ => ∃ (r a : Addr) (ns : List Int) (many : Nat), vs = [.ref r, .int 9, .int ((many : Nat) : Int)] ∧ RowOk H r a ∧ SqL K H a (ns.map V.int) ∧ 1 ≤ many ∧ many ≤ 4 ∧
  ∀ (l : List Nat) H', l.length ≤ 9 → Lts l → But r H H' → RowOk H' r a → Q (.str (S l)) H'
theorem ok__law_word (T : Txt K mg) {f : Addr} {fd : FuncData} (F : Fun K "_law_word" "_law_word" s__law_word f fd) : FnOk P w K mg base CX0 2 f fd ["_law_row", "_law_most", "_law_many"] (spWord K) := by
  obtain ⟨f1, fd1, g1, F1⟩ := T.d__law_taken
  have G1 : FnOk P w K mg base CX0 1 f1 fd1 ["_law_row", "_law_many"] (spTaken K) := ok__law_taken T F1
  have b1 : Binds K fd1 ["_law_row", "_law_many"] [] := F1.binds fun _ _ _ _ _ _ us hl => match us, hl with | [_, _], _ => rfl
  have nd := sc__law_word.nd
  refine F.ok sc__law_word (fun vs H Q E h => ?_) (fun cdv A outer s H vs Q E hr h => ?_)
  · obtain ⟨r, a, ns, many, rfl, _⟩ := h
    rfl
  · obtain ⟨r, a, ns, many, rfl, hR, hS, hm, hm4, q⟩ := h
    refine ⟨_, pss_cons (ps_asg (pe_tup (pa_cons pe_str (pa_cons pe_str pa_nil))) (pg_tup rfl (pgs_cons (pg_name (i := 3) nd rfl (.inl rfl)) (pgs_cons (pg_name (i := 4) nd rfl (.inl rfl)) pgs_nil))))
      (pss_cons (ps_for PassesOwn.never rfl (pi_range1 (by rfl) T.b_range (pa_cons (pe_call G1 hr (by rfl) g1 F1.kp b1 .nil pass0 (pa_cons (pv 0) (pa_cons (pe_op op_add (pv 1) pe_int) pa_nil))) pa_nil)) (pg_name (i := 5) nd rfl (.inl rfl))
        (pss_cons (ps_if (pt_cmpR op_gt (pe_call G1 hr (by rfl) g1 F1.kp b1 .nil pass0 (pa_cons (pv 0) (pa_cons pe_int pa_nil))) pe_int (nomark _))
          (pss_one (ps_set (i := 4) nd rfl (.inl rfl) (pe_ix ix_str pe_str (pe_call G1 hr (by rfl) g1 F1.kp b1 .nil pass0 (pa_cons (pv 0) (pa_cons (pv 2) pa_nil))) (fun _ _ => rfl)))) pss_nil)
        (pss_one (ps_set (i := 3) nd rfl (.inl rfl) (pe_op op_add_str (pv 3) (pv 4))))))
      (pss_one (ps_ret (pv 3)))), ?_⟩
    have e0 : PySem.Str.ofString "" = S [] := by decide +kernel
    have e97 : PySem.Str.ofString "a" = S [97] := by decide +kernel
    have eabcd : (PySem.Str.ofString "abcd").cps.toList = [97, 98, 99, 100] := by decide +kernel
    have elen : (PySem.Str.ofString "abcd").length = 4 := by decide +kernel
    obtain ⟨i0, s0, r0, hrow, _⟩ := id hR
    refine ⟨by show 2 ≤ sizeLine; decide, fun t nt => ?_⟩
    have sm1 : Same H (upd H t (.tup [.str (PySem.Str.ofString ""), .str (PySem.Str.ofString "a")])) := same_upd nt
    have hR1 := rowOk_same hR sm1
    have hS1 := sm1.seq hS
    refine ⟨t, _, rfl, .inl (.inl upd_same), rfl, _, _, rfl, _, _, rfl, rfl, ?_⟩
    refine ⟨_, rfl, _, rfl, _, _, rfl, rfl, r, a, ns, 10, rfl, hR1, hS1, by decide, by decide, fun n H1 hn hb1 hR2 => ?_⟩
    refine ⟨_, rfl, by omega, by omega, ?_⟩
    rw [Int.toNat_natCast]
    refine for_range (lo := 0) (n := n) (fun i σ H' => ∃ (y : Option V) (acc : List Nat) (c : Nat), σ = [some (.ref r), some (.int 9), some (.int ((many : Nat) : Int)), some (.str (S acc)), some (.str (S [c])), y] ∧ acc.length = i ∧ Lts acc ∧ (c = 97 ∨ c = 98 ∨ c = 99 ∨ c = 100) ∧ But r H H' ∧ RowOk H' r a) ?_ (fun i σ H2 hi hP => ?_) (fun σ H2 hP => ?_)
    · exact ⟨none, [], 97, rfl, rfl, fun c hc => (nomatch hc), .inl rfl, (But.of sm1).trans hb1, hR2⟩
    · obtain ⟨y, acc, c, rfl, hal, hLt, hc, hb2, hR3⟩ := hP
      refine ⟨_, rfl, r, a, ns, 3, rfl, hR3, seq_but hS hrow hb2, by decide, by decide, fun k H3 hk hb3 hR4 => ?_⟩
      have hb4 := hb2.trans hb3
      -- found + last
      have fin : ∀ (c2 : Nat) (H4 : Hp), (c2 = 97 ∨ c2 = 98 ∨ c2 = 99 ∨ c2 = 100) → But r H H4 → RowOk H4 r a → ∃ (y : Option V) (acc' : List Nat) (c : Nat), [some (V.ref r), some (.int 9), some (.int ((many : Nat) : Int)), some (.str (S acc ++ S [c2])), some (.str (S [c2])), some (.int (0 + ((i : Nat) : Int)))] = [some (.ref r), some (.int 9), some (.int ((many : Nat) : Int)), some (.str (S acc')), some (.str (S [c])), y] ∧ acc'.length = i + 1 ∧ Lts acc' ∧ (c = 97 ∨ c = 98 ∨ c = 99 ∨ c = 100) ∧ But r H H4 ∧ RowOk H4 r a := by
        intro c2 H4 hc2 hb5 hR5
        refine ⟨_, acc ++ [c2], c2, by rw [S_app], by rw [List.length_append, hal]; rfl, fun x hx => ?_, hc2, hb5, hR5⟩
        rcases List.mem_append.mp hx with h1 | h1
        · exact hLt x h1
        · rw [List.mem_singleton.mp h1]
          exact hc2
      have room : ∀ c2 : Nat, (S acc).length + (S [c2]).length ≤ sizeLine := fun c2 => by
        rw [S_len, S_len, hal, sizeLine_eq]
        show i + 1 ≤ _
        omega
      refine ⟨_, _, rfl, rfl, _, rfl, ?_⟩
      refine ite2 (fun _ => ?_) (fun _ => ?_)
      · refine ⟨_, rfl, _, rfl, r, a, ns, many, rfl, hR4, seq_but hS hrow hb4, hm, by omega, fun k2 H4 hk2 hb5 hR5 => ?_⟩
        have hat : atI (PySem.Str.ofString "abcd").cps.toList ((k2 : Nat) : Int) = some (97 + k2) := by
          rw [eabcd]
          refine atI_nat ?_
          have : k2 < 4 := by omega
          match k2, this with
          | 0, _ => rfl
          | 1, _ => rfl
          | 2, _ => rfl
          | 3, _ => rfl
        refine ⟨_, _, 97 + k2, rfl, rfl, by rw [elen, sizeLine_eq]; omega, hat, ?_⟩
        refine ⟨_, rfl, _, rfl, _, _, rfl, rfl, room _, ?_⟩
        exact fin (97 + k2) H4 (by omega) (hb4.trans hb5) hR5
      · refine ⟨_, rfl, _, rfl, _, _, rfl, rfl, room _, ?_⟩
        exact fin c H3 hc hb4 hR4
    · obtain ⟨y, acc, c, rfl, hal, hLt, hc, hb2, hR3⟩ := hP
      exact ⟨_, rfl, q acc H2 (by omega) hLt hb2 hR3⟩
end
end Sc
namespace Sc
open PySem PySem.Spec PyProof.Rows L2

/-- 1 + a draw below k -/
def teDraw (K : PySem.W.Frag) (k : Nat) : TE := tOp (rI0 fun i j => .int (i + j)) (tC (.int 1)) (tCall (spTaken K) [] E0 (tCons (tVar 1) (tCons (tC (.int ((k : Nat) : Int))) tNil)))
/-- first[at] * bound ** due < second[at] -/
def ttDue (K : PySem.W.Frag) : TT := tTest (tOp (rI0 fun i j => .bl (decide (i < j))) (tOp (rI CMul fun i j => .int (i * j)) (tOp (rIxL K) (tVar 3) (tVar 12)) (tCall spPower [] E0 (tCons (tVar 7) (tCons (tVar 8) tNil)))) (tOp (rIxL K) (tVar 4) (tVar 12)))
def ttMid : TT := tTest (tChain (rI0 fun i j => .bl (decide (i < j))) (rI0 fun i j => .bl (decide (i < j))) (tC (.int 1)) (tVar 18) (tVar 7))
def ttOut : TT := tNot (tTest (tChain (rI0 fun i j => .bl (decide (i ≤ j))) (rI0 fun i j => .bl (decide (i ≤ j))) (tC (.int 1)) (tVar 18) (tVar 7)))
def rLenS (K : PySem.W.Frag) : List V → Hp → VK → Prop := fun xs H Q => ∃ p ys, xs = [V.ref p] ∧ (SqL K H p ys ∨ SqT K H p ys) ∧ Q (.int ((ys.length : Nat) : Int)) H
def rMin2 : List V → Hp → VK → Prop := fun xs H Q => ∃ i j, xs = [V.int i, V.int j] ∧ Q (.int (if j < i then j else i)) H
def rListOf (K : PySem.W.Frag) : List V → Hp → VK → Prop := fun xs H Q => ∃ p ys, xs = [V.ref p] ∧ (SqL K H p ys ∨ SqT K H p ys) ∧ ∀ l, H l = none → Q (.ref l) (upd H l (.lst ys))
/-- the inner loop's turn -/
def t_in3 (K : PySem.W.Frag) : TS := (tSeq (tIfS (tTest (tOp (rI0 fun i j => .bl (decide (j < i))) (tCB (rLenS K) (tCons (tLc (iTup K (tVar 16)) (gName 18) ttMid (tVar 18) [18]) tNil)) (tC (.int 1)))) (tRet (tC (.bl false))) tNext)
    (tAsg (tOp (rI0 fun i j => .int (i + j)) (tVar 14) (tOp (rIxL K) (tVar 13) (tVar 15))) (gName 14)))
def t_in2 (K : PySem.W.Frag) : TS := (tSeq (tIfS (tOr (tTest (tOp rNe (tCB (rSumT K) (tCons (tVar 16) tNil)) (tCB rMin2 (tCons (tOp (rIxL K) (tVar 4) (tVar 15)) (tCons (tOp (rI CMul fun i j => .int (i * j)) (tVar 7) (tOp (rIxL K) (tVar 13) (tVar 15))) tNil))))) (tTest (tOp (rNeD K) (tCB (rListOf K) (tCons (tVar 16) tNil)) (tRevL K (tCB (rSortT K) (tCons (tVar 16) tNil)))))) (tRet (tC (.bl false))) tNext) (t_in3 K))
def t_in (K : PySem.W.Frag) : TS := (tSeq (tAsg (tSl (rSlA K) (tOp (rIxT K) (tVar 9) (tVar 12)) (tPart (tVar 14)) (tPart (tOp (rI0 fun i j => .int (i + j)) (tVar 14) (tOp (rIxL K) (tVar 13) (tVar 15))))) (gName 16)) (t_in2 K))
/-- the outer loop's turn -/
def t_out4 (K : PySem.W.Frag) : TS := (tSeq (tAsg (tCall (spSaid K) [] E0 (tCons (tOp (rIxT K) (tVar 9) (tVar 12)) (tCons (tVar 11) tNil))) (gName 11))
    (tIfS (tTest (tOp rNe (tVar 11) (tOp (rIxL K) (tVar 10) (tOp (rI0 fun i j => .int (i + j)) (tVar 12) (tC (.int 1)))))) (tRet (tC (.bl false))) tNext))
def t_out3 (K : PySem.W.Frag) : TS := (tSeq (tAsg (tC (.int 0)) (gName 14))
    (tSeq (tFor (iRng1 (tCons (tCB (rLenS K) (tCons (tVar 13) tNil)) tNil)) (gName 15) (t_in K)) (t_out4 K)))
def t_out2 (K : PySem.W.Frag) : TS := (tSeq (tIfS (tOr (tTest (tOp rNe (tCB (rLenS K) (tCons (tOp (rIxT K) (tVar 9) (tVar 12)) tNil)) (tCB (rSum K) (tCons (tVar 13) tNil)))) (tTest (tOp (rNeD K) (tLc (iTup K (tOp (rIxT K) (tVar 9) (tVar 12))) (gName 18) ttOut (tVar 18) [18]) (tLst tNil)))) (tRet (tC (.bl false))) tNext) (t_out3 K))
def t_out (K : PySem.W.Frag) : TS := (tSeq (tAsg (tCall spGaps [] E0 (tCons (tVar 11) tNil)) (gName 13)) (t_out2 K))
/-- from the checks of rows and stops on -/
def t_checks3 (K : PySem.W.Frag) : TS := (tSeq (tFor (iRng1 (tCons (tVar 8) tNil)) (gName 12) (t_out K))
    (tRet (tOp rEq (tVar 11) (tVar 6))))
def t_checks2 (K : PySem.W.Frag) : TS := (tSeq (tIfS (tTest (tOp rNe (tOp (rIxL K) (tVar 10) (tUn (rU fun i => .int (-i)) (tC (.int 1)))) (tVar 6))) (tRet (tC (.bl false))) tNext) (t_checks3 K))
def t_checks (K : PySem.W.Frag) : TS := (tSeq (tIfS (tOr (tNot (tB (tCB (rIsi K) (tCons (tVar 9) (tCons (tC (.ty "tuple")) tNil))))) (tOr (tTest (tOp rNe (tCB (rLenS K) (tCons (tVar 9) tNil)) (tVar 8))) (tOr (tTest (tOp rNe (tCB (rLenS K) (tCons (tVar 10) tNil)) (tOp (rI0 fun i j => .int (i + j)) (tVar 8) (tC (.int 1))))) (tTest (tOp rNe (tOp (rIxL K) (tVar 10) (tC (.int 0))) (tVar 5)))))) (tRet (tC (.bl false))) tNext) (t_checks2 K))
/-- from _law_due = 0 on -/
def t_tail3 (K : PySem.W.Frag) : TS := (tSeq (tPar3 9 10 11 (tCons (tCall spSayings [] E0 (tCons (tVar 5) (tCons (tVar 6) (tCons (tVar 7) tNil)))) (tCons (tCall spStops [] E0 (tCons (tVar 5) (tCons (tVar 6) (tCons (tVar 7) tNil)))) (tCons (tVar 5) tNil))))
    (t_checks K))
def t_tail2 (K : PySem.W.Frag) : TS := (tSeq (tIfS (tNot (tB (tCall spAlike [] E0 (tCons (tCall spFewest [] E0 (tCons (tVar 5) (tCons (tVar 6) (tCons (tVar 7) tNil)))) (tCons (tVar 8) tNil))))) (tRet (tC (.bl false))) tNext) (t_tail3 K))
def t_tail1 (K : PySem.W.Frag) : TS := (tSeq (tWhile (tTest (tOp (rNeD K) (tLc (iRng1 (tCons (tCB (rLenS K) (tCons (tVar 3) tNil)) tNil)) (gName 12) (ttDue K) (tVar 12) [12]) (tLst tNil))) (tAsg (tOp (rI0 fun i j => .int (i + j)) (tVar 8) (tC (.int 1))) (gName 8))) (t_tail2 K))
def t_tail (K : PySem.W.Frag) : TS := (tSeq (tAsg (tC (.int 0)) (gName 8)) (t_tail1 K))
/-- from the test of is_saying on -/
def t_mid (K : PySem.W.Frag) : TS := (tSeq (tIfS (tNot (tB (tCall spGrows [] E0 (tCons (tVar 5) (tCons (tVar 6) tNil))))) (tRet (tAndV (tIsN (tCall spFewest [] E0 (tCons (tVar 5) (tCons (tVar 6) (tCons (tVar 7) tNil))))) (tIsN (tCall spSayings [] E0 (tCons (tVar 5) (tCons (tVar 6) (tCons (tVar 7) tNil))))))) tNext)
    (t_tail K))
def t_three (K : PySem.W.Frag) : TS := (tSeq (tAsg (tTup (tCons (tCall (spGrown K) [] E0 (tCons (tVar 2) (tCons (tVar 3) tNil))) (tCons (tCall (spGrown K) [] E0 (tCons (tVar 2) (tCons (tVar 4) tNil))) (tCons (tOp (rI0 fun i j => .int (i + j)) (tC (.int 2)) (tCall (spTaken K) [] E0 (tCons (tVar 1) (tCons (tC (.int 3)) tNil)))) tNil)))) (gTup K 3 (gCons (gName 5) (gCons (gName 6) (gCons (gName 7) gNil)))))
    (t_mid K))
def t_second (K : PySem.W.Frag) : TS := (tSeq (tAsg (tLc (iList K (tVar 3)) (gName 17) tYes (teDraw K 30) [17]) (gName 4)) (t_three K))
def t_first (K : PySem.W.Frag) : TS := (tSeq (tAsg (tLc (iList K (tCall spGaps [] E0 (tCons (tVar 2) tNil))) (gName 17) tYes (teDraw K 3) [17]) (gName 3)) (t_second K))
def t_law (K : PySem.W.Frag) : TS := (tSeq (tAsg (tLst (tCons (tVar 0) (tCons (tC (.int 0)) (tCons (tC (.int 4641)) (tCons (tC (.int 0)) tNil))))) (gName 1))
    (tSeq (tAsg (tCall spCore [] E0 (tCons (tCall (spWord K) [] E0 (tCons (tVar 1) (tCons (tC (.int 9)) (tCons (tOp (rI0 fun i j => .int (i + j)) (tC (.int 1)) (tCall (spTaken K) [] E0 (tCons (tVar 1) (tCons (tC (.int 3)) tNil)))) tNil)))) tNil)) (gName 2))
    (t_first K)))

end Sc
namespace Sc
open PySem PySem.Spec PyProof.Rows L2
section
variable {P : Program} {w : World} {K : PySem.W.Frag} {mg : Str → Option Value} {base : Heap}
def spLaw (K : PySem.W.Frag) : Sp := fun vs H Q _ => ∃ (a : Addr) (ns : List Int), vs = [.ref a] ∧ SqL K H a (ns.map V.int) ∧ ns.length ≤ 63 ∧ ∀ H', Q (.bl true) H'
theorem ok_law (read : ∀ (vs : List V) (H : Hp) (Q : VK) (E : XK), spLaw K vs H Q E → t_law K { nx := fun _ H' => Q .non H', rt := Q } (start ["_law_script", "_law_row", "_law_core_here", "_law_first", "_law_second", "_law_one", "_law_other", "_law_bound", "_law_due", "_law_rows", "_law_stops", "_law_now", "_law_at", "_law_gaps_here", "_law_start", "_law_spot", "_law_part", "_law_gap", "_law_number"] vs) H) (T : Txt K mg) {f : Addr} {fd : FuncData} (F : Fun K "law" "law" s_law f fd) : FnOk P w K mg base CX0 6 f fd ["_law_script"] (spLaw K) := by
  obtain ⟨fTk, fdTk, gTk, FTk⟩ := T.d__law_taken
  have GTk : FnOk P w K mg base CX0 1 fTk fdTk ["_law_row", "_law_many"] (spTaken K) := ok__law_taken T FTk
  have bTk : Binds K fdTk ["_law_row", "_law_many"] [] := FTk.binds fun _ _ _ _ _ _ us hl => match us, hl with | [_, _], _ => rfl
  obtain ⟨fWo, fdWo, gWo, FWo⟩ := T.d__law_word
  have GWo : FnOk P w K mg base CX0 2 fWo fdWo ["_law_row", "_law_most", "_law_many"] (spWord K) := ok__law_word T FWo
  have bWo : Binds K fdWo ["_law_row", "_law_most", "_law_many"] [] := FWo.binds fun _ _ _ _ _ _ us hl => match us, hl with | [_, _, _], _ => rfl
  obtain ⟨fCo, fdCo, gCo, FCo⟩ := T.d__law_core
  have GCo : FnOk P w K mg base CX0 3 fCo fdCo ["_law_word_here"] spCore := ok__law_core T FCo
  have bCo : Binds K fdCo ["_law_word_here"] [] := FCo.binds fun _ _ _ _ _ _ us hl => match us, hl with | [_], _ => rfl
  obtain ⟨fGa, fdGa, gGa, FGa⟩ := T.d__law_gaps
  have GGa : FnOk P w K mg base CX0 3 fGa fdGa ["_law_word_here"] spGaps := ok__law_gaps T FGa
  have bGa : Binds K fdGa ["_law_word_here"] [] := FGa.binds fun _ _ _ _ _ _ us hl => match us, hl with | [_], _ => rfl
  obtain ⟨fGr, fdGr, gGr, FGr⟩ := T.d__law_grown
  have GGr : FnOk P w K mg base CX0 2 fGr fdGr ["_law_bare", "_law_widths"] (spGrown K) := ok__law_grown T FGr
  have bGr : Binds K fdGr ["_law_bare", "_law_widths"] [] := FGr.binds fun _ _ _ _ _ _ us hl => match us, hl with | [_, _], _ => rfl
  obtain ⟨fIs, fdIs, gIs, FIs⟩ := T.d_is_saying
  have GIs : FnOk P w K mg base CX0 5 fIs fdIs ["one", "other"] spGrows := ok_is_saying T FIs
  have bIs : Binds K fdIs ["one", "other"] [] := FIs.binds fun _ _ _ _ _ _ us hl => match us, hl with | [_, _], _ => rfl
  obtain ⟨fFe, fdFe, gFe, FFe⟩ := T.d_fewest_sayings
  have GFe : FnOk P w K mg base CX0 5 fFe fdFe ["one", "other", "bound"] spFewest := ok_fewest_sayings T FFe
  have bFe : Binds K fdFe ["one", "other", "bound"] [] := FFe.binds fun _ _ _ _ _ _ us hl => match us, hl with | [_, _, _], _ => rfl
  obtain ⟨fSa, fdSa, gSa, FSa⟩ := T.d_sayings_to
  have GSa : FnOk P w K mg base CX0 5 fSa fdSa ["one", "other", "bound"] spSayings := ok_sayings_to T FSa
  have bSa : Binds K fdSa ["one", "other", "bound"] [] := FSa.binds fun _ _ _ _ _ _ us hl => match us, hl with | [_, _, _], _ => rfl
  obtain ⟨fSt, fdSt, gSt, FSt⟩ := T.d_stops_on_the_way
  have GSt : FnOk P w K mg base CX0 5 fSt fdSt ["one", "other", "bound"] spStops := ok_stops_on_the_way T FSt
  have bSt : Binds K fdSt ["one", "other", "bound"] [] := FSt.binds fun _ _ _ _ _ _ us hl => match us, hl with | [_, _, _], _ => rfl
  obtain ⟨fPo, fdPo, gPo, FPo⟩ := T.d__law_power
  have GPo : FnOk P w K mg base CX0 1 fPo fdPo ["_law_one", "_law_times"] spPower := ok__law_power T FPo
  have bPo : Binds K fdPo ["_law_one", "_law_times"] [] := FPo.binds fun _ _ _ _ _ _ us hl => match us, hl with | [_, _], _ => rfl
  obtain ⟨fAl, fdAl, gAl, FAl⟩ := T.d__law_alike
  have GAl : FnOk P w K mg base CX0 1 fAl fdAl ["_law_found", "_law_due"] spAlike := ok__law_alike T FAl
  have bAl : Binds K fdAl ["_law_found", "_law_due"] [] := FAl.binds fun _ _ _ _ _ _ us hl => match us, hl with | [_, _], _ => rfl
  obtain ⟨fRo, fdRo, gRo, FRo⟩ := T.d__law_row_said
  have GRo : FnOk P w K mg base CX0 1 fRo fdRo ["_law_told", "_law_word_here"] (spSaid K) := ok__law_row_said T FRo
  have bRo : Binds K fdRo ["_law_told", "_law_word_here"] [] := FRo.binds fun _ _ _ _ _ _ us hl => match us, hl with | [_, _], _ => rfl
  have nd := sc_law.nd
  refine F.ok sc_law (fun vs H Q E h => ?_) (fun cdv A outer s H vs Q E hr h => ⟨t_law K, ?_, read vs H Q E h⟩)
  · obtain ⟨a, ns, rfl, _⟩ := h
    rfl
  · exact (pss_cons (ps_set (i := 1) nd rfl (.inr rfl) (pe_lst (pa_cons (pv 0) (pa_cons pe_int (pa_cons pe_int (pa_cons pe_int pa_nil))))))
      (pss_cons (ps_set (i := 2) nd rfl (.inl rfl) (pe_call GCo (hr.mono (by decide)) (by rfl) gCo FCo.kp bCo .nil pass0 (pa_cons (pe_call GWo (hr.mono (by decide)) (by rfl) gWo FWo.kp bWo .nil pass0 (pa_cons (pv 1) (pa_cons pe_int (pa_cons (pe_op op_add pe_int (pe_call GTk (hr.mono (by decide)) (by rfl) gTk FTk.kp bTk .nil pass0 (pa_cons (pv 1) (pa_cons pe_int pa_nil)))) pa_nil)))) pa_nil)))
      (pss_cons (ps_set (i := 3) nd rfl (.inr rfl) (pe_lc (own := [("_law_gap", 17)]) (g := gName 17) (tt := tYes) (te := (teDraw K 3)) rfl nd (pi_list (pe_call GGa (hr.mono (by decide)) (by rfl) gGa FGa.kp bGa .nil pass0 (pa_cons (pv 2) pa_nil)))
            (blkOk_by (own := [("_law_gap", 17)]) (N := ["_law_script", "_law_row", "_law_core_here", "_law_first", "_law_second", "_law_one", "_law_other", "_law_bound", "_law_due", "_law_rows", "_law_stops", "_law_now", "_law_at", "_law_gaps_here", "_law_start", "_law_spot", "_law_part", "_law_gap", "_law_number"]) (sc := defScope s_law) (by decide +kernel))
            (fun _ _ _ _ _ => pg_name (i := 17) nd rfl (.inl rfl) (.inr rfl)) (fun _ _ _ _ _ => pts_nil) (fun _ _ _ _ _ => (pe_op op_add pe_int (pe_call GTk (hr.mono (by decide)) (by rfl) gTk FTk.kp bTk .nil pass0 (pa_cons (pv 1) (pa_cons pe_int pa_nil)))))))
      (pss_cons (ps_set (i := 4) nd rfl (.inr rfl) (pe_lc (own := [("_law_gap", 17)]) (g := gName 17) (tt := tYes) (te := (teDraw K 30)) rfl nd (pi_list (pv 3))
            (blkOk_by (own := [("_law_gap", 17)]) (N := ["_law_script", "_law_row", "_law_core_here", "_law_first", "_law_second", "_law_one", "_law_other", "_law_bound", "_law_due", "_law_rows", "_law_stops", "_law_now", "_law_at", "_law_gaps_here", "_law_start", "_law_spot", "_law_part", "_law_gap", "_law_number"]) (sc := defScope s_law) (by decide +kernel))
            (fun _ _ _ _ _ => pg_name (i := 17) nd rfl (.inl rfl) (.inr rfl)) (fun _ _ _ _ _ => pts_nil) (fun _ _ _ _ _ => (pe_op op_add pe_int (pe_call GTk (hr.mono (by decide)) (by rfl) gTk FTk.kp bTk .nil pass0 (pa_cons (pv 1) (pa_cons pe_int pa_nil)))))))
      (pss_cons (ps_asg (pe_tup (pa_cons (pe_call GGr (hr.mono (by decide)) (by rfl) gGr FGr.kp bGr .nil pass0 (pa_cons (pv 2) (pa_cons (pv 3) pa_nil))) (pa_cons (pe_call GGr (hr.mono (by decide)) (by rfl) gGr FGr.kp bGr .nil pass0 (pa_cons (pv 2) (pa_cons (pv 4) pa_nil))) (pa_cons (pe_op op_add pe_int (pe_call GTk (hr.mono (by decide)) (by rfl) gTk FTk.kp bTk .nil pass0 (pa_cons (pv 1) (pa_cons pe_int pa_nil)))) pa_nil))))
        (pg_tup rfl (pgs_cons (pg_name (i := 5) nd rfl (.inl rfl)) (pgs_cons (pg_name (i := 6) nd rfl (.inl rfl)) (pgs_cons (pg_name (i := 7) nd rfl (.inr rfl)) pgs_nil)))))
      (pss_cons (ps_if (pt_not (pt_val (pe_call GIs hr (by rfl) gIs FIs.kp bIs .nil pass0 (pa_cons (pv 5) (pa_cons (pv 6) pa_nil))))) (pss_one (ps_ret (pe_and (pe_cmp (pc_isN (pe_call GFe hr (by rfl) gFe FFe.kp bFe .nil pass0 (pa_cons (pv 5) (pa_cons (pv 6) (pa_cons (pv 7) pa_nil)))))) (pe_one (pe_cmp (pc_isN (pe_call GSa hr (by rfl) gSa FSa.kp bSa .nil pass0 (pa_cons (pv 5) (pa_cons (pv 6) (pa_cons (pv 7) pa_nil)))))))))) pss_nil)
      (pss_cons (ps_set (i := 8) nd rfl (.inr rfl) pe_int)
      (pss_cons (ps_while PassesOwn.never (pt_cmpR (op_neD hr.units) (pe_lc (own := [("_law_at", 12)]) (g := gName 12) (tt := (ttDue K)) (te := (tVar 12)) rfl nd (pi_range1 (by rfl) T.b_range (pa_cons (pe_callB call_len_seq (by rfl) T.b_len PySem.boot_len (pa_cons (pv 3) pa_nil)) pa_nil))
            (blkOk_by (own := [("_law_at", 12)]) (N := ["_law_script", "_law_row", "_law_core_here", "_law_first", "_law_second", "_law_one", "_law_other", "_law_bound", "_law_due", "_law_rows", "_law_stops", "_law_now", "_law_at", "_law_gaps_here", "_law_start", "_law_spot", "_law_part", "_law_gap", "_law_number"]) (sc := defScope s_law) (by decide +kernel))
            (fun _ _ _ _ _ => pg_name (i := 12) nd rfl (.inl rfl) (.inr rfl)) (fun _ _ _ _ _ => pts_one (pt_cmpR op_lt (pe_op op_mul (pe_ix ix_list (pv 3) (pv 12) (fun _ _ => rfl)) (pe_call GPo (hr.mono (by decide)) (by rfl) gPo FPo.kp bPo .nil pass0 (pa_cons (pv 7) (pa_cons (pv 8) pa_nil)))) (pe_ix ix_list (pv 4) (pv 12) (fun _ _ => rfl)) (nomark _))) (fun _ _ _ _ _ => (pv 12))) (pe_lst pa_nil) (nomark _))
        (pss_one (ps_set (i := 8) nd rfl (.inr rfl) (pe_op op_add (pv 8) pe_int))))
      (pss_cons (ps_if (pt_not (pt_val (pe_call GAl (hr.mono (by decide)) (by rfl) gAl FAl.kp bAl .nil pass0 (pa_cons (pe_call GFe hr (by rfl) gFe FFe.kp bFe .nil pass0 (pa_cons (pv 5) (pa_cons (pv 6) (pa_cons (pv 7) pa_nil)))) (pa_cons (pv 8) pa_nil))))) (pss_one (ps_ret pe_bl)) pss_nil)
      (pss_cons (ps_par3 (i := 9) (j := 10) (l := 11) rfl nd rfl rfl rfl (by decide) (by decide) (by decide) rfl rfl rfl (pa_cons (pe_call GSa hr (by rfl) gSa FSa.kp bSa .nil pass0 (pa_cons (pv 5) (pa_cons (pv 6) (pa_cons (pv 7) pa_nil)))) (pa_cons (pe_call GSt hr (by rfl) gSt FSt.kp bSt .nil pass0 (pa_cons (pv 5) (pa_cons (pv 6) (pa_cons (pv 7) pa_nil)))) (pa_cons (pv 5) pa_nil))) (by rfl))
      (pss_cons (ps_if (PW.pt (pw_or (pt_not (pt_val (pe_callB call_isi (by rfl) T.b_isinstance (by decide +kernel) (pa_cons (pv 9) (pa_cons (pe_bltn (v := .ty "tuple") (by rfl) T.b_tuple (by decide +kernel) rfl) pa_nil))))) (pw_or (pt_cmpR op_ne (pe_callB call_len_seq (by rfl) T.b_len PySem.boot_len (pa_cons (pv 9) pa_nil)) (pv 8) (nomark _)) (pw_or (pt_cmpR op_ne (pe_callB call_len_seq (by rfl) T.b_len PySem.boot_len (pa_cons (pv 10) pa_nil)) (pe_op op_add (pv 8) pe_int) (nomark _)) (pw_or1 (pt_cmpR op_ne (pe_ix ix_list (pv 10) pe_int (fun _ _ => rfl)) (pv 5) (nomark _))))))) (pss_one (ps_ret pe_bl)) pss_nil)
      (pss_cons (ps_if (pt_cmpR op_ne (pe_ix ix_list (pv 10) (pe_un un_neg pe_int) (fun _ _ => rfl)) (pv 6) (nomark _)) (pss_one (ps_ret pe_bl)) pss_nil)
      (pss_cons (ps_for PassesOwn.never rfl (pi_range1 (by rfl) T.b_range (pa_cons (pv 8) pa_nil)) (pg_name (i := 12) nd rfl (.inl rfl))
      (pss_cons (ps_set (i := 13) nd rfl (.inl rfl) (pe_call GGa (hr.mono (by decide)) (by rfl) gGa FGa.kp bGa .nil pass0 (pa_cons (pv 11) pa_nil)))
      (pss_cons (ps_if (PW.pt (pw_or (pt_cmpR op_ne (pe_callB call_len_seq (by rfl) T.b_len PySem.boot_len (pa_cons (pe_ix ix_tup (pv 9) (pv 12) (fun _ _ => rfl)) pa_nil)) (pe_callB (cr_sum rfl) (by rfl) T.b_sum (by decide +kernel) (pa_cons (pv 13) pa_nil)) (nomark _)) (pw_or1 (pt_cmpR (op_neD hr.units) (pe_lc (own := [("_law_number", 18)]) (g := gName 18) (tt := ttOut) (te := (tVar 18)) rfl nd (pi_tup (pe_ix ix_tup (pv 9) (pv 12) (fun _ _ => rfl)))
            (blkOk_by (own := [("_law_number", 18)]) (N := ["_law_script", "_law_row", "_law_core_here", "_law_first", "_law_second", "_law_one", "_law_other", "_law_bound", "_law_due", "_law_rows", "_law_stops", "_law_now", "_law_at", "_law_gaps_here", "_law_start", "_law_spot", "_law_part", "_law_gap", "_law_number"]) (sc := defScope s_law) (by decide +kernel))
            (fun _ _ _ _ _ => pg_name (i := 18) nd rfl (.inl rfl) (.inr rfl)) (fun _ _ _ _ _ => pts_one (pt_not (pt_chain op_le op_le pe_int (pv 18) (pv 7)))) (fun _ _ _ _ _ => (pv 18))) (pe_lst pa_nil) (nomark _))))) (pss_one (ps_ret pe_bl)) pss_nil)
      (pss_cons (ps_set (i := 14) nd rfl (.inl rfl) pe_int)
      (pss_cons (ps_for PassesOwn.never rfl (pi_range1 (by rfl) T.b_range (pa_cons (pe_callB call_len_seq (by rfl) T.b_len PySem.boot_len (pa_cons (pv 13) pa_nil)) pa_nil)) (pg_name (i := 15) nd rfl (.inl rfl))
      (pss_cons (ps_set (i := 16) nd rfl (.inl rfl) (pe_slice sl_tupA (pe_ix ix_tup (pv 9) (pv 12) (fun _ _ => rfl)) (po_some (pv 14)) (po_some (pe_op op_add (pv 14) (pe_ix ix_list (pv 13) (pv 15) (fun _ _ => rfl))))))
      (pss_cons (ps_if (PW.pt (pw_or (pt_cmpR op_ne (pe_callB (cr_sumT rfl) (by rfl) T.b_sum (by decide +kernel) (pa_cons (pv 16) pa_nil)) (pe_callB (call_min2 rfl) (by rfl) T.b_min (by decide +kernel) (pa_cons (pe_ix ix_list (pv 4) (pv 15) (fun _ _ => rfl)) (pa_cons (pe_op op_mul (pv 7) (pe_ix ix_list (pv 13) (pv 15) (fun _ _ => rfl))) pa_nil))) (nomark _)) (pw_or1 (pt_cmpR (op_neD hr.units) (pe_callTy call_list_of (by rfl) T.b_list (by decide +kernel) (pa_cons (pv 16) pa_nil)) (pe_revL (pe_callB cr_sortT (by rfl) T.b_sorted (by decide +kernel) (pa_cons (pv 16) pa_nil))) (nomark _))))) (pss_one (ps_ret pe_bl)) pss_nil)
      (pss_cons (ps_if (pt_cmpR op_gt (pe_callB call_len_seq (by rfl) T.b_len PySem.boot_len (pa_cons (pe_lc (own := [("_law_number", 18)]) (g := gName 18) (tt := ttMid) (te := (tVar 18)) rfl nd (pi_tup (pv 16))
            (blkOk_by (own := [("_law_number", 18)]) (N := ["_law_script", "_law_row", "_law_core_here", "_law_first", "_law_second", "_law_one", "_law_other", "_law_bound", "_law_due", "_law_rows", "_law_stops", "_law_now", "_law_at", "_law_gaps_here", "_law_start", "_law_spot", "_law_part", "_law_gap", "_law_number"]) (sc := defScope s_law) (by decide +kernel))
            (fun _ _ _ _ _ => pg_name (i := 18) nd rfl (.inl rfl) (.inr rfl)) (fun _ _ _ _ _ => pts_one (pt_chain op_lt op_lt pe_int (pv 18) (pv 7))) (fun _ _ _ _ _ => (pv 18))) pa_nil)) pe_int (nomark _)) (pss_one (ps_ret pe_bl)) pss_nil)
      (pss_one (ps_set (i := 14) nd rfl (.inl rfl) (pe_op op_add (pv 14) (pe_ix ix_list (pv 13) (pv 15) (fun _ _ => rfl)))))))))
      (pss_cons (ps_set (i := 11) nd rfl (.inl rfl) (pe_call GRo (hr.mono (by decide)) (by rfl) gRo FRo.kp bRo .nil pass0 (pa_cons (pe_ix ix_tup (pv 9) (pv 12) (fun _ _ => rfl)) (pa_cons (pv 11) pa_nil))))
      (pss_one (ps_if (pt_cmpR op_ne (pv 11) (pe_ix ix_list (pv 10) (pe_op op_add (pv 12) pe_int) (fun _ _ => rfl)) (nomark _)) (pss_one (ps_ret pe_bl)) pss_nil))))))))
      (pss_one (ps_ret (pe_cmpR op_eq (pv 11) (pv 6) (nomark _)))))))))))))))))
end
end Sc
namespace Sc
open PySem PySem.Spec PyProof.Rows L2
/-- the law's slots behind the draws -/
abbrev st (a r pf ps : Addr) (c f s : List Nat) (b : Nat) (y8 y9 y10 y11 y12 y13 y14 y15 y16 y17 y18 : Option V) : L2.St :=
  [some (.ref a), some (.ref r), some (.str (S c)), some (.ref pf), some (.ref ps), some (.str (S (grown c f))), some (.str (S (grown c s))), some (.int ((b : Nat) : Int)), y8, y9, y10, y11, y12, y13, y14, y15, y16, y17, y18]
theorem core_lts {l : List Nat} (h : Lts l) : Lts (core l) := fun x hx => by
  obtain ⟨n, hn⟩ := mk_mem k0 _ x hx
  obtain ⟨p, hp, e⟩ := List.mem_map.mp hn
  have h1 := rn_mem k0 l p hp
  have e1 : p.1 = x := congrArg Prod.fst e
  rw [← e1]
  exact h _ h1
/-- the reading of «[1 + _law_taken(_law_row, k) for _ in ..]» -/
theorem draw_lc {K : PySem.W.Frag} {r a : Addr} {xs : List V} {ns : List Int} (k : Nat) (Pre : Hp → Addr → Prop) {H : Hp} {σ : L2.St} {wi : TI} {Q : VK} (hk : 1 ≤ k) (hk2 : k ≤ 1000)
    (h1 : ∀ x, ((wipe σ [17]).set 17 (some x))[1]? = some (some (.ref r))) (hw : ∀ x, wipe ((wipe σ [17]).set 17 (some x)) [17] = wipe σ [17])
    (hwi : ∀ R : It → Hp → Prop, (∀ H1 p, Pre H1 p → R (Itl K p) H1) → wi σ H R) (hx : xs.length ≤ 2000)
    (hpre : ∀ H1 p, Pre H1 p → RowOk H1 r a ∧ SqL K H1 a (ns.map V.int) ∧ H1 p = some (.lst xs) ∧ p ≠ r)
    (hd : ∀ H1 p, Pre H1 p → ∀ H' D fs, But r H1 H' → RowOk H' r a → H1 D = none → H' D = some (.lst (zv fs)) → fs.length = xs.length → (∀ x ∈ fs, 1 ≤ x ∧ x ≤ k) → Q (.ref D) H') :
    tLc wi (gName 17) tYes (teDraw K k) [17] σ H Q := by
  refine hwi _ fun H1 p hP => ?_
  obtain ⟨hR, hS, hp, hpr⟩ := hpre H1 p hP
  have hd := hd H1 p hP
  intro D hD
  obtain ⟨i0, s0, r0, hrow, hrest⟩ := id hR
  have hDr : D ≠ r := fun z => by rw [z, hrow] at hD; cases hD
  have hDp : D ≠ p := fun z => by rw [z, hp] at hD; cases hD
  refine lc_list (K := K) (a := p) (xs := xs) (fun i H' => But r H1 H' ∧ RowOk H' r a ∧ ∃ fs, H' D = some (.lst (zv fs)) ∧ fs.length = i ∧ ∀ x ∈ fs, 1 ≤ x ∧ x ≤ k) ⟨But.of (same_upd hD), rowOk_same hR (same_upd hD), [], upd_same, rfl, fun x hx => (nomatch hx)⟩ (fun i H' _ hP => .inl (.inl (hP.1 _ _ hpr hp))) (fun i x H' hi hP => ?_) (fun H' hP => ?_)
  · obtain ⟨hb, hR2, fs, hf, hfl, hfx⟩ := hP
    have hil : i < xs.length := (List.getElem?_eq_some_iff.mp hi).1
    refine ⟨hw x, ?_⟩
    refine ⟨_, h1 x, r, a, ns, k, rfl, hR2, seq_but hS hrow hb, hk, hk2, fun n H2 hn hb2 hR3 => ?_⟩
    refine ⟨1, ((n : Nat) : Int), rfl, rfl, _, hb2 _ _ hDr hf, by rw [zv_len, hfl, sizeLine_eq]; omega, ?_⟩
    have e1 : V.int (1 + ((n : Nat) : Int)) = V.int ((1 + n : Nat) : Int) := by
      congr 1
    refine ⟨fun b o hbr ho => ?_, ?_, fs ++ [1 + n], ?_, by rw [List.length_append, hfl]; rfl, fun x hx => ?_⟩
    · have hbD : b ≠ D := fun z => by rw [z, hD] at ho; cases ho
      rw [upd_ne hbD]
      exact hb2 _ _ hbr (hb _ _ hbr ho)
    · obtain ⟨i1, s1, r1, h2, h3⟩ := hR3
      exact ⟨i1, s1, r1, by rw [upd_ne (Ne.symm hDr)]; exact h2, h3⟩
    · rw [upd_same, ← zv_snoc, ← e1]
    · rcases List.mem_append.mp hx with h4 | h4
      · exact hfx x h4
      · rw [List.mem_singleton.mp h4]
        omega
  · obtain ⟨hb, hR2, fs, hf, hfl, hfx⟩ := hP
    exact hd H' D fs hb hR2 hD hf hfl hfx

section
variable {K : PySem.W.Frag}
theorem read_law (mid : ∀ (a r pf ps : Addr) (c f s : List Nat) (m b : Nat) (H : Hp) (Q : VK), Wd c f m → Wd c s m → H pf = some (.lst (zv f)) → H ps = some (.lst (zv s)) → 2 ≤ b → b ≤ 4 → (∀ H', Q (.bl true) H') →
      t_mid K { nx := fun _ H' => Q .non H', rt := Q } (st a r pf ps c f s b none none none none none none none none none none none) H)
    (vs : List V) (H : Hp) (Q : VK) (E : XK) (h : spLaw K vs H Q E) : t_law K { nx := fun _ H' => Q .non H', rt := Q } (start ["_law_script", "_law_row", "_law_core_here", "_law_first", "_law_second", "_law_one", "_law_other", "_law_bound", "_law_due", "_law_rows", "_law_stops", "_law_now", "_law_at", "_law_gaps_here", "_law_start", "_law_spot", "_law_part", "_law_gap", "_law_number"] vs) H := by
  obtain ⟨a, ns, rfl, hS, hns, q⟩ := h
  -- _law_row
  refine ⟨_, rfl, by show 4 ≤ sizeLine; decide, fun r hrn => ?_⟩
  have sm1 : Same H (upd H r (.lst [.ref a, .int 0, .int 4641, .int 0])) := same_upd hrn
  have hR1 : RowOk (upd H r (.lst [.ref a, .int 0, .int 4641, .int 0])) r a := ⟨0, 4641, 0, upd_same, by decide, by decide, by decide⟩
  have hS1 : SqL K (upd H r (.lst [.ref a, .int 0, .int 4641, .int 0])) a (ns.map V.int) := sm1.seq hS
  have hrow1 : (upd H r (.lst [.ref a, .int 0, .int 4641, .int 0])) r = some (.lst [.ref a, .int 0, .int 4641, .int 0]) := upd_same
  refine (show (tSeq _ _) _ _ (upd H r (.lst [.ref a, .int 0, .int 4641, .int 0])) from ?_)
  generalize upd H r (.lst [.ref a, .int 0, .int 4641, .int 0]) = H1 at sm1 hR1 hS1 hrow1
  -- _law_core_here
  refine ⟨_, rfl, _, rfl, r, a, ns, 3, rfl, hR1, hS1, by decide, by decide, fun n1 H2 hn1 hb2 hR2 => ?_⟩
  refine ⟨_, _, rfl, rfl, r, a, ns, 1 + n1, ?_, hR2, seq_but hS1 hrow1 hb2, by omega, by omega, fun l H3 hl hLt hb3 hR3 => ?_⟩
  · rfl
  have hrl : (runs l).length ≤ 50 := by
    have := rn_len k0 l
    unfold runs
    omega
  refine ⟨l, rfl, by omega, hLt.low, hrl, fun H4 sm4 => ?_⟩
  have hCl : (core l).length ≤ 9 := Nat.le_trans (core_len l) hl
  have hCt : Lts (core l) := core_lts hLt
  have hC := core_ok l
  have hm9 : (marks l).length - 1 ≤ 9 := Nat.le_trans (core_m hC) hCl
  have hgl := core_gaps_len l
  have hrc : (runs (core l)).length ≤ 50 := by
    have := rn_len k0 (core l)
    unfold runs
    omega
  generalize core l = c at hCl hCt hC hgl hrc
  generalize (marks l).length - 1 = m at hC hm9 hgl
  have hb4 : But r H1 H4 := (hb2.trans hb3).trans (But.of sm4)
  have hR4 := rowOk_same hR3 sm4
  have hS4 := seq_but hS1 hrow1 hb4
  -- _law_first
  show t_first K _ [some (.ref a), some (.ref r), some (.str (S c)), none, none, none, none, none, none, none, none, none, none, none, none, none, none, none, none] H4
  refine draw_lc (K := K) (r := r) (a := a) (ns := ns) (xs := zv (gaps c)) (wi := iList K (tCall spGaps [] E0 (tCons (tVar 2) tNil))) (H := H4) (Q := fun x H1 => gName 3 x _ H1 (t_second K { nx := fun _ H' => Q .non H', rt := Q })) (σ := [some (.ref a), some (.ref r), some (.str (S c)), none, none, none, none, none, none, none, none, none, none, none, none, none, none, none, none]) 3 (fun H5 p5 => Same H4 H5 ∧ H4 p5 = none ∧ H5 p5 = some (.lst (zv (gaps c)))) (by decide) (by decide) (fun _ => rfl) (fun _ => rfl)
    (fun R hR => ⟨_, rfl, c, rfl, by omega, hCt.low, hrc, fun H5 p5 sm5 hp5 hg5 => ⟨p5, rfl, ⟨_, .inl (.inl hg5)⟩, hR H5 p5 ⟨sm5, hp5, hg5⟩⟩⟩) (by rw [zv_len, hgl]; omega)
    (fun H5 p5 hP => ⟨rowOk_same hR4 hP.1, seq_but hS1 hrow1 (hb4.trans (But.of hP.1)), hP.2.2, fun z => ?_⟩) (fun H5 p5 hP H6 pf f hb6 hR6 hpf hf6 hfl hfx => ?_)
  · obtain ⟨_, _, _, h1, _⟩ := hR4
    have h2 := hP.2.1
    rw [z, h1] at h2
    cases h2
  obtain ⟨sm5, hp5, hg5⟩ := hP
  have hR5 := rowOk_same hR4 sm5
  have hb5 : But r H1 H5 := hb4.trans (But.of sm5)
  rw [zv_len, hgl] at hfl
  have hb6' : But r H1 H6 := hb5.trans hb6
  have hS6 := seq_but hS1 hrow1 hb6'
  have hpfr : pf ≠ r := fun z => by
    obtain ⟨_, _, _, h1, _⟩ := hR5
    rw [z, h1] at hpf
    cases hpf
  -- _law_second
  show t_second K _ [some (.ref a), some (.ref r), some (.str (S c)), some (.ref pf), none, none, none, none, none, none, none, none, none, none, none, none, none, none, none] H6
  refine draw_lc (K := K) (r := r) (a := a) (ns := ns) (xs := zv f) (wi := iList K (tVar 3)) (H := H6) (Q := fun x H1 => gName 4 x _ H1 (t_three K { nx := fun _ H' => Q .non H', rt := Q })) (σ := [some (.ref a), some (.ref r), some (.str (S c)), some (.ref pf), none, none, none, none, none, none, none, none, none, none, none, none, none, none, none]) 30 (fun H7 p7 => H6 = H7 ∧ pf = p7) (by decide) (by decide) (fun _ => rfl) (fun _ => rfl)
    (fun R hR => ⟨_, rfl, pf, rfl, ⟨_, .inl (.inl hf6)⟩, hR H6 pf ⟨rfl, rfl⟩⟩) (by rw [zv_len, hfl]; omega)
    (fun H7 p7 hP => ⟨by rw [← hP.1]; exact hR6, by rw [← hP.1]; exact hS6, by rw [← hP.1, ← hP.2]; exact hf6, by rw [← hP.2]; exact hpfr⟩) (fun H7' p7 hP H7 ps s hb7 hR7 hps hs7 hsl hsx => ?_)
  obtain ⟨rfl, rfl⟩ := hP
  rw [zv_len, hfl] at hsl
  have hf7 := hb7 _ _ hpfr hf6
  have hb7' : But r H1 H7 := hb6'.trans hb7
  have W1 : Wd c f m := ⟨hC, hfl, fun x hx => (hfx x hx).1, fun x hx => by have := (hfx x hx).2; omega, hCl, hCt⟩
  have W2 : Wd c s m := ⟨hC, hsl, fun x hx => (hsx x hx).1, fun x hx => (hsx x hx).2, hCl, hCt⟩
  -- _law_one, _law_other, _law_bound
  refine ⟨_, rfl, _, rfl, c, pf, f, m, rfl, .inl (.inl hf7), hC, hfl, W1.g1, by omega, hCt.low, W1.len, fun H8 sm8 => ?_⟩
  refine ⟨_, rfl, _, rfl, c, ps, s, m, rfl, .inl (.inl (sm8 _ _ hs7)), hC, hsl, W2.g1, by omega, hCt.low, W2.len, fun H9 sm9 => ?_⟩
  have hb9 : But r H1 H9 := (hb7'.trans (But.of sm8)).trans (But.of sm9)
  refine ⟨_, rfl, r, a, ns, 3, rfl, rowOk_same (rowOk_same hR7 sm8) sm9, seq_but hS1 hrow1 hb9, by decide, by decide, fun n2 H10 hn2 hb10 hR10 => ?_⟩
  refine ⟨2, ((n2 : Nat) : Int), rfl, rfl, by show 3 ≤ sizeLine; decide, fun t11 ht11 => ?_⟩
  have hpsr : ps ≠ r := fun z => by
    obtain ⟨_, _, _, h1, _⟩ := hR6
    rw [z, h1] at hps
    cases hps
  have hf11 : upd H10 t11 (.tup [.str (S (grown c f)), .str (S (grown c s)), .int (2 + ((n2 : Nat) : Int))]) pf = some (.lst (zv f)) := same_upd ht11 _ _ (hb10 _ _ hpfr (sm9 _ _ (sm8 _ _ hf7)))
  have hs11 : upd H10 t11 (.tup [.str (S (grown c f)), .str (S (grown c s)), .int (2 + ((n2 : Nat) : Int))]) ps = some (.lst (zv s)) := same_upd ht11 _ _ (hb10 _ _ hpsr (sm9 _ _ (sm8 _ _ hs7)))
  refine ⟨t11, _, rfl, .inl (.inl upd_same), rfl, _, _, rfl, _, _, rfl, _, _, rfl, rfl, ?_⟩
  generalize upd H10 t11 (.tup [.str (S (grown c f)), .str (S (grown c s)), .int (2 + ((n2 : Nat) : Int))]) = H11 at hf11 hs11
  have eb : V.int (2 + ((n2 : Nat) : Int)) = V.int ((2 + n2 : Nat) : Int) := by congr 1
  show t_mid K _ [some (V.ref a), some (V.ref r), some (V.str (S c)), some (V.ref pf), some (V.ref ps), some (V.str (S (grown c f))), some (V.str (S (grown c s))), some (V.int (2 + ((n2 : Nat) : Int))), none, none, none, none, none, none, none, none, none, none, none] H11
  rw [eb]
  exact mid a r pf ps c f s m (2 + n2) H11 Q W1 W2 hf11 hs11 (by omega) (by omega) q

end
end Sc
namespace Sc
open PySem PySem.Spec PyProof.Rows L2
theorem seq_go {t u : TS} {D : Ends} {σ : L2.St} {H : Hp} (h : t { D with nx := u D } σ H) : tSeq t u D σ H := h
theorem if_lcLen {LC : TE} {rL : List V → Hp → VK → Prop} {r : R2} {v : V} {A B : TS} {D : Ends} {σ : L2.St} {H : Hp} (h : LC σ H fun x H1 => rL [x] H1 fun y H2 => r y v H2 fun z H3 => ∃ k, z = .bl k ∧ (if k = true then A D σ H3 else B D σ H3)) :
    tIfS (tTest (tOp r (tCB rL (tCons LC tNil)) (tC v))) A B D σ H := h
theorem test_lc {LC tb : TE} {r : R2} {σ : L2.St} {H : Hp} {Q : Bool → Hp → Prop} (h : LC σ H fun x H1 => tb σ H1 fun y H2 => r x y H2 fun z H3 => ∃ k, z = .bl k ∧ Q k H3) : tTest (tOp r LC tb) σ H Q := h
/-- «[number for number in p if ..]» of a tuple of numbers -/
theorem flt_tup {K : PySem.W.Frag} {p : Addr} {l : List Nat} {f : Nat → Bool} {H : Hp} {σ : L2.St} {Q : VK} {wi : TI} {tt : TT}
    (hv : ∀ x, ((wipe σ [18]).set 18 (some x))[18]? = some (some x)) (hw : ∀ x, wipe ((wipe σ [18]).set 18 (some x)) [18] = wipe σ [18])
    (hwi : ∀ R : It → Hp → Prop, R (Itt K p) H → wi σ H R) (hp : H p = some (.tup (zv l))) (hl : l.length ≤ 10000)
    (ht : ∀ n H' R, n ∈ l → R (f n) H' → tt ((wipe σ [18]).set 18 (some (.int ((n : Nat) : Int)))) H' R)
    (hd : ∀ D H', Same H H' → H D = none → H' D = some (.lst (zv (l.filter f))) → Q (.ref D) H') : tLc wi (gName 18) tt (tVar 18) [18] σ H Q := by
  refine hwi _ fun D hD => ?_
  have hpD : p ≠ D := fun z => by rw [z, hD] at hp; cases hp
  refine lc_tup (K := K) (a := p) (xs := zv l) (fun i H' => Same H H' ∧ H' D = some (.lst (zv ((l.take i).filter f)))) ⟨same_upd hD, upd_same⟩ (fun i H' _ hP => .inl (.inl (hP.1 _ _ hp))) (fun i x H' hi hP => ?_) (fun H' hP => ?_)
  · obtain ⟨n, hn, rfl⟩ := zv_at hi
    obtain ⟨sm, hq⟩ := hP
    have hil : i < l.length := (List.getElem?_eq_some_iff.mp hn).1
    have et : l.take (i + 1) = l.take i ++ [n] := by
      rw [List.take_succ, hn]
      rfl
    refine ⟨hw _, ht n H' _ (List.mem_of_getElem? hn) ?_⟩
    cases hf : f n with
    | true =>
      refine iteT ⟨_, hv _, _, hq, ?_, same_put sm hD _, ?_⟩
      · rw [zv_len]
        have := List.length_filter_le f (l.take i)
        rw [List.length_take] at this
        rw [sizeLine_eq]
        omega
      · rw [upd_same, zv_snoc, et, List.filter_append]
        simp [hf]
    | false =>
      refine iteF ⟨sm, ?_⟩
      rw [hq, et, List.filter_append]
      simp [hf]
  · obtain ⟨sm, hq⟩ := hP
    rw [zv_len, List.take_length] at hq
    exact hd D H' sm hD hq
/-- «[at for at in range(n) if ..]» -/
theorem flt_rng {n : Nat} {f : Nat → Bool} {H : Hp} {σ : L2.St} {Q : VK} {wi : TI} {tt : TT}
    (hv : ∀ x, ((wipe σ [12]).set 12 (some x))[12]? = some (some x)) (hw : ∀ x, wipe ((wipe σ [12]).set 12 (some x)) [12] = wipe σ [12])
    (hwi : ∀ R : It → Hp → Prop, R (Itr 0 n) H → wi σ H R) (hl : n ≤ 10000)
    (ht : ∀ i H' R, i < n → Same H H' → R (f i) H' → tt ((wipe σ [12]).set 12 (some (.int ((i : Nat) : Int)))) H' R)
    (hd : ∀ D H', Same H H' → H D = none → H' D = some (.lst (zv ((List.range n).filter f))) → Q (.ref D) H') : tLc wi (gName 12) tt (tVar 12) [12] σ H Q := by
  refine hwi _ fun D hD => ?_
  refine lc_range (lo := 0) (n := n) (fun i H' => Same H H' ∧ H' D = some (.lst (zv ((List.range i).filter f)))) ⟨same_upd hD, upd_same⟩ (fun i H' hi hP => ?_) (fun H' hP => hd D H' hP.1 hD hP.2)
  obtain ⟨sm, hq⟩ := hP
  have e0 : V.int (0 + ((i : Nat) : Int)) = V.int ((i : Nat) : Int) := by rw [Int.zero_add]
  rw [e0]
  refine ⟨hw _, ht i H' _ hi sm ?_⟩
  cases hf : f i with
  | true =>
    refine iteT ⟨_, hv _, _, hq, ?_, same_put sm hD _, ?_⟩
    · rw [zv_len]
      have := List.length_filter_le f (List.range i)
      rw [List.length_range] at this
      rw [sizeLine_eq]
      omega
    · rw [upd_same, zv_snoc, List.range_succ, List.filter_append]
      simp [hf]
  | false =>
    refine iteF ⟨sm, ?_⟩
    rw [hq, List.range_succ, List.filter_append]
    simp [hf]
theorem sum_zs (l : List Nat) : (zs l).sum = ((l.sum : Nat) : Int) := by
  induction l with
  | nil => rfl
  | cons x l ih =>
    show ((x : Nat) : Int) + (zs l).sum = _
    rw [ih, List.sum_cons]
    omega
theorem desc_zs {l : List Nat} (h : l.Pairwise (fun x y => y ≤ x)) : (zs l).reverse.Pairwise (· ≤ ·) := by
  rw [List.pairwise_reverse]
  unfold zs
  rw [List.pairwise_map]
  exact h.imp fun h => by omega
theorem sort_back {l : List Nat} {ms : List Int} (h : l.Pairwise (fun x y => y ≤ x)) (hp : ms.Perm (zs l)) (hs : ms.Pairwise (· ≤ ·)) : ms.reverse = zs l := by
  have h1 : ms = (zs l).reverse := List.Perm.eq_of_pairwise (fun a b _ _ => Int.le_antisymm) hs (desc_zs h) (hp.trans (List.reverse_perm _).symm)
  rw [h1, List.reverse_reverse]
theorem zv_cut (l : List Nat) (lo x : Nat) (h : lo + x ≤ l.length) : cutV (zv l) (some ((lo : Nat) : Int)) (some (((lo + x : Nat)) : Int)) = zv ((l.drop lo).take x) := by
  unfold cutV
  rw [HT.sIx_nat, HT.sIx_nat, zv_len, Nat.min_eq_left h, Nat.min_eq_left (by omega : lo ≤ l.length), Nat.add_sub_cancel_left]
  unfold zv zs
  rw [List.map_take, List.map_drop, List.map_take, List.map_drop]
section
variable {K : PySem.W.Frag}
theorem in_turn {D : Ends} {H : Hp} {a r pf ps q9 q10 q13 rr : Addr} {c f s : List Nat} {ts : List V} {b t i x y : Nat} {g : List Nat} {y8 y11 y16 : Option V} (hb : 2 ≤ b) (hb2 : b ≤ 4) (hgs : g.length = s.length)
    (hps : H ps = some (.lst (zv s))) (h9 : H q9 = some (.tup ts)) (ht : ts[t]? = some (.ref rr)) (hrr : H rr = some (.tup (zv (rowOf b (g.zip s))))) (h13 : H q13 = some (.lst (zv g)))
    (hx : g[i]? = some x) (hy : s[i]? = some y) (hx30 : x ≤ 30) (hxy : x ≤ y) (hrl : (rowOf b (g.zip s)).length ≤ 2000)
    (hd : ∀ y16 H', Same H H' → D.nx (st a r pf ps c f s b y8 (some (.ref q9)) (some (.ref q10)) y11 (some (.int ((t : Nat) : Int))) (some (.ref q13)) (some (.int ((sm g (i + 1) : Nat) : Int))) (some (.int ((i : Nat) : Int))) y16 none none) H') :
    t_in K D (st a r pf ps c f s b y8 (some (.ref q9)) (some (.ref q10)) y11 (some (.int ((t : Nat) : Int))) (some (.ref q13)) (some (.int ((sm g i : Nat) : Int))) (some (.int ((i : Nat) : Int))) y16 none none) H := by
  have hgi : g.getD i 0 = x := by rw [List.getD_eq_getElem?_getD, hx]; rfl
  have hs1 : sm g (i + 1) = sm g i + x := by rw [sm_succ, hgi]
  have hil : i < g.length := (List.getElem?_eq_some_iff.mp hx).1
  have hz : (g.zip s).map (·.1) = g := zip_fst hgs
  have hrow : (rowOf b (g.zip s)).length = g.sum := by rw [row_len, hz]
  have hle : sm g i + x ≤ (rowOf b (g.zip s)).length := by
    rw [← hs1, hrow, ← sm_all g]
    exact sm_mono _ _ _ hil
  have hpart := row_part b (g.zip s) i (x, y) (zip_get hx hy)
  rw [hz] at hpart
  have hsum : (blk (b - 1) x (min y (x * b) - x)).sum = min y (x * b) := piece_sum (by omega) hxy
  have hdesc := blk_desc (b - 1) x (min y (x * b) - x)
  have hmid := blk_mid (b - 1) x (min y (x * b) - x)
  have hpl := blk_len (b - 1) x (min y (x * b) - x)
  have hpart : ((rowOf b (g.zip s)).drop (sm g i)).take x = blk (b - 1) x (min y (x * b) - x) := hpart
  generalize blk (b - 1) x (min y (x * b) - x) = part at hpart hsum hdesc hmid hpl
  -- behind the slice
  have main : ∀ P H1, Same H H1 → H1 P = some (.tup (zv part)) → t_in2 K D (st a r pf ps c f s b y8 (some (.ref q9)) (some (.ref q10)) y11 (some (.int ((t : Nat) : Int))) (some (.ref q13)) (some (.int ((sm g i : Nat) : Int))) (some (.int ((i : Nat) : Int))) (some (.ref P)) none none) H1 := by
    intro P H1 s1 hP
    have hTP : SqT K H1 P ((zs part).map V.int) := .inl (.inl hP)
    unfold t_in2
    refine seq_go ?_
    refine ⟨_, rfl, P, zs part, rfl, hTP, ?_⟩
    refine ⟨_, rfl, _, rfl, ps, _, _, _, rfl, rfl, .inl (.inl (s1 _ _ hps)), atI_nat (zv_get hy), ?_⟩
    refine ⟨_, rfl, _, rfl, _, rfl, q13, _, _, _, rfl, rfl, .inl (.inl (s1 _ _ h13)), atI_nat (zv_get hx), ?_⟩
    refine ⟨_, _, rfl, rfl, .inl ⟨by omega, by omega⟩, _, _, rfl, rfl, false, ?_, iteF ?_⟩
    · have e1 : V.int (zs part).sum = V.int (if ((b : Nat) : Int) * ((x : Nat) : Int) < ((y : Nat) : Int) then ((b : Nat) : Int) * ((x : Nat) : Int) else ((y : Nat) : Int)) := by
        rw [sum_zs, hsum, vmul, vmin, Nat.mul_comm]
      rw [decide_eq_true e1]
      rfl
    refine ⟨_, rfl, P, zv part, rfl, .inr hTP, fun l hl => ?_⟩
    have hlP : P ≠ l := fun z => by rw [z, hl] at hP; cases hP
    refine ⟨_, rfl, P, zs part, rfl, .inl (.inl ((same_upd hl) _ _ hP)), by rw [zs_len, hpl]; omega, fun ms p hpm hpw hp => ?_⟩
    refine ⟨p, ms.map V.int, rfl, .inl (.inl upd_same), fun p2 hp2 => ?_⟩
    have hlp : l ≠ p := fun z => by rw [← z, upd_same] at hp; cases hp
    have s2 : Same H1 (upd (upd (upd H1 l (.lst (zv part))) p (.lst (ms.map V.int))) p2 (.lst (ms.map V.int).reverse)) := ((same_upd hl).trans (same_upd hp)).trans (same_upd hp2)
    have hl2 : l ≠ p2 := fun z => by rw [← z, upd_ne hlp, upd_same] at hp2; cases hp2
    refine ⟨dI (zs part), dI (zs part), dI_dp (.inl (.inl ?_)), dI_dp (.inl (.inl ?_)), dI_ok _, dI_ok _, false, ?_, iteF ?_⟩
    · rw [upd_ne hl2, upd_ne hlp, upd_same]
      rfl
    · rw [upd_same, ← List.map_reverse, sort_back hdesc hpm hpw]
    · rw [dI_eq]
      simp
    generalize upd (upd (upd H1 l (.lst (zv part))) p (.lst (ms.map V.int))) p2 (.lst (ms.map V.int).reverse) = H2 at s2
    show t_in3 K D _ _
    unfold t_in3
    refine seq_go (if_lcLen (flt_tup (K := K) (p := P) (l := part) (f := mid (b - 1)) (fun _ => rfl) (fun _ => rfl) (fun R hR => ⟨_, rfl, P, rfl, ⟨_, .inl (.inl (s2 _ _ hP))⟩, hR⟩) (s2 _ _ hP) (by omega) (fun n H' R hn hR => ?_) (fun Dd H3 s3 _ h3 => ?_)))
    · refine ⟨_, rfl, _, _, rfl, rfl, _, rfl, ?_⟩
      have e1 : mid (b - 1) n = (decide ((1 : Int) < ((n : Nat) : Int)) && decide (((n : Nat) : Int) < ((b : Nat) : Int))) := by
        unfold mid
        congr 1
        · exact decide_eq_decide.mpr (by omega)
        · exact decide_eq_decide.mpr (by omega)
      rw [e1] at hR
      by_cases z : (1 : Int) < ((n : Nat) : Int)
      · rw [decide_eq_true z] at hR ⊢
        exact iteT ⟨_, rfl, _, _, rfl, rfl, _, rfl, hR⟩
      · rw [decide_eq_false z] at hR ⊢
        exact iteF ⟨_, rfl, hR⟩
    · refine ⟨Dd, _, rfl, .inl (.inl (.inl h3)), _, _, rfl, rfl, false, ?_, iteF ?_⟩
      · refine bF ?_
        rw [zv_len]
        omega
      · refine ⟨_, rfl, _, rfl, _, rfl, q13, _, _, _, rfl, rfl, .inl (.inl (s3 _ _ (s2 _ _ (s1 _ _ h13)))), atI_nat (zv_get hx), _, _, rfl, rfl, ?_⟩
        have := hd (some (.ref P)) H3 ((s1.trans s2).trans s3)
        rw [hs1] at this
        exact this
  -- the slice
  unfold t_in
  refine ⟨_, rfl, _, rfl, q9, ts, _, _, rfl, rfl, .inl (.inl h9), atI_nat ht, _, rfl, _, rfl, ?_⟩
  refine ⟨_, rfl, _, rfl, _, rfl, q13, _, _, _, rfl, rfl, .inl (.inl h13), atI_nat (zv_get hx), _, _, rfl, rfl, _, rfl, ?_⟩
  have ec := zv_cut (rowOf b (g.zip s)) (sm g i) x hle
  have ei : ((sm g i : Nat) : Int) + ((x : Nat) : Int) = ((sm g i + x : Nat) : Int) := by omega
  refine ⟨rr, _, rfl, .inl (.inl hrr), fun hw => ?_, fun hw p hp => ?_⟩
  · refine main rr H (fun _ _ h => h) ?_
    rw [hrr, ← hpart]
    rw [ei, HT.sIx_nat, HT.sIx_nat, zv_len] at hw
    have h1 : sm g i = 0 := by omega
    have h2 : x = (rowOf b (g.zip s)).length := by omega
    rw [h1, h2, List.drop_zero, List.take_length]
  · rw [ei, ec, hpart]
    exact main p _ (same_upd hp) upd_same
end
end Sc
namespace Sc
open PySem PySem.Spec PyProof.Rows L2
theorem mk_few (B x : Nat) : ∀ (R : List (Nat × Nat)) (k : Kn), Pr k R → (∀ p ∈ R, p.2 ≤ B) → (mk k R).count x ≤ B - k x
  | [], k, _, _ => by simp [mk]
  | (c, n) :: R, k, hp, hB => by
    have h1 : k c < n := hp.1
    have h2 : Pr (put k c n) R := hp.2.2
    have h3 := mk_few B x R (put k c n) h2 fun p h => hB p (List.mem_cons_of_mem _ h)
    have h4 : n ≤ B := hB (c, n) (List.mem_cons_self ..)
    rw [mk_cons, List.count_append, List.count_replicate]
    by_cases z : x = c
    · subst z
      rw [put_same] at h3
      rw [if_pos (by simp)]
      omega
    · rw [put_ne k n z] at h3
      rw [if_neg (by simpa using fun q => z q.symm)]
      omega
theorem grown_few {c g : List Nat} {m : Nat} (W : Wd c g m) (x : Nat) : (grown c g).count x ≤ g.sum := by
  refine Nat.le_trans (mk_few g.sum x _ k0 (grown_pr W.C W.gl W.g1) fun p hp => ?_) (Nat.sub_le ..)
  obtain ⟨p', hp', e⟩ := List.mem_map.mp hp
  rw [← e]
  show sm g p'.2 ≤ g.sum
  rw [← sm_all g]
  refine sm_mono _ _ _ ?_
  rw [W.gl]
  exact core_le W.C _ hp'
section
variable {K : PySem.W.Frag}
theorem out_turn {D : Ends} {H : Hp} {a r pf ps q9 q10 rr : Addr} {c f s : List Nat} {ts xs : List V} {b t m : Nat} {g gn : List Nat} {y8 y13 y14 y15 y16 : Option V} (hb : 2 ≤ b) (hb2 : b ≤ 4) (Wg : Wd c g m) (Wn : Wd c gn m) (Ws : Wd c s m)
    (hle : ∀ p ∈ g.zip s, p.1 ≤ p.2) (hgn : nx b (g.zip s) = gn)
    (hps : H ps = some (.lst (zv s))) (h9 : H q9 = some (.tup ts)) (ht : ts[t]? = some (.ref rr)) (hrr : H rr = some (.tup (zv (rowOf b (g.zip s))))) (h10 : H q10 = some (.lst xs)) (hx10 : xs[t + 1]? = some (.str (S (grown c gn))))
    (hd : ∀ y13 y14 y15 y16 H', Same H H' → D.nx (st a r pf ps c f s b y8 (some (.ref q9)) (some (.ref q10)) (some (.str (S (grown c gn)))) (some (.int ((t : Nat) : Int))) y13 y14 y15 y16 none none) H') :
    t_out K D (st a r pf ps c f s b y8 (some (.ref q9)) (some (.ref q10)) (some (.str (S (grown c g)))) (some (.int ((t : Nat) : Int))) y13 y14 y15 y16 none none) H := by
  have hgs : g.length = s.length := by rw [Wg.gl, Ws.gl]
  have hz : (g.zip s).map (·.1) = g := zip_fst hgs
  have hrow : (rowOf b (g.zip s)).length = g.sum := by rw [row_len, hz]
  have hsum : g.sum ≤ 30 * g.length := sum_le Wg.gB
  have hgl := Wg.gl
  have hm9 := Wg.m9
  have hrl : (rowOf b (g.zip s)).length ≤ 2000 := by omega
  unfold t_out
  refine ⟨_, rfl, _, rfl, Wg.len, Wg.lts.low, Wg.few, fun H1 q13 s1 hq13 h13 => ?_⟩
  rw [Wg.gaps] at h13
  show t_out2 K D (st a r pf ps c f s b y8 (some (.ref q9)) (some (.ref q10)) (some (.str (S (grown c g)))) (some (.int ((t : Nat) : Int))) (some (.ref q13)) y14 y15 y16 none none) H1
  unfold t_out2
  refine seq_go ?_
  refine ⟨_, rfl, _, rfl, q9, ts, _, _, rfl, rfl, .inl (.inl (s1 _ _ h9)), atI_nat ht, rr, _, rfl, .inr (.inl (.inl (s1 _ _ hrr))), ?_⟩
  refine ⟨_, rfl, q13, zs g, rfl, .inl (.inl h13), rfl, false, ?_, iteF ?_⟩
  · have e1 : V.int (((zv (rowOf b (g.zip s))).length : Nat) : Int) = V.int (zs g).sum := by rw [sum_zs, zv_len, hrow]
    rw [decide_eq_true e1]
    rfl
  refine test_lc (flt_tup (K := K) (p := rr) (l := rowOf b (g.zip s)) (f := fun n => !(decide (1 ≤ n) && decide (n ≤ b))) (fun _ => rfl) (fun _ => rfl)
    (fun R hR => ⟨_, rfl, _, rfl, q9, ts, _, _, rfl, rfl, .inl (.inl (s1 _ _ h9)), atI_nat ht, rr, rfl, ⟨_, .inl (.inl (s1 _ _ hrr))⟩, hR⟩) (s1 _ _ hrr) (by omega) (fun n H' R hn hR => ?_) (fun Dd H2 s2 hDd h2 => ?_))
  · refine ⟨_, rfl, _, _, rfl, rfl, _, rfl, ?_⟩
    by_cases z : (1 : Int) ≤ ((n : Nat) : Int)
    · rw [decide_eq_true z]
      refine iteT ⟨_, rfl, _, _, rfl, rfl, _, rfl, ?_⟩
      have e1 : (!(decide (1 ≤ n) && decide (n ≤ b))) = !(decide (((n : Nat) : Int) ≤ ((b : Nat) : Int))) := by
        rw [decide_eq_true (by omega : 1 ≤ n), Bool.true_and]
        congr 1
        exact decide_eq_decide.mpr (by omega)
      show R (!(decide (((n : Nat) : Int) ≤ ((b : Nat) : Int)))) H'
      rw [← e1]
      exact hR
    · rw [decide_eq_false z]
      refine iteF ⟨_, rfl, ?_⟩
      have e1 : (!(decide (1 ≤ n) && decide (n ≤ b))) = !false := by
        rw [decide_eq_false (by omega : ¬ 1 ≤ n), Bool.false_and]
      show R (!false) H'
      rw [← e1]
      exact hR
  · have e0 : (rowOf b (g.zip s)).filter (fun n => !(decide (1 ≤ n) && decide (n ≤ b))) = [] := by
      refine List.filter_eq_nil_iff.mpr fun n hn => ?_
      have := row_mem (by omega : 1 ≤ b) (g.zip s) n hn
      rw [decide_eq_true this.1, decide_eq_true this.2]
      decide
    rw [e0] at h2
    refine ⟨Nat.zero_le _, fun z hz2 => ?_⟩
    refine ⟨dI [], dI [], dI_dp (.inl (.inl ((same_upd hz2) _ _ h2))), dI_dp (.inl (.inl upd_same)), dI_ok _, dI_ok _, false, ?_, iteF ?_⟩
    · rw [dI_eq]
      rfl
    have s3 : Same H1 (upd H2 z (.lst [])) := s2.trans (same_upd hz2)
    generalize upd H2 z (.lst []) = H3 at s3
    show t_out3 K D _ _
    unfold t_out3
    refine seq_go ?_
    show tSeq _ _ D (st a r pf ps c f s b y8 (some (.ref q9)) (some (.ref q10)) (some (.str (S (grown c g)))) (some (.int ((t : Nat) : Int))) (some (.ref q13)) (some (.int 0)) y15 y16 none none) H3
    refine seq_go ?_
    have s03 : Same H H3 := s1.trans s3
    refine ⟨_, rfl, q13, zv g, rfl, .inl (.inl (.inl (s3 _ _ h13))), _, rfl, by rw [zv_len]; omega, by rw [zv_len]; omega, ?_⟩
    rw [zv_len, Int.toNat_natCast]
    refine for_range (lo := 0) (n := g.length) (fun i σ H' => ∃ y15 y16, σ = st a r pf ps c f s b y8 (some (.ref q9)) (some (.ref q10)) (some (.str (S (grown c g)))) (some (.int ((t : Nat) : Int))) (some (.ref q13)) (some (.int ((sm g i : Nat) : Int))) y15 y16 none none ∧ Same H3 H') ⟨y15, y16, ?_, Same.refl H3⟩ (fun i σ H' hi hP => ?_) (fun σ H' hP => ?_)
    · rw [sm_zero]
      rfl
    · obtain ⟨y15, y16, rfl, s4⟩ := hP
      have s04 := s03.trans s4
      have hx : g[i]? = some g[i] := List.getElem?_eq_getElem hi
      have hi2 : i < s.length := by omega
      have hy : s[i]? = some s[i] := List.getElem?_eq_getElem hi2
      have e0 : V.int (0 + ((i : Nat) : Int)) = V.int ((i : Nat) : Int) := by rw [Int.zero_add]
      rw [e0]
      show t_in K _ (st a r pf ps c f s b y8 (some (.ref q9)) (some (.ref q10)) (some (.str (S (grown c g)))) (some (.int ((t : Nat) : Int))) (some (.ref q13)) (some (.int ((sm g i : Nat) : Int))) (some (.int ((i : Nat) : Int))) y16 none none) H'
      refine in_turn hb hb2 hgs (s04 _ _ hps) (s04 _ _ h9) ht (s04 _ _ hrr) (s4 _ _ (s3 _ _ h13)) hx hy (Wg.gB _ (List.mem_of_getElem? hx)) (hle _ (List.mem_of_getElem? (zip_get hx hy))) hrl fun y16 H5 s5 => ?_
      exact ⟨_, y16, rfl, s4.trans s5⟩
    · obtain ⟨y15, y16, rfl, s4⟩ := hP
      have s04 := s03.trans s4
      show t_out4 K D _ _
      unfold t_out4
      refine seq_go ?_
      have hsd : sd (rowOf b (g.zip s)) k0 (grown c g) = grown c gn := by
        refine grown_said Wg.C Wg.gl Wg.g1 fun i hi => ?_
        have h1 := row_sm (by omega : 1 ≤ b) (g.zip s) i hle (by rw [List.length_zip, Ws.gl, Wg.gl]; omega)
        rw [hz, hgn] at h1
        exact h1
      have hat : atI xs (((t : Nat) : Int) + 1) = some (.str (S (grown c gn))) := atI_nat (j := t + 1) hx10
      refine ⟨_, rfl, _, rfl, q9, ts, _, _, rfl, rfl, .inl (.inl (s04 _ _ h9)), atI_nat ht, _, rfl, rr, _, grown c g, rfl, .inl (.inl (s04 _ _ hrr)), fun x => by rw [hrow]; exact grown_few Wg x, fun x hx => ?_, Wg.len, by rw [hsd]; exact Wn.len, fun H5 s5 => ?_⟩
      · have := (row_mem (by omega : 1 ≤ b) (g.zip s) x hx).2
        omega
      · rw [hsd]
        refine ⟨_, rfl, _, rfl, _, rfl, _, _, rfl, rfl, q10, xs, _, _, rfl, rfl, .inl (.inl (s5 _ _ (s04 _ _ h10))), hat, rfl, false, ?_, iteF ?_⟩
        · rw [decide_eq_true rfl]
          rfl
        · exact hd _ _ _ _ H5 (s04.trans s5)
end
end Sc
namespace Sc
open PySem PySem.Spec PyProof.Rows L2
theorem Wd.att {c f s : List Nat} {m b : Nat} (W1 : Wd c f m) (W2 : Wd c s m) (hb : 1 ≤ b) (hle : le f s = true) (t : Nat) : Wd c (att b (f.zip s) t) m := by
  have h1 : f.length = s.length := by rw [W1.gl, W2.gl]
  refine ⟨W1.C, ?_, att_ge hb _ t fun p hp => ?_, att_le _ t fun p hp => ?_, W1.cl, W1.lt⟩
  · rw [att_len, List.length_zip, W1.gl, W2.gl]
    exact Nat.min_self m
  · obtain ⟨k, hk⟩ := List.getElem?_of_mem hp
    exact ⟨W1.g1 _ (List.mem_of_getElem? (zip_at hk).1), le_iff.mp hle p hp⟩
  · obtain ⟨k, hk⟩ := List.getElem?_of_mem hp
    exact W2.gB _ (List.mem_of_getElem? (zip_at hk).2)
theorem stp_get {c : List Nat} {b d t : Nat} {ps : List (Nat × Nat)} (h : t ≤ d) : (stp c b ps d)[t]? = some (.str (S (grown c (att b ps t)))) := by
  unfold stp
  rw [List.getElem?_map, List.getElem?_range (by omega)]
  rfl
theorem stp_len (c : List Nat) (b d : Nat) (ps : List (Nat × Nat)) : (stp c b ps d).length = d + 1 := by simp [stp]
theorem stp_last (c : List Nat) (b d : Nat) (ps : List (Nat × Nat)) : atI (stp c b ps d) (-1) = some (.str (S (grown c (att b ps d)))) := by
  unfold stp
  rw [range_take]
  exact atI_last _ _
section
variable {K : PySem.W.Frag}
theorem checks_read {D : Ends} {H : Hp} {a r pf ps q9 q10 : Addr} {c f s : List Nat} {ts : List V} {b d m : Nat} (hb : 2 ≤ b) (hb2 : b ≤ 4) (W1 : Wd c f m) (W2 : Wd c s m) (hle : le f s = true) (hdue : Due b (f.zip s) d) (hd31 : d ≤ 31)
    (hps : H ps = some (.lst (zv s))) (h9 : H q9 = some (.tup ts)) (RT : RowsT b (f.zip s) s H ts d) (h10 : H q10 = some (.lst (stp c b (f.zip s) d))) (hd : ∀ H', D.rt (.bl true) H') :
    t_checks K D (st a r pf ps c f s b (some (.int ((d : Nat) : Int))) (some (.ref q9)) (some (.ref q10)) (some (.str (S (grown c f)))) none none none none none none none) H := by
  have hfs : f.length = s.length := by rw [W1.gl, W2.gl]
  have hp : ∀ p ∈ f.zip s, p.1 ≤ p.2 := le_iff.mp hle
  have a0 : att b (f.zip s) 0 = f := by rw [att_zero b _ hp, zip_fst hfs]
  have ad : att b (f.zip s) d = s := by
    have := (att_end b (f.zip s) d).mpr hdue.1
    rw [zip_snd hfs] at this
    exact this
  have hL10 : SqL K H q10 (stp c b (f.zip s) d) := .inl (.inl h10)
  unfold t_checks
  refine seq_go ?_
  refine ⟨_, rfl, _, _, _, _, true, rfl, .ty _, .base (.tup h9), kit_ty (by decide +kernel), true, rfl, iteF ?_⟩
  refine ⟨_, rfl, q9, ts, rfl, .inr (.inl (.inl h9)), _, rfl, rfl, false, ?_, iteF ?_⟩
  · rw [RT.1, decide_eq_true rfl]
    rfl
  refine ⟨_, rfl, q10, _, rfl, .inl hL10, _, rfl, _, _, rfl, rfl, rfl, false, ?_, iteF ?_⟩
  · rw [stp_len, decide_eq_true (by rfl)]
    rfl
  refine ⟨_, rfl, q10, _, 0, _, rfl, rfl, hL10, atI_nat (j := 0) (stp_get (Nat.zero_le _)), _, rfl, rfl, false, ?_, iteF ?_⟩
  · rw [a0, decide_eq_true rfl]
    rfl
  show t_checks2 K D _ H
  unfold t_checks2
  refine seq_go ?_
  refine ⟨_, rfl, 1, rfl, q10, _, -1, _, rfl, rfl, hL10, stp_last _ _ _ _, _, rfl, rfl, false, ?_, iteF ?_⟩
  · rw [ad, decide_eq_true rfl]
    rfl
  show t_checks3 K D _ H
  unfold t_checks3
  refine seq_go ?_
  refine ⟨_, rfl, _, rfl, by omega, by omega, ?_⟩
  rw [Int.toNat_natCast]
  refine for_range (lo := 0) (n := d) (fun t σ H' => ∃ y12 y13 y14 y15 y16, σ = st a r pf ps c f s b (some (.int ((d : Nat) : Int))) (some (.ref q9)) (some (.ref q10)) (some (.str (S (grown c (att b (f.zip s) t))))) y12 y13 y14 y15 y16 none none ∧ Same H H') ⟨none, none, none, none, none, ?_, Same.refl H⟩ (fun t σ H' hi hP => ?_) (fun σ H' hP => ?_)
  · rw [a0]
  · obtain ⟨y12, y13, y14, y15, y16, rfl, s1⟩ := hP
    obtain ⟨rr, hts, hrr⟩ := RT.2 t hi
    have e0 : V.int (0 + ((t : Nat) : Int)) = V.int ((t : Nat) : Int) := by rw [Int.zero_add]
    rw [e0]
    show t_out K _ (st a r pf ps c f s b (some (.int ((d : Nat) : Int))) (some (.ref q9)) (some (.ref q10)) (some (.str (S (grown c (att b (f.zip s) t))))) (some (.int ((t : Nat) : Int))) y13 y14 y15 y16 none none) H'
    refine out_turn (m := m) (gn := att b (f.zip s) (t + 1)) hb hb2 (W1.att W2 (by omega) hle t) (W1.att W2 (by omega) hle (t + 1)) W2 (fun p hpz => ?_) (att_nx' (by omega) hfs) (s1 _ _ hps) (s1 _ _ h9) hts (s1 _ _ hrr) (s1 _ _ h10) (stp_get hi) fun y13 y14 y15 y16 H5 s5 => ⟨_, y13, y14, y15, y16, rfl, s1.trans s5⟩
    rw [att_zip' hfs] at hpz
    obtain ⟨p', hp', e⟩ := List.mem_map.mp hpz
    rw [← e]
    exact Nat.min_le_left _ _
  · obtain ⟨y12, y13, y14, y15, y16, rfl, s1⟩ := hP
    refine ⟨_, rfl, _, rfl, rfl, ?_⟩
    rw [ad, decide_eq_true rfl]
    exact hd H'
theorem tail_read {D : Ends} {H : Hp} {a r pf ps : Addr} {c f s : List Nat} {b m : Nat} (hb : 2 ≤ b) (hb2 : b ≤ 4) (W1 : Wd c f m) (W2 : Wd c s m) (hle : le f s = true)
    (hpf : H pf = some (.lst (zv f))) (hps : H ps = some (.lst (zv s))) (hd : ∀ H', D.rt (.bl true) H') :
    t_tail K D (st a r pf ps c f s b none none none none none none none none none none none) H := by
  have hfs : f.length = s.length := by rw [W1.gl, W2.gl]
  have hm9 := W1.m9
  have hfl := W1.gl
  have hnl : le f s = false → False := fun z => by rw [hle] at z; cases z
  unfold t_tail
  refine seq_go ?_
  show t_tail1 K D (st a r pf ps c f s b (some (.int 0)) none none none none none none none none none none) H
  unfold t_tail1
  refine seq_go ?_
  refine ⟨fun k σ H' => ∃ t : Nat, σ = st a r pf ps c f s b (some (.int ((t : Nat) : Int))) none none none none none none none none none none ∧ Same H H' ∧ k = 31 - t ∧ t ≤ 31 ∧ ∀ u, u < t → ∃ p ∈ f.zip s, p.1 * b ^ u < p.2, ⟨31, 0, rfl, Same.refl H, rfl, by omega, fun u hu => absurd hu (Nat.not_lt_zero _)⟩, fun k σ H' hW => ?_⟩
  obtain ⟨t, rfl, s1, rfl, ht, hu⟩ := hW
  have hpf1 := s1 _ _ hpf
  have hps1 := s1 _ _ hps
  refine test_lc (flt_rng (n := f.length) (f := fun i => decide (f.getD i 0 * b ^ t < s.getD i 0)) (fun _ => rfl) (fun _ => rfl)
    (fun R hR => ⟨_, rfl, pf, _, rfl, .inl (.inl (.inl hpf1)), _, rfl, by rw [zv_len]; omega, by rw [zv_len]; omega, by rw [zv_len, Int.toNat_natCast]; exact hR⟩) (by omega) (fun i H2 R hi s2 hR => ?_) (fun Dd H2 s2 hDd h2 => ?_))
  · have hx : f[i]? = some f[i] := List.getElem?_eq_getElem hi
    have hi2 : i < s.length := by omega
    have hy : s[i]? = some s[i] := List.getElem?_eq_getElem hi2
    have hx30 := W1.gB _ (List.mem_of_getElem? hx)
    refine ⟨_, rfl, _, rfl, pf, _, _, _, rfl, rfl, .inl (.inl (s2 _ _ hpf1)), atI_nat (zv_get hx), ?_⟩
    refine ⟨_, rfl, _, rfl, b, t, rfl, by omega, by omega, ?_⟩
    refine ⟨_, _, rfl, rfl, .inl ⟨by omega, by omega⟩, ?_⟩
    refine ⟨_, rfl, _, rfl, ps, _, _, _, rfl, rfl, .inl (.inl (s2 _ _ hps1)), atI_nat (zv_get hy), _, _, rfl, rfl, _, rfl, ?_⟩
    have e1 : decide (f.getD i 0 * b ^ t < s.getD i 0) = decide (((f[i] : Nat) : Int) * ((b ^ t : Nat) : Int) < ((s[i] : Nat) : Int)) := by
      rw [vmul, List.getD_eq_getElem?_getD, List.getD_eq_getElem?_getD, hx, hy]
      exact decide_eq_decide.mpr Int.ofNat_lt.symm
    rw [← e1]
    exact hR
  · have hmem : ∀ i, i ∈ (List.range f.length).filter (fun i => decide (f.getD i 0 * b ^ t < s.getD i 0)) ↔ i < f.length ∧ f.getD i 0 * b ^ t < s.getD i 0 := fun i => by
      rw [List.mem_filter, List.mem_range, decide_eq_true_iff]
    generalize (List.range f.length).filter (fun i => decide (f.getD i 0 * b ^ t < s.getD i 0)) = L at h2 hmem
    refine ⟨Nat.zero_le _, fun z hz => ?_⟩
    refine ⟨dI (zs L), dI [], dI_dp (.inl (.inl ((same_upd hz) _ _ h2))), dI_dp (.inl (.inl upd_same)), dI_ok _, dI_ok _, _, rfl, ?_⟩
    have s3 : Same H (upd H2 z (.lst [])) := (s1.trans s2).trans (same_upd hz)
    generalize upd H2 z (.lst []) = H3 at s3
    rw [dI_eq]
    cases L with
    | nil =>
      refine iteF ?_
      have hdue : Due b (f.zip s) t := by
        refine ⟨fun p hp => ?_, hu⟩
        obtain ⟨i, hi⟩ := List.getElem?_of_mem hp
        have h1 := zip_at hi
        have h3 := (List.getElem?_eq_some_iff.mp h1.1).1
        refine Nat.le_of_not_lt fun q => ?_
        have := (hmem i).mpr ⟨h3, by rw [List.getD_eq_getElem?_getD, List.getD_eq_getElem?_getD, h1.1, h1.2]; exact q⟩
        cases this
      show t_tail2 K D _ H3
      unfold t_tail2
      refine seq_go ?_
      refine ⟨_, rfl, _, rfl, _, rfl, c, f, s, m, b, rfl, W1, W2, hb, by omega, fun z => (hnl z).elim, fun _ H4 d s4 hd4 => ?_⟩
      have e4 := hd4.one hdue
      subst e4
      refine ⟨_, rfl, ((d : Nat) : Int), rfl, fun H5 s5 => ⟨true, rfl, iteF ?_⟩⟩
      show t_tail3 K D _ H5
      unfold t_tail3
      refine seq_go ?_
      refine ⟨_, rfl, _, rfl, _, rfl, c, f, s, m, b, rfl, W1, W2, hb, by omega, fun z => (hnl z).elim, fun _ H6 d6 q9 ts s6 hd6 hq9 h9 RT => ?_⟩
      have e6 := hd6.one hdue
      subst e6
      refine ⟨_, rfl, _, rfl, _, rfl, c, f, s, m, b, rfl, W1, W2, hb, by omega, fun z => (hnl z).elim, fun _ H7 d7 q10 s7 hd7 hq10 h10 => ?_⟩
      have e7 := hd7.one hdue
      subst e7
      refine ⟨_, rfl, _, _, _, rfl, ?_⟩
      show t_checks K D (st a r pf ps c f s b (some (.int ((d7 : Nat) : Int))) (some (.ref q9)) (some (.ref q10)) (some (.str (S (grown c f)))) none none none none none none none) H7
      exact checks_read hb hb2 W1 W2 hle hdue ht (s7 _ _ (s6 _ _ (s5 _ _ (s4 _ _ (s3 _ _ hps))))) (s7 _ _ h9) (RT.mono (same_tups s7)) h10 hd
    | cons j L =>
      have e0 : (!decide (zs (j :: L) = [])) = true := rfl
      have h3 := (hmem j).mp (List.mem_cons_self ..)
      have hx : f[j]? = some f[j] := List.getElem?_eq_getElem h3.1
      have hi2 : j < s.length := by omega
      have hy : s[j]? = some s[j] := List.getElem?_eq_getElem hi2
      have h4 : f[j] * b ^ t < s[j] := by
        have := h3.2
        rw [List.getD_eq_getElem?_getD, List.getD_eq_getElem?_getD, hx, hy] at this
        exact this
      have h5 := due_lt hb (W1.g1 _ (List.mem_of_getElem? hx)) h4
      have h6 := W2.gB _ (List.mem_of_getElem? hy)
      refine iteT ⟨fun σ' H2 => ∃ k', k' < 31 - t ∧ ∃ t : Nat, σ' = st a r pf ps c f s b (some (.int ((t : Nat) : Int))) none none none none none none none none none none ∧ Same H H2 ∧ k' = 31 - t ∧ t ≤ 31 ∧ ∀ u, u < t → ∃ p ∈ f.zip s, p.1 * b ^ u < p.2, fun σ' H2 h => h, ?_⟩
      refine ⟨_, rfl, _, _, rfl, rfl, 31 - (t + 1), by omega, t + 1, rfl, s3, rfl, by omega, fun u hu2 => ?_⟩
      by_cases z : u < t
      · exact hu u z
      · have : u = t := by omega
        subst this
        exact ⟨(f[j], s[j]), List.mem_of_getElem? (zip_get hx hy), h4⟩
theorem mid_read (a r pf ps : Addr) (c f s : List Nat) (m b : Nat) (H : Hp) (Q : VK) (W1 : Wd c f m) (W2 : Wd c s m) (hpf : H pf = some (.lst (zv f))) (hps : H ps = some (.lst (zv s))) (hb : 2 ≤ b) (hb2 : b ≤ 4) (q : ∀ H', Q (.bl true) H') :
    t_mid K { nx := fun _ H' => Q .non H', rt := Q } (st a r pf ps c f s b none none none none none none none none none none none) H := by
  unfold t_mid
  refine seq_go ?_
  refine ⟨_, rfl, _, rfl, c, f, s, m, rfl, W1, W2, fun H1 s1 => ⟨_, rfl, ?_⟩⟩
  cases hle : le f s with
  | false =>
    refine iteT ?_
    refine ⟨_, rfl, _, rfl, _, rfl, c, f, s, m, b, rfl, W1, W2, hb, by omega, fun _ H2 s2 => ⟨true, bT rfl, iteT ?_⟩, fun z => by rw [hle] at z; cases z⟩
    refine ⟨_, rfl, _, rfl, _, rfl, c, f, s, m, b, rfl, W1, W2, hb, by omega, fun _ H3 s3 => ?_, fun z => by rw [hle] at z; cases z⟩
    exact qT rfl (q H3)
  | true => exact iteF (tail_read (D := { nx := fun _ H' => Q .non H', rt := Q }) hb hb2 W1 W2 hle (s1 _ _ hpf) (s1 _ _ hps) q)
theorem law_reads (vs : List V) (H : Hp) (Q : VK) (E : XK) (h : spLaw K vs H Q E) : t_law K { nx := fun _ H' => Q .non H', rt := Q } (start ["_law_script", "_law_row", "_law_core_here", "_law_first", "_law_second", "_law_one", "_law_other", "_law_bound", "_law_due", "_law_rows", "_law_stops", "_law_now", "_law_at", "_law_gaps_here", "_law_start", "_law_spot", "_law_part", "_law_gap", "_law_number"] vs) H := read_law mid_read vs H Q E h
end
end Sc
namespace Sc
open PySem PySem.Spec PyProof.Rows L2
theorem txt_mk {K : PySem.W.Frag} {h : Heap} {mg : Str → Option Value} (X : K.In h) (G : h.Ns mainGlobals mg)
    {f0 : Addr} {od0 an0 : Option Addr} {sl0 : Array (Option Value)} {oc0 kV0 dc0 pm0 cd0 ct0 : Value}
    {f1 : Addr} {od1 an1 : Option Addr} {sl1 : Array (Option Value)} {oc1 kV1 dc1 pm1 cd1 ct1 : Value}
    {f2 : Addr} {od2 an2 : Option Addr} {sl2 : Array (Option Value)} {oc2 kV2 dc2 pm2 cd2 ct2 : Value}
    {f3 : Addr} {od3 an3 : Option Addr} {sl3 : Array (Option Value)} {oc3 kV3 dc3 pm3 cd3 ct3 : Value}
    {f4 : Addr} {od4 an4 : Option Addr} {sl4 : Array (Option Value)} {oc4 kV4 dc4 pm4 cd4 ct4 : Value}
    {f5 : Addr} {od5 an5 : Option Addr} {sl5 : Array (Option Value)} {oc5 kV5 dc5 pm5 cd5 ct5 : Value}
    {f6 : Addr} {od6 an6 : Option Addr} {sl6 : Array (Option Value)} {oc6 kV6 dc6 pm6 cd6 ct6 : Value}
    {f7 : Addr} {od7 an7 : Option Addr} {sl7 : Array (Option Value)} {oc7 kV7 dc7 pm7 cd7 ct7 : Value}
    {f8 : Addr} {od8 an8 : Option Addr} {sl8 : Array (Option Value)} {oc8 kV8 dc8 pm8 cd8 ct8 : Value}
    {f9 : Addr} {od9 an9 : Option Addr} {sl9 : Array (Option Value)} {oc9 kV9 dc9 pm9 cd9 ct9 : Value}
    {f10 : Addr} {od10 an10 : Option Addr} {sl10 : Array (Option Value)} {oc10 kV10 dc10 pm10 cd10 ct10 : Value}
    {f11 : Addr} {od11 an11 : Option Addr} {sl11 : Array (Option Value)} {oc11 kV11 dc11 pm11 cd11 ct11 : Value}
    {f12 : Addr} {od12 an12 : Option Addr} {sl12 : Array (Option Value)} {oc12 kV12 dc12 pm12 cd12 ct12 : Value}
    {f13 : Addr} {od13 an13 : Option Addr} {sl13 : Array (Option Value)} {oc13 kV13 dc13 pm13 cd13 ct13 : Value}
    {f14 : Addr} {od14 an14 : Option Addr} {sl14 : Array (Option Value)} {oc14 kV14 dc14 pm14 cd14 ct14 : Value}
    {f15 : Addr} {od15 an15 : Option Addr} {sl15 : Array (Option Value)} {oc15 kV15 dc15 pm15 cd15 ct15 : Value}
    {f16 : Addr} {od16 an16 : Option Addr} {sl16 : Array (Option Value)} {oc16 kV16 dc16 pm16 cd16 ct16 : Value}
    {f17 : Addr} {od17 an17 : Option Addr} {sl17 : Array (Option Value)} {oc17 kV17 dc17 pm17 cd17 ct17 : Value}
    {f18 : Addr} {od18 an18 : Option Addr} {sl18 : Array (Option Value)} {oc18 kV18 dc18 pm18 cd18 ct18 : Value}
    {f19 : Addr} {od19 an19 : Option Addr} {sl19 : Array (Option Value)} {oc19 kV19 dc19 pm19 cd19 ct19 : Value}
    {f20 : Addr} {od20 an20 : Option Addr} {sl20 : Array (Option Value)} {oc20 kV20 dc20 pm20 cd20 ct20 : Value}
    {f21 : Addr} {od21 an21 : Option Addr} {sl21 : Array (Option Value)} {oc21 kV21 dc21 pm21 cd21 ct21 : Value}
    {f22 : Addr} {od22 an22 : Option Addr} {sl22 : Array (Option Value)} {oc22 kV22 dc22 pm22 cd22 ct22 : Value}
    {f23 : Addr} {od23 an23 : Option Addr} {sl23 : Array (Option Value)} {oc23 kV23 dc23 pm23 cd23 ct23 : Value}
    {f24 : Addr} {od24 an24 : Option Addr} {sl24 : Array (Option Value)} {oc24 kV24 dc24 pm24 cd24 ct24 : Value}
    {f25 : Addr} {od25 an25 : Option Addr} {sl25 : Array (Option Value)} {oc25 kV25 dc25 pm25 cd25 ct25 : Value}
    {f26 : Addr} {od26 an26 : Option Addr} {sl26 : Array (Option Value)} {oc26 kV26 dc26 pm26 cd26 ct26 : Value}
    {f27 : Addr} {od27 an27 : Option Addr} {sl27 : Array (Option Value)} {oc27 kV27 dc27 pm27 cd27 ct27 : Value}
    {f28 : Addr} {od28 an28 : Option Addr} {sl28 : Array (Option Value)} {oc28 kV28 dc28 pm28 cd28 ct28 : Value}
    {f29 : Addr} {od29 an29 : Option Addr} {sl29 : Array (Option Value)} {oc29 kV29 dc29 pm29 cd29 ct29 : Value}
    {f30 : Addr} {od30 an30 : Option Addr} {sl30 : Array (Option Value)} {oc30 kV30 dc30 pm30 cd30 ct30 : Value}
    (a0 : PySem.W.nsIn K mainGlobals "is_int" = some (some (.ref f0))) (l0 : K.lookup f0 = some ⟨oc0, od0, .func (PySem.W.fnOf "is_int" "is_int" (defArgs s_is_int) (defBody s_is_int) (defScope s_is_int) .none kV0 dc0 pm0 an0 cd0 ct0), sl0⟩) (x0 : PySem.W.codeIn K cd0 "is_int" = true) (k0 : PySem.W.keepIn K (.ref f0) = true)
    (a1 : PySem.W.nsIn K mainGlobals "is_from" = some (some (.ref f1))) (l1 : K.lookup f1 = some ⟨oc1, od1, .func (PySem.W.fnOf "is_from" "is_from" (defArgs s_is_from) (defBody s_is_from) (defScope s_is_from) .none kV1 dc1 pm1 an1 cd1 ct1), sl1⟩) (x1 : PySem.W.codeIn K cd1 "is_from" = true) (k1 : PySem.W.keepIn K (.ref f1) = true)
    (a2 : PySem.W.nsIn K mainGlobals "need_word" = some (some (.ref f2))) (l2 : K.lookup f2 = some ⟨oc2, od2, .func (PySem.W.fnOf "need_word" "need_word" (defArgs s_need_word) (defBody s_need_word) (defScope s_need_word) .none kV2 dc2 pm2 an2 cd2 ct2), sl2⟩) (x2 : PySem.W.codeIn K cd2 "need_word" = true) (k2 : PySem.W.keepIn K (.ref f2) = true)
    (a3 : PySem.W.nsIn K mainGlobals "runs_of" = some (some (.ref f3))) (l3 : K.lookup f3 = some ⟨oc3, od3, .func (PySem.W.fnOf "runs_of" "runs_of" (defArgs s_runs_of) (defBody s_runs_of) (defScope s_runs_of) .none kV3 dc3 pm3 an3 cd3 ct3), sl3⟩) (x3 : PySem.W.codeIn K cd3 "runs_of" = true) (k3 : PySem.W.keepIn K (.ref f3) = true)
    (a4 : PySem.W.nsIn K mainGlobals "marks_of" = some (some (.ref f4))) (l4 : K.lookup f4 = some ⟨oc4, od4, .func (PySem.W.fnOf "marks_of" "marks_of" (defArgs s_marks_of) (defBody s_marks_of) (defScope s_marks_of) .none kV4 dc4 pm4 an4 cd4 ct4), sl4⟩) (x4 : PySem.W.codeIn K cd4 "marks_of" = true) (k4 : PySem.W.keepIn K (.ref f4) = true)
    (a5 : PySem.W.nsIn K mainGlobals "word_of" = some (some (.ref f5))) (l5 : K.lookup f5 = some ⟨oc5, od5, .func (PySem.W.fnOf "word_of" "word_of" (defArgs s_word_of) (defBody s_word_of) (defScope s_word_of) .none kV5 dc5 pm5 an5 cd5 ct5), sl5⟩) (x5 : PySem.W.codeIn K cd5 "word_of" = true) (k5 : PySem.W.keepIn K (.ref f5) = true)
    (a6 : PySem.W.nsIn K mainGlobals "core_of" = some (some (.ref f6))) (l6 : K.lookup f6 = some ⟨oc6, od6, .func (PySem.W.fnOf "core_of" "core_of" (defArgs s_core_of) (defBody s_core_of) (defScope s_core_of) .none kV6 dc6 pm6 an6 cd6 ct6), sl6⟩) (x6 : PySem.W.codeIn K cd6 "core_of" = true) (k6 : PySem.W.keepIn K (.ref f6) = true)
    (a7 : PySem.W.nsIn K mainGlobals "gaps_of" = some (some (.ref f7))) (l7 : K.lookup f7 = some ⟨oc7, od7, .func (PySem.W.fnOf "gaps_of" "gaps_of" (defArgs s_gaps_of) (defBody s_gaps_of) (defScope s_gaps_of) .none kV7 dc7 pm7 an7 cd7 ct7), sl7⟩) (x7 : PySem.W.codeIn K cd7 "gaps_of" = true) (k7 : PySem.W.keepIn K (.ref f7) = true)
    (a8 : PySem.W.nsIn K mainGlobals "sums_of" = some (some (.ref f8))) (l8 : K.lookup f8 = some ⟨oc8, od8, .func (PySem.W.fnOf "sums_of" "sums_of" (defArgs s_sums_of) (defBody s_sums_of) (defScope s_sums_of) .none kV8 dc8 pm8 an8 cd8 ct8), sl8⟩) (x8 : PySem.W.codeIn K cd8 "sums_of" = true) (k8 : PySem.W.keepIn K (.ref f8) = true)
    (a9 : PySem.W.nsIn K mainGlobals "grown" = some (some (.ref f9))) (l9 : K.lookup f9 = some ⟨oc9, od9, .func (PySem.W.fnOf "grown" "grown" (defArgs s_grown) (defBody s_grown) (defScope s_grown) .none kV9 dc9 pm9 an9 cd9 ct9), sl9⟩) (x9 : PySem.W.codeIn K cd9 "grown" = true) (k9 : PySem.W.keepIn K (.ref f9) = true)
    (a10 : PySem.W.nsIn K mainGlobals "need_two" = some (some (.ref f10))) (l10 : K.lookup f10 = some ⟨oc10, od10, .func (PySem.W.fnOf "need_two" "need_two" (defArgs s_need_two) (defBody s_need_two) (defScope s_need_two) .none kV10 dc10 pm10 an10 cd10 ct10), sl10⟩) (x10 : PySem.W.codeIn K cd10 "need_two" = true) (k10 : PySem.W.keepIn K (.ref f10) = true)
    (a11 : PySem.W.nsIn K mainGlobals "grows_to" = some (some (.ref f11))) (l11 : K.lookup f11 = some ⟨oc11, od11, .func (PySem.W.fnOf "grows_to" "grows_to" (defArgs s_grows_to) (defBody s_grows_to) (defScope s_grows_to) .none kV11 dc11 pm11 an11 cd11 ct11), sl11⟩) (x11 : PySem.W.codeIn K cd11 "grows_to" = true) (k11 : PySem.W.keepIn K (.ref f11) = true)
    (a12 : PySem.W.nsIn K mainGlobals "is_saying" = some (some (.ref f12))) (l12 : K.lookup f12 = some ⟨oc12, od12, .func (PySem.W.fnOf "is_saying" "is_saying" (defArgs s_is_saying) (defBody s_is_saying) (defScope s_is_saying) .none kV12 dc12 pm12 an12 cd12 ct12), sl12⟩) (x12 : PySem.W.codeIn K cd12 "is_saying" = true) (k12 : PySem.W.keepIn K (.ref f12) = true)
    (a13 : PySem.W.nsIn K mainGlobals "need_bound" = some (some (.ref f13))) (l13 : K.lookup f13 = some ⟨oc13, od13, .func (PySem.W.fnOf "need_bound" "need_bound" (defArgs s_need_bound) (defBody s_need_bound) (defScope s_need_bound) .none kV13 dc13 pm13 an13 cd13 ct13), sl13⟩) (x13 : PySem.W.codeIn K cd13 "need_bound" = true) (k13 : PySem.W.keepIn K (.ref f13) = true)
    (a14 : PySem.W.nsIn K mainGlobals "turns_for" = some (some (.ref f14))) (l14 : K.lookup f14 = some ⟨oc14, od14, .func (PySem.W.fnOf "turns_for" "turns_for" (defArgs s_turns_for) (defBody s_turns_for) (defScope s_turns_for) .none kV14 dc14 pm14 an14 cd14 ct14), sl14⟩) (x14 : PySem.W.codeIn K cd14 "turns_for" = true) (k14 : PySem.W.keepIn K (.ref f14) = true)
    (a15 : PySem.W.nsIn K mainGlobals "fewest_sayings" = some (some (.ref f15))) (l15 : K.lookup f15 = some ⟨oc15, od15, .func (PySem.W.fnOf "fewest_sayings" "fewest_sayings" (defArgs s_fewest_sayings) (defBody s_fewest_sayings) (defScope s_fewest_sayings) .none kV15 dc15 pm15 an15 cd15 ct15), sl15⟩) (x15 : PySem.W.codeIn K cd15 "fewest_sayings" = true) (k15 : PySem.W.keepIn K (.ref f15) = true)
    (a16 : PySem.W.nsIn K mainGlobals "row_for" = some (some (.ref f16))) (l16 : K.lookup f16 = some ⟨oc16, od16, .func (PySem.W.fnOf "row_for" "row_for" (defArgs s_row_for) (defBody s_row_for) (defScope s_row_for) .none kV16 dc16 pm16 an16 cd16 ct16), sl16⟩) (x16 : PySem.W.codeIn K cd16 "row_for" = true) (k16 : PySem.W.keepIn K (.ref f16) = true)
    (a17 : PySem.W.nsIn K mainGlobals "sayings_to" = some (some (.ref f17))) (l17 : K.lookup f17 = some ⟨oc17, od17, .func (PySem.W.fnOf "sayings_to" "sayings_to" (defArgs s_sayings_to) (defBody s_sayings_to) (defScope s_sayings_to) .none kV17 dc17 pm17 an17 cd17 ct17), sl17⟩) (x17 : PySem.W.codeIn K cd17 "sayings_to" = true) (k17 : PySem.W.keepIn K (.ref f17) = true)
    (a18 : PySem.W.nsIn K mainGlobals "stops_on_the_way" = some (some (.ref f18))) (l18 : K.lookup f18 = some ⟨oc18, od18, .func (PySem.W.fnOf "stops_on_the_way" "stops_on_the_way" (defArgs s_stops_on_the_way) (defBody s_stops_on_the_way) (defScope s_stops_on_the_way) .none kV18 dc18 pm18 an18 cd18 ct18), sl18⟩) (x18 : PySem.W.codeIn K cd18 "stops_on_the_way" = true) (k18 : PySem.W.keepIn K (.ref f18) = true)
    (a19 : PySem.W.nsIn K mainGlobals "_law_taken" = some (some (.ref f19))) (l19 : K.lookup f19 = some ⟨oc19, od19, .func (PySem.W.fnOf "_law_taken" "_law_taken" (defArgs s__law_taken) (defBody s__law_taken) (defScope s__law_taken) .none kV19 dc19 pm19 an19 cd19 ct19), sl19⟩) (x19 : PySem.W.codeIn K cd19 "_law_taken" = true) (k19 : PySem.W.keepIn K (.ref f19) = true)
    (a20 : PySem.W.nsIn K mainGlobals "_law_alike" = some (some (.ref f20))) (l20 : K.lookup f20 = some ⟨oc20, od20, .func (PySem.W.fnOf "_law_alike" "_law_alike" (defArgs s__law_alike) (defBody s__law_alike) (defScope s__law_alike) .none kV20 dc20 pm20 an20 cd20 ct20), sl20⟩) (x20 : PySem.W.codeIn K cd20 "_law_alike" = true) (k20 : PySem.W.keepIn K (.ref f20) = true)
    (a21 : PySem.W.nsIn K mainGlobals "_law_word" = some (some (.ref f21))) (l21 : K.lookup f21 = some ⟨oc21, od21, .func (PySem.W.fnOf "_law_word" "_law_word" (defArgs s__law_word) (defBody s__law_word) (defScope s__law_word) .none kV21 dc21 pm21 an21 cd21 ct21), sl21⟩) (x21 : PySem.W.codeIn K cd21 "_law_word" = true) (k21 : PySem.W.keepIn K (.ref f21) = true)
    (a22 : PySem.W.nsIn K mainGlobals "_law_ends" = some (some (.ref f22))) (l22 : K.lookup f22 = some ⟨oc22, od22, .func (PySem.W.fnOf "_law_ends" "_law_ends" (defArgs s__law_ends) (defBody s__law_ends) (defScope s__law_ends) .none kV22 dc22 pm22 an22 cd22 ct22), sl22⟩) (x22 : PySem.W.codeIn K cd22 "_law_ends" = true) (k22 : PySem.W.keepIn K (.ref f22) = true)
    (a23 : PySem.W.nsIn K mainGlobals "_law_marks" = some (some (.ref f23))) (l23 : K.lookup f23 = some ⟨oc23, od23, .func (PySem.W.fnOf "_law_marks" "_law_marks" (defArgs s__law_marks) (defBody s__law_marks) (defScope s__law_marks) .none kV23 dc23 pm23 an23 cd23 ct23), sl23⟩) (x23 : PySem.W.codeIn K cd23 "_law_marks" = true) (k23 : PySem.W.keepIn K (.ref f23) = true)
    (a24 : PySem.W.nsIn K mainGlobals "_law_made" = some (some (.ref f24))) (l24 : K.lookup f24 = some ⟨oc24, od24, .func (PySem.W.fnOf "_law_made" "_law_made" (defArgs s__law_made) (defBody s__law_made) (defScope s__law_made) .none kV24 dc24 pm24 an24 cd24 ct24), sl24⟩) (x24 : PySem.W.codeIn K cd24 "_law_made" = true) (k24 : PySem.W.keepIn K (.ref f24) = true)
    (a25 : PySem.W.nsIn K mainGlobals "_law_core" = some (some (.ref f25))) (l25 : K.lookup f25 = some ⟨oc25, od25, .func (PySem.W.fnOf "_law_core" "_law_core" (defArgs s__law_core) (defBody s__law_core) (defScope s__law_core) .none kV25 dc25 pm25 an25 cd25 ct25), sl25⟩) (x25 : PySem.W.codeIn K cd25 "_law_core" = true) (k25 : PySem.W.keepIn K (.ref f25) = true)
    (a26 : PySem.W.nsIn K mainGlobals "_law_gaps" = some (some (.ref f26))) (l26 : K.lookup f26 = some ⟨oc26, od26, .func (PySem.W.fnOf "_law_gaps" "_law_gaps" (defArgs s__law_gaps) (defBody s__law_gaps) (defScope s__law_gaps) .none kV26 dc26 pm26 an26 cd26 ct26), sl26⟩) (x26 : PySem.W.codeIn K cd26 "_law_gaps" = true) (k26 : PySem.W.keepIn K (.ref f26) = true)
    (a27 : PySem.W.nsIn K mainGlobals "_law_grown" = some (some (.ref f27))) (l27 : K.lookup f27 = some ⟨oc27, od27, .func (PySem.W.fnOf "_law_grown" "_law_grown" (defArgs s__law_grown) (defBody s__law_grown) (defScope s__law_grown) .none kV27 dc27 pm27 an27 cd27 ct27), sl27⟩) (x27 : PySem.W.codeIn K cd27 "_law_grown" = true) (k27 : PySem.W.keepIn K (.ref f27) = true)
    (a28 : PySem.W.nsIn K mainGlobals "_law_row_said" = some (some (.ref f28))) (l28 : K.lookup f28 = some ⟨oc28, od28, .func (PySem.W.fnOf "_law_row_said" "_law_row_said" (defArgs s__law_row_said) (defBody s__law_row_said) (defScope s__law_row_said) .none kV28 dc28 pm28 an28 cd28 ct28), sl28⟩) (x28 : PySem.W.codeIn K cd28 "_law_row_said" = true) (k28 : PySem.W.keepIn K (.ref f28) = true)
    (a29 : PySem.W.nsIn K mainGlobals "_law_power" = some (some (.ref f29))) (l29 : K.lookup f29 = some ⟨oc29, od29, .func (PySem.W.fnOf "_law_power" "_law_power" (defArgs s__law_power) (defBody s__law_power) (defScope s__law_power) .none kV29 dc29 pm29 an29 cd29 ct29), sl29⟩) (x29 : PySem.W.codeIn K cd29 "_law_power" = true) (k29 : PySem.W.keepIn K (.ref f29) = true)
    (a30 : PySem.W.nsIn K mainGlobals "law" = some (some (.ref f30))) (l30 : K.lookup f30 = some ⟨oc30, od30, .func (PySem.W.fnOf "law" "law" (defArgs s_law) (defBody s_law) (defScope s_law) .none kV30 dc30 pm30 an30 cd30 ct30), sl30⟩) (x30 : PySem.W.codeIn K cd30 "law" = true) (k30 : PySem.W.keepIn K (.ref f30) = true)
    (z0 : PySem.W.nsIn K mainGlobals "isinstance" = some none)
    (z1 : PySem.W.nsIn K mainGlobals "len" = some none)
    (z2 : PySem.W.nsIn K mainGlobals "enumerate" = some none)
    (z3 : PySem.W.nsIn K mainGlobals "sorted" = some none)
    (z4 : PySem.W.nsIn K mainGlobals "set" = some none)
    (z5 : PySem.W.nsIn K mainGlobals "range" = some none)
    (z6 : PySem.W.nsIn K mainGlobals "all" = some none)
    (z7 : PySem.W.nsIn K mainGlobals "zip" = some none)
    (z8 : PySem.W.nsIn K mainGlobals "max" = some none)
    (z9 : PySem.W.nsIn K mainGlobals "min" = some none)
    (z10 : PySem.W.nsIn K mainGlobals "tuple" = some none)
    (z11 : PySem.W.nsIn K mainGlobals "sum" = some none)
    (z12 : PySem.W.nsIn K mainGlobals "list" = some none)
    (z13 : PySem.W.nsIn K mainGlobals "int" = some none)
    (z14 : PySem.W.nsIn K mainGlobals "str" = some none)
    (z15 : PySem.W.nsIn K mainGlobals "bool" = some none)
    {t1 t2 t3 : Tok}
    (y1 : PySem.W.nsIn K mainGlobals "LETTERS" = some (some (.str (PySem.Str.ofString "abcd") t1)))
    (y2 : PySem.W.nsIn K mainGlobals "MOST_WORD" = some (some (.int 2000 t2)))
    (y3 : PySem.W.nsIn K mainGlobals "MOST_BOUND" = some (some (.int 1000 t3))) : Txt K mg := by
  constructor
  · exact ⟨f0, _, PySem.W.mg_of X G a0, fun_mk (st := s_is_int) l0 x0 k0⟩
  · exact ⟨f1, _, PySem.W.mg_of X G a1, fun_mk (st := s_is_from) l1 x1 k1⟩
  · exact ⟨f2, _, PySem.W.mg_of X G a2, fun_mk (st := s_need_word) l2 x2 k2⟩
  · exact ⟨f3, _, PySem.W.mg_of X G a3, fun_mk (st := s_runs_of) l3 x3 k3⟩
  · exact ⟨f4, _, PySem.W.mg_of X G a4, fun_mk (st := s_marks_of) l4 x4 k4⟩
  · exact ⟨f5, _, PySem.W.mg_of X G a5, fun_mk (st := s_word_of) l5 x5 k5⟩
  · exact ⟨f6, _, PySem.W.mg_of X G a6, fun_mk (st := s_core_of) l6 x6 k6⟩
  · exact ⟨f7, _, PySem.W.mg_of X G a7, fun_mk (st := s_gaps_of) l7 x7 k7⟩
  · exact ⟨f8, _, PySem.W.mg_of X G a8, fun_mk (st := s_sums_of) l8 x8 k8⟩
  · exact ⟨f9, _, PySem.W.mg_of X G a9, fun_mk (st := s_grown) l9 x9 k9⟩
  · exact ⟨f10, _, PySem.W.mg_of X G a10, fun_mk (st := s_need_two) l10 x10 k10⟩
  · exact ⟨f11, _, PySem.W.mg_of X G a11, fun_mk (st := s_grows_to) l11 x11 k11⟩
  · exact ⟨f12, _, PySem.W.mg_of X G a12, fun_mk (st := s_is_saying) l12 x12 k12⟩
  · exact ⟨f13, _, PySem.W.mg_of X G a13, fun_mk (st := s_need_bound) l13 x13 k13⟩
  · exact ⟨f14, _, PySem.W.mg_of X G a14, fun_mk (st := s_turns_for) l14 x14 k14⟩
  · exact ⟨f15, _, PySem.W.mg_of X G a15, fun_mk (st := s_fewest_sayings) l15 x15 k15⟩
  · exact ⟨f16, _, PySem.W.mg_of X G a16, fun_mk (st := s_row_for) l16 x16 k16⟩
  · exact ⟨f17, _, PySem.W.mg_of X G a17, fun_mk (st := s_sayings_to) l17 x17 k17⟩
  · exact ⟨f18, _, PySem.W.mg_of X G a18, fun_mk (st := s_stops_on_the_way) l18 x18 k18⟩
  · exact ⟨f19, _, PySem.W.mg_of X G a19, fun_mk (st := s__law_taken) l19 x19 k19⟩
  · exact ⟨f20, _, PySem.W.mg_of X G a20, fun_mk (st := s__law_alike) l20 x20 k20⟩
  · exact ⟨f21, _, PySem.W.mg_of X G a21, fun_mk (st := s__law_word) l21 x21 k21⟩
  · exact ⟨f22, _, PySem.W.mg_of X G a22, fun_mk (st := s__law_ends) l22 x22 k22⟩
  · exact ⟨f23, _, PySem.W.mg_of X G a23, fun_mk (st := s__law_marks) l23 x23 k23⟩
  · exact ⟨f24, _, PySem.W.mg_of X G a24, fun_mk (st := s__law_made) l24 x24 k24⟩
  · exact ⟨f25, _, PySem.W.mg_of X G a25, fun_mk (st := s__law_core) l25 x25 k25⟩
  · exact ⟨f26, _, PySem.W.mg_of X G a26, fun_mk (st := s__law_gaps) l26 x26 k26⟩
  · exact ⟨f27, _, PySem.W.mg_of X G a27, fun_mk (st := s__law_grown) l27 x27 k27⟩
  · exact ⟨f28, _, PySem.W.mg_of X G a28, fun_mk (st := s__law_row_said) l28 x28 k28⟩
  · exact ⟨f29, _, PySem.W.mg_of X G a29, fun_mk (st := s__law_power) l29 x29 k29⟩
  · exact ⟨f30, _, PySem.W.mg_of X G a30, fun_mk (st := s_law) l30 x30 k30⟩
  · exact PySem.W.mg_none_of X G z0
  · exact PySem.W.mg_none_of X G z1
  · exact PySem.W.mg_none_of X G z2
  · exact PySem.W.mg_none_of X G z3
  · exact PySem.W.mg_none_of X G z4
  · exact PySem.W.mg_none_of X G z5
  · exact PySem.W.mg_none_of X G z6
  · exact PySem.W.mg_none_of X G z7
  · exact PySem.W.mg_none_of X G z8
  · exact PySem.W.mg_none_of X G z9
  · exact PySem.W.mg_none_of X G z10
  · exact PySem.W.mg_none_of X G z11
  · exact PySem.W.mg_none_of X G z12
  · exact PySem.W.mg_none_of X G z13
  · exact PySem.W.mg_none_of X G z14
  · exact PySem.W.mg_none_of X G z15
  · exact ⟨_, PySem.W.mg_of X G y1⟩
  · exact ⟨_, PySem.W.mg_of X G y2⟩
  · exact ⟨_, PySem.W.mg_of X G y3⟩
theorem law_mk {l : PySem.W.OpenLaw} {w : World} {K : PySem.W.Frag} {h : Heap} {mg : Str → Option Value} {fa : Addr} (X : K.In h) (G : h.Ns mainGlobals mg) (hfa : mg "law" = some (.ref fa)) (T : Txt K mg) :
    ∃ fd : FuncData, (∀ (s : Shared) (v : Value), BindsTo s fd ⟨[v], []⟩ [("_law_script", v)]) ∧ ∀ base : Heap, K.In base → base.Ns mainGlobals mg → FnOk l.prog w K mg base CX0 6 fa fd ["_law_script"] (spLaw K) := by
  obtain ⟨f, fd, g, F⟩ := T.d_law
  rw [hfa] at g
  cases g
  refine ⟨fd, fun s v => ?_, fun base _ _ => ok_law law_reads T F⟩
  obtain ⟨oc, od, kV, doc, pm, an, cdv, ct, osl, rfl, lk, hcd⟩ := F.ex
  exact .of_eq rfl
end Sc
open PySem PySem.W PyProof.Rows
set_option maxHeartbeats 0 in
theorem PySem.Challenge.cw_saidcounts_k41_whole_fewest_sayings_holds : PySem.Challenge.rw_saidcounts_k41_whole_fewest_sayings.Holds := by
  w_on; o_law; k_head; (case hw => w_witness2)
  k_fill
  refine L2.walk_of (l := PySem.Challenge.rw_saidcounts_k41_whole_fewest_sayings) (n := 63) (k := 6) (x := "_law_script") (CX := fun _ => L2.CX0) (sp := fun w => Sc.spLaw _) rfl (by decide) rfl ⟨rfl, by decide, by decide⟩ (fun w h Y => PySem.W.kIn_of Y) ?F (fun _ _ a ns hl _ hS => ⟨a, ns, rfl, hS, hl, fun _ => rfl⟩) (fun _ _ _ _ _ h => h)
  case F =>
    intro w mg fa h KX G hmg
    refine' Sc.law_mk KX G hmg (Sc.txt_mk KX G ?a0 ?l0 ?x0 ?k0 ?a1 ?l1 ?x1 ?k1 ?a2 ?l2 ?x2 ?k2 ?a3 ?l3 ?x3 ?k3 ?a4 ?l4 ?x4 ?k4 ?a5 ?l5 ?x5 ?k5 ?a6 ?l6 ?x6 ?k6 ?a7 ?l7 ?x7 ?k7 ?a8 ?l8 ?x8 ?k8 ?a9 ?l9 ?x9 ?k9 ?a10 ?l10 ?x10 ?k10 ?a11 ?l11 ?x11 ?k11 ?a12 ?l12 ?x12 ?k12 ?a13 ?l13 ?x13 ?k13 ?a14 ?l14 ?x14 ?k14 ?a15 ?l15 ?x15 ?k15 ?a16 ?l16 ?x16 ?k16 ?a17 ?l17 ?x17 ?k17 ?a18 ?l18 ?x18 ?k18 ?a19 ?l19 ?x19 ?k19 ?a20 ?l20 ?x20 ?k20 ?a21 ?l21 ?x21 ?k21 ?a22 ?l22 ?x22 ?k22 ?a23 ?l23 ?x23 ?k23 ?a24 ?l24 ?x24 ?k24 ?a25 ?l25 ?x25 ?k25 ?a26 ?l26 ?x26 ?k26 ?a27 ?l27 ?x27 ?k27 ?a28 ?l28 ?x28 ?k28 ?a29 ?l29 ?x29 ?k29 ?a30 ?l30 ?x30 ?k30 ?z0 ?z1 ?z2 ?z3 ?z4 ?z5 ?z6 ?z7 ?z8 ?z9 ?z10 ?z11 ?z12 ?z13 ?z14 ?z15 ?y1 ?y2 ?y3)
    (case a0 => k_is); (case l0 => k_is); (case x0 => k_is); (case k0 => k_is)
    (case a1 => k_is); (case l1 => k_is); (case x1 => k_is); (case k1 => k_is)
    (case a2 => k_is); (case l2 => k_is); (case x2 => k_is); (case k2 => k_is)
    (case a3 => k_is); (case l3 => k_is); (case x3 => k_is); (case k3 => k_is)
    (case a4 => k_is); (case l4 => k_is); (case x4 => k_is); (case k4 => k_is)
    (case a5 => k_is); (case l5 => k_is); (case x5 => k_is); (case k5 => k_is)
    (case a6 => k_is); (case l6 => k_is); (case x6 => k_is); (case k6 => k_is)
    (case a7 => k_is); (case l7 => k_is); (case x7 => k_is); (case k7 => k_is)
    (case a8 => k_is); (case l8 => k_is); (case x8 => k_is); (case k8 => k_is)
    (case a9 => k_is); (case l9 => k_is); (case x9 => k_is); (case k9 => k_is)
    (case a10 => k_is); (case l10 => k_is); (case x10 => k_is); (case k10 => k_is)
    (case a11 => k_is); (case l11 => k_is); (case x11 => k_is); (case k11 => k_is)
    (case a12 => k_is); (case l12 => k_is); (case x12 => k_is); (case k12 => k_is)
    (case a13 => k_is); (case l13 => k_is); (case x13 => k_is); (case k13 => k_is)
    (case a14 => k_is); (case l14 => k_is); (case x14 => k_is); (case k14 => k_is)
    (case a15 => k_is); (case l15 => k_is); (case x15 => k_is); (case k15 => k_is)
    (case a16 => k_is); (case l16 => k_is); (case x16 => k_is); (case k16 => k_is)
    (case a17 => k_is); (case l17 => k_is); (case x17 => k_is); (case k17 => k_is)
    (case a18 => k_is); (case l18 => k_is); (case x18 => k_is); (case k18 => k_is)
    (case a19 => k_is); (case l19 => k_is); (case x19 => k_is); (case k19 => k_is)
    (case a20 => k_is); (case l20 => k_is); (case x20 => k_is); (case k20 => k_is)
    (case a21 => k_is); (case l21 => k_is); (case x21 => k_is); (case k21 => k_is)
    (case a22 => k_is); (case l22 => k_is); (case x22 => k_is); (case k22 => k_is)
    (case a23 => k_is); (case l23 => k_is); (case x23 => k_is); (case k23 => k_is)
    (case a24 => k_is); (case l24 => k_is); (case x24 => k_is); (case k24 => k_is)
    (case a25 => k_is); (case l25 => k_is); (case x25 => k_is); (case k25 => k_is)
    (case a26 => k_is); (case l26 => k_is); (case x26 => k_is); (case k26 => k_is)
    (case a27 => k_is); (case l27 => k_is); (case x27 => k_is); (case k27 => k_is)
    (case a28 => k_is); (case l28 => k_is); (case x28 => k_is); (case k28 => k_is)
    (case a29 => k_is); (case l29 => k_is); (case x29 => k_is); (case k29 => k_is)
    (case a30 => k_is); (case l30 => k_is); (case x30 => k_is); (case k30 => k_is)
    (case z0 => k_is); (case z1 => k_is); (case z2 => k_is); (case z3 => k_is); (case z4 => k_is); (case z5 => k_is); (case z6 => k_is); (case z7 => k_is); (case z8 => k_is); (case z9 => k_is); (case z10 => k_is); (case z11 => k_is); (case z12 => k_is); (case z13 => k_is); (case z14 => k_is); (case z15 => k_is)
    (case y1 => k_is); (case y2 => k_is); (case y3 => k_is)
